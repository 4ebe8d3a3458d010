import PyProof.Rows.All
import Wide.All
import OpenK.AllK
import Wide.FinOn
import HandS.ForMost
import HandS.ForExc
import HandS.Codes
import HandS.Walk
import HandS.IsInst
import HandS.Zip
import HandS.Defaults
import HandS.Ends
import HandS.Style
import PyProof.StrLawsRepr
import PyProof.ReprLen
import HandS.Set
import HandS.SetFor
import HandS.SetKeys
import HandS.Strs
import KE.SortData
import PySem.Challenge.RW_windowlaw_k05_whole_rows_sign_by_sign
set_option Elab.async false
set_option linter.all false
set_option maxRecDepth 100000
set_option maxHeartbeats 2000000
/-! DL: values as data trees, mutable objects as numbered cells; judgements by weakest preconditions over data. -/
namespace DL
open PySem L2
/-- data: what a value is, whatever address it has -/
inductive D where
  | non | bl (b : Bool) | int (i : Int) | txt (l : List Nat) | ty (n : String) | ref (a : Addr)
  | scr (ns : List Int)
  | lst (ds : List D) | tup (ds : List D)
  | ins (C : Addr) (fs : List Str) (ds : List D)
abbrev KList (K : PySem.W.Frag) (a : Addr) (xs : List V) : Prop := ∃ (o : Obj) (its : Array Value) (n : Nat), K.lookup a = some o ∧ o.cls = .type "list" ∧ o.dict = none ∧ o.data = .seq its n ∧ its.size ≤ sizeLine ∧ Vals xs its.toList
section
variable (K : PySem.W.Frag) (L : Addr → Prop) (H : Hp)
mutual
/-- v is d; L: the cells that live (no data goes through them) -/
def Rep : D → V → Prop
  | .non, v => v = .non
  | .bl b, v => v = .bl b
  | .int i, v => v = .int i
  | .txt l, v => v = .str (SX.S l)
  | .ty n, v => v = .ty n
  | .ref a, v => v = .ref a
  | .scr ns, v => ∃ a, v = .ref a ∧ ((¬ L a ∧ Rd H a (.lst (ns.map V.int))) ∨ KList K a (ns.map V.int))
  | .lst ds, v => ∃ a xs, v = .ref a ∧ ¬ L a ∧ H a = some (.lst xs) ∧ Reps ds xs
  | .tup ds, v => ∃ a xs, v = .ref a ∧ ¬ L a ∧ H a = some (.tup xs) ∧ Reps ds xs
  | .ins C fs ds, v => ∃ a dx gs, v = .ref a ∧ ¬ L a ∧ H a = some (.ins C dx gs) ∧ gs.map (·.1) = fs ∧ Reps ds (gs.map (·.2))
def Reps : List D → List V → Prop
  | [], xs => xs = []
  | d :: ds, xs => ∃ x r, xs = x :: r ∧ Rep d x ∧ Reps ds r
end
end
/-- a value of the def: data, or a living cell -/
inductive XV where
  | d (x : D) | l (n : Nat)
inductive MO where
  | lst (xs : List XV)
  | ins (C : Addr) (fs : List Str) (xs : List XV)
abbrev Mem := List (Option MO)
abbrev Env := List (Option XV)
/-- where the cells lie; what is others' -/
structure IA where
  ι : List Addr
  F : Addr → Prop
def Live (μ : Mem) (w : IA) (a : Addr) : Prop := w.F a ∨ ∃ (n : Nat) (m : MO), μ[n]? = some (some m) ∧ w.ι[n]? = some a
def RepX (K : PySem.W.Frag) (μ : Mem) (H : Hp) (w : IA) : XV → V → Prop
  | .d x, v => Rep K (Live μ w) H x v
  | .l n, v => ∃ a, w.ι[n]? = some a ∧ v = .ref a
abbrev RepXs (K : PySem.W.Frag) (μ : Mem) (H : Hp) (w : IA) : List XV → List V → Prop := Paired (RepX K μ H w)
def Holds (K : PySem.W.Frag) (μ : Mem) (H : Hp) (w : IA) : MO → Addr → Prop
  | .lst xs, a => ∃ vs, H a = some (.lst vs) ∧ RepXs K μ H w xs vs
  | .ins C fs xs, a => ∃ dx gs, H a = some (.ins C dx gs) ∧ gs.map (·.1) = fs ∧ RepXs K μ H w xs (gs.map (·.2))
structure MOk (K : PySem.W.Frag) (μ : Mem) (H : Hp) (w : IA) : Prop where
  len : w.ι.length = μ.length
  inj : ∀ (i j : Nat) (mi mj : MO) (a : Addr), μ[i]? = some (some mi) → μ[j]? = some (some mj) → w.ι[i]? = some a → w.ι[j]? = some a → i = j
  holds : ∀ (n : Nat) (m : MO) (a : Addr), μ[n]? = some (some m) → w.ι[n]? = some a → Holds K μ H w m a
  nF : ∀ (n : Nat) (m : MO) (a : Addr), μ[n]? = some (some m) → w.ι[n]? = some a → ¬ w.F a
  fr : ∀ a, w.F a → ∃ o, H a = some o
structure ROk (K : PySem.W.Frag) (μ : Mem) (H : Hp) (w : IA) (ρ : Env) (σ : L2.St) : Prop where
  len : ρ.length = σ.length
  rep : ∀ (i : Nat) (x : XV), ρ[i]? = some (some x) → ∃ v, σ[i]? = some (some v) ∧ RepX K μ H w x v
/-- what data leans on is kept; cells keep their numbers; what is others' stays -/
structure Stp (μ : Mem) (H : Hp) (w : IA) (μ' : Mem) (H' : Hp) (w' : IA) : Prop where
  keep : ∀ a o, H a = some o → ¬ Live μ w a → H' a = some o ∧ ¬ Live μ' w' a
  num : ∀ (n : Nat) a, w.ι[n]? = some a → w'.ι[n]? = some a
  sF : w'.F = w.F
  frm : ∀ a o, w.F a → H a = some o → H' a = some o
section
variable {K : PySem.W.Frag} {L L' : Addr → Prop} {H H' : Hp}
mutual
theorem Rep.mono (k : ∀ a o, H a = some o → ¬ L a → H' a = some o ∧ ¬ L' a) : ∀ (d : D) (v : V), Rep K L H d v → Rep K L' H' d v
  | .non, _, h => h
  | .bl _, _, h => h
  | .int _, _, h => h
  | .txt _, _, h => h
  | .ty _, _, h => h
  | .ref _, _, h => h
  | .scr ns, v, h => by
    obtain ⟨a, e, ⟨r, q | ⟨o, q⟩⟩ | r⟩ := h
    · exact ⟨a, e, .inl ⟨(k a _ q r).2, .inl (k a _ q r).1⟩⟩
    · exact ⟨a, e, .inl ⟨(k a _ q r).2, .inr ⟨o, (k a _ q r).1⟩⟩⟩
    · exact ⟨a, e, .inr r⟩
  | .lst ds, v, h => by
    obtain ⟨a, xs, e, nl, q, r⟩ := h
    exact ⟨a, xs, e, (k a _ q nl).2, (k a _ q nl).1, Reps.mono k ds xs r⟩
  | .tup ds, v, h => by
    obtain ⟨a, xs, e, nl, q, r⟩ := h
    exact ⟨a, xs, e, (k a _ q nl).2, (k a _ q nl).1, Reps.mono k ds xs r⟩
  | .ins C fs ds, v, h => by
    obtain ⟨a, dx, gs, e, nl, q, g, r⟩ := h
    exact ⟨a, dx, gs, e, (k a _ q nl).2, (k a _ q nl).1, g, Reps.mono k ds _ r⟩
theorem Reps.mono (k : ∀ a o, H a = some o → ¬ L a → H' a = some o ∧ ¬ L' a) : ∀ (ds : List D) (xs : List V), Reps K L H ds xs → Reps K L' H' ds xs
  | [], _, h => h
  | d :: ds, xs, h => by
    obtain ⟨x, r, e, h1, h2⟩ := h
    exact ⟨x, r, e, Rep.mono k d x h1, Reps.mono k ds r h2⟩
end
theorem Reps.len : ∀ {ds : List D} {xs : List V}, Reps K L H ds xs → xs.length = ds.length
  | [], _, h => by rw [show _ = [] from h]; rfl
  | d :: ds, xs, h => by
    obtain ⟨x, r, e, _, h2⟩ := h
    rw [e, List.length_cons, List.length_cons, Reps.len h2]
theorem Reps.get : ∀ {ds : List D} {xs : List V} {i : Nat} {d : D}, Reps K L H ds xs → ds[i]? = some d → ∃ v, xs[i]? = some v ∧ Rep K L H d v
  | [], _, _, _, _, e => by simp at e
  | d :: ds, xs, 0, d', h, e => by
    obtain ⟨x, r, rfl, h1, _⟩ := h
    simp at e
    subst e
    exact ⟨x, rfl, h1⟩
  | d :: ds, xs, i + 1, d', h, e => by
    obtain ⟨x, r, rfl, _, h2⟩ := h
    obtain ⟨v, e1, q⟩ := Reps.get (i := i) h2 (by simpa using e)
    exact ⟨v, by simpa using e1, q⟩
theorem Reps.append : ∀ {ds es : List D} {xs ys : List V}, Reps K L H ds xs → Reps K L H es ys → Reps K L H (ds ++ es) (xs ++ ys)
  | [], _, _, _, h, k => by rw [show _ = [] from h]; exact k
  | d :: ds, _, _, _, h, k => by
    obtain ⟨x, r, rfl, h1, h2⟩ := h
    exact ⟨x, _, rfl, h1, Reps.append h2 k⟩
theorem Reps.take : ∀ {ds : List D} {xs : List V} (n : Nat), Reps K L H ds xs → Reps K L H (ds.take n) (xs.take n)
  | _, _, 0, _ => by simp [Reps]
  | [], _, n + 1, h => by rw [show _ = [] from h]; simp [Reps]
  | d :: ds, _, n + 1, h => by
    obtain ⟨x, r, rfl, h1, h2⟩ := h
    exact ⟨x, _, rfl, h1, Reps.take n h2⟩
theorem Reps.drop : ∀ {ds : List D} {xs : List V} (n : Nat), Reps K L H ds xs → Reps K L H (ds.drop n) (xs.drop n)
  | _, _, 0, h => h
  | [], _, n + 1, h => by rw [show _ = [] from h]; simp [Reps]
  | d :: ds, _, n + 1, h => by
    obtain ⟨x, r, rfl, h1, h2⟩ := h
    exact Reps.drop n h2
theorem Reps.one {d : D} {v : V} (h : Rep K L H d v) : Reps K L H [d] [v] := ⟨v, [], rfl, h, rfl⟩
theorem Reps.ints : ∀ {ns : List Int} {xs : List V}, Reps K L H (ns.map D.int) xs → xs = ns.map V.int
  | [], _, h => h
  | n :: ns, _, h => by
    obtain ⟨x, r, rfl, h1, h2⟩ := h
    rw [Reps.ints h2, show x = V.int n from h1]
    rfl
theorem Reps.of_ints : ∀ {ns : List Int}, Reps K L H (ns.map D.int) (ns.map V.int)
  | [] => rfl
  | n :: ns => ⟨_, _, rfl, rfl, Reps.of_ints⟩
theorem Reps.txts : ∀ {ls : List (List Nat)} {xs : List V}, Reps K L H (ls.map D.txt) xs → xs = (ls.map SX.S).map V.str
  | [], _, h => h
  | n :: ns, _, h => by
    obtain ⟨x, r, rfl, h1, h2⟩ := h
    rw [Reps.txts h2, show x = V.str (SX.S n) from h1]
    rfl
theorem Reps.of_txts : ∀ {ls : List (List Nat)}, Reps K L H (ls.map D.txt) ((ls.map SX.S).map V.str)
  | [] => rfl
  | n :: ns => ⟨_, _, rfl, rfl, Reps.of_txts⟩
theorem Reps.bls : ∀ {bs : List Bool} {xs : List V}, Reps K L H (bs.map D.bl) xs → xs = bs.map V.bl
  | [], _, h => h
  | n :: ns, _, h => by
    obtain ⟨x, r, rfl, h1, h2⟩ := h
    rw [Reps.bls h2, show x = V.bl n from h1]
    rfl
end
section
variable {K : PySem.W.Frag} {μ μ' μ2 : Mem} {H H' H2 : Hp} {w w' w2 : IA} {ρ : Env} {σ : L2.St}
theorem Stp.refl : Stp μ H w μ H w := ⟨fun _ _ h n => ⟨h, n⟩, fun _ _ h => h, rfl, fun _ _ _ h => h⟩
theorem Stp.trans (a : Stp μ H w μ' H' w') (b : Stp μ' H' w' μ2 H2 w2) : Stp μ H w μ2 H2 w2 :=
  ⟨fun c o h n => b.keep c o (a.keep c o h n).1 (a.keep c o h n).2, fun n c h => b.num n c (a.num n c h), b.sF.trans a.sF, fun c o f h => b.frm c o (by rw [a.sF]; exact f) (a.frm c o f h)⟩
theorem RepX.stp (S : Stp μ H w μ' H' w') {x : XV} {v : V} (h : RepX K μ H w x v) : RepX K μ' H' w' x v := by
  cases x with
  | d x => exact Rep.mono S.keep x v h
  | l n =>
    obtain ⟨a, e, r⟩ := h
    exact ⟨a, S.num n a e, r⟩
theorem RepXs.stp (S : Stp μ H w μ' H' w') {xs : List XV} {vs : List V} (h : RepXs K μ H w xs vs) : RepXs K μ' H' w' xs vs :=
  Paired.mapP h fun _ _ r => r.stp S
theorem ROk.stp (S : Stp μ H w μ' H' w') (h : ROk K μ H w ρ σ) : ROk K μ' H' w' ρ σ := ⟨h.len, fun i x e => by
  obtain ⟨v, e1, r⟩ := h.rep i x e
  exact ⟨v, e1, r.stp S⟩⟩
theorem Holds.stp (S : Stp μ H w μ' H' w') {m : MO} {a : Addr} (k : ∀ o, H a = some o → H' a = some o) (h : Holds K μ H w m a) : Holds K μ' H' w' m a := by
  cases m with
  | lst xs =>
    obtain ⟨vs, e, r⟩ := h
    exact ⟨vs, k _ e, RepXs.stp S r⟩
  | ins C fs xs =>
    obtain ⟨dx, gs, e, f, r⟩ := h
    exact ⟨dx, gs, k _ e, f, RepXs.stp S r⟩
theorem Holds.there {m : MO} {a : Addr} (h : Holds K μ H w m a) : ∃ o, H a = some o := by
  cases m with
  | lst xs => obtain ⟨vs, e, r⟩ := h; exact ⟨_, e⟩
  | ins C fs xs => obtain ⟨dx, gs, e, _⟩ := h; exact ⟨_, e⟩
theorem MOk.live_there (M : MOk K μ H w) {a : Addr} (h : Live μ w a) : ∃ o, H a = some o := by
  rcases h with h | ⟨n, m, e1, e2⟩
  · exact M.fr a h
  · exact (M.holds n m a e1 e2).there
theorem MOk.no_live (M : MOk K μ H w) {p : Addr} (hp : H p = none) (l : Live μ w p) : False := by
  obtain ⟨u, hu⟩ := M.live_there l
  rw [hp] at hu
  cases hu
/-- new objects, nothing else -/
theorem Stp.grow (k : ∀ a o, H a = some o → H' a = some o) : Stp μ H w μ H' w := ⟨fun a o h n => ⟨k a o h, n⟩, fun _ _ h => h, rfl, fun a o _ h => k a o h⟩
theorem MOk.grow (M : MOk K μ H w) (k : ∀ a o, H a = some o → H' a = some o) : MOk K μ H' w :=
  ⟨M.len, M.inj, fun n m a e1 e2 => Holds.stp (Stp.grow k) (fun o h => k a o h) (M.holds n m a e1 e2), M.nF, fun a f => let ⟨o, h⟩ := M.fr a f; ⟨o, k a o h⟩⟩
theorem upd_grow {p : Addr} {o : HO} (h : H p = none) : ∀ a u, H a = some u → upd H p o a = some u := fun a u e => by
  rw [upd_ne (ne_of_none e h)]
  exact e
/-- a new cell -/
def IA.push (w : IA) (p : Addr) : IA := ⟨w.ι ++ [p], w.F⟩
theorem live_push {m : MO} {p a : Addr} (M : MOk K μ H w) : Live (μ ++ [some m]) (w.push p) a ↔ Live μ w a ∨ a = p := by
  have hl := M.len
  constructor
  · rintro (f | ⟨n, mm, e1, e2⟩)
    · exact .inl (.inl f)
    · have e2 : (w.ι ++ [p])[n]? = some a := e2
      by_cases hn : n < μ.length
      · rw [List.getElem?_append_left hn] at e1
        rw [List.getElem?_append_left (by omega)] at e2
        exact .inl (.inr ⟨n, mm, e1, e2⟩)
      · have hn2 : n = w.ι.length := by
          have : n < (w.ι ++ [p]).length := (List.getElem?_eq_some_iff.mp e2).1
          rw [List.length_append] at this
          simp at this
          omega
        subst hn2
        rw [List.getElem?_append_right (Nat.le_refl _)] at e2
        simp at e2
        exact .inr e2.symm
  · rintro ((f | ⟨n, mm, e1, e2⟩) | rfl)
    · exact .inl f
    · refine .inr ⟨n, mm, ?_, ?_⟩
      · rw [List.getElem?_append_left (List.getElem?_eq_some_iff.mp e1).1]; exact e1
      · show (w.ι ++ [p])[n]? = _
        rw [List.getElem?_append_left (List.getElem?_eq_some_iff.mp e2).1]; exact e2
    · refine .inr ⟨μ.length, m, ?_, ?_⟩
      · rw [List.getElem?_append_right (Nat.le_refl _)]; simp
      · show (w.ι ++ [a])[μ.length]? = _
        rw [← hl, List.getElem?_append_right (Nat.le_refl _)]; simp
theorem Stp.push {m : MO} {p : Addr} (M : MOk K μ H w) (hp : H p = none) (k : ∀ a o, H a = some o → H' a = some o) : Stp μ H w (μ ++ [some m]) H' (w.push p) := by
  refine ⟨fun a o h n => ⟨k a o h, fun q => ?_⟩, fun n a e => ?_, rfl, fun a o _ h => k a o h⟩
  · rcases (live_push M).mp q with q | q
    · exact n q
    · exact ne_of_none h hp q
  · show (w.ι ++ [p])[n]? = some a
    rw [List.getElem?_append_left (List.getElem?_eq_some_iff.mp e).1]
    exact e
theorem MOk.push {m : MO} {p : Addr} (M : MOk K μ H w) (hp : H p = none) (k : ∀ a o, H a = some o → H' a = some o) (h : Holds K (μ ++ [some m]) H' (w.push p) m p) : MOk K (μ ++ [some m]) H' (w.push p) := by
  have S : Stp μ H w (μ ++ [some m]) H' (w.push p) := Stp.push M hp k
  have hl := M.len
  have split : ∀ (n : Nat) (mm : MO) (a : Addr), (μ ++ [some m])[n]? = some (some mm) → (w.ι ++ [p])[n]? = some a → (μ[n]? = some (some mm) ∧ w.ι[n]? = some a) ∨ (n = μ.length ∧ mm = m ∧ a = p) := by
    intro n mm a e1 e2
    by_cases hn : n < μ.length
    · rw [List.getElem?_append_left hn] at e1
      rw [List.getElem?_append_left (by omega)] at e2
      exact .inl ⟨e1, e2⟩
    · have hn2 : n = μ.length := by
        have : n < (μ ++ [some m]).length := (List.getElem?_eq_some_iff.mp e1).1
        rw [List.length_append] at this
        simp at this
        omega
      subst hn2
      rw [List.getElem?_append_right (Nat.le_refl _)] at e1
      rw [← hl, List.getElem?_append_right (Nat.le_refl _)] at e2
      simp at e1 e2
      exact .inr ⟨rfl, e1.symm, e2.symm⟩
  refine ⟨by show (w.ι ++ [p]).length = _; rw [List.length_append, List.length_append, hl]; rfl, fun i j mi mj a e1 e2 e3 e4 => ?_, fun n mm a e1 e2 => ?_, fun n mm a e1 e2 f => ?_, fun a f => let ⟨o, h⟩ := M.fr a f; ⟨o, k a o h⟩⟩
  · rcases split i mi a e1 e3 with ⟨a1, a2⟩ | ⟨a1, a2, a3⟩
    · rcases split j mj a e2 e4 with ⟨b1, b2⟩ | ⟨b1, b2, b3⟩
      · exact M.inj i j mi mj a a1 b1 a2 b2
      · obtain ⟨o, ho⟩ := (M.holds i mi a a1 a2).there
        subst b3
        rw [hp] at ho
        cases ho
    · rcases split j mj a e2 e4 with ⟨b1, b2⟩ | ⟨b1, b2, b3⟩
      · obtain ⟨o, ho⟩ := (M.holds j mj a b1 b2).there
        subst a3
        rw [hp] at ho
        cases ho
      · rw [a1, b1]
  · rcases split n mm a e1 e2 with ⟨a1, a2⟩ | ⟨a1, a2, a3⟩
    · exact (M.holds n mm a a1 a2).stp S fun o h => k a o h
    · subst a2; subst a3; exact h
  · rcases split n mm a e1 e2 with ⟨a1, a2⟩ | ⟨a1, a2, a3⟩
    · exact M.nF n mm a a1 a2 f
    · subst a3
      obtain ⟨o, ho⟩ := M.fr a f
      rw [hp] at ho
      cases ho
/-- a cell is written (some m) or let go (none) -/
theorem live_set {n : Nat} {m0 : MO} {mo : Option MO} {a b : Addr} (hn : μ[n]? = some (some m0)) (ha : w.ι[n]? = some a) : Live (μ.set n mo) w b → Live μ w b := by
  rintro (f | ⟨k, mm, e1, e2⟩)
  · exact .inl f
  · by_cases hk : n = k
    · subst hk
      rw [ha] at e2
      cases e2
      exact .inr ⟨n, m0, hn, ha⟩
    · rw [List.getElem?_set_ne hk] at e1
      exact .inr ⟨k, mm, e1, e2⟩
theorem Stp.set {n : Nat} {m0 : MO} {mo : Option MO} {a : Addr} (M : MOk K μ H w) (hn : μ[n]? = some (some m0)) (ha : w.ι[n]? = some a) (k : ∀ b o, b ≠ a → H b = some o → H' b = some o) : Stp μ H w (μ.set n mo) H' w := by
  refine ⟨fun b o h nl => ⟨k b o (fun e => nl (e ▸ .inr ⟨n, m0, hn, ha⟩)) h, fun q => nl (live_set hn ha q)⟩, fun _ _ h => h, rfl, fun b o f h => k b o (fun e => M.nF n m0 a hn ha (e ▸ f)) h⟩
theorem MOk.set {n : Nat} {m0 : MO} {mo : Option MO} {a : Addr} (M : MOk K μ H w) (hn : μ[n]? = some (some m0)) (ha : w.ι[n]? = some a) (k : ∀ b o, b ≠ a → H b = some o → H' b = some o)
    (h : ∀ m, mo = some m → Holds K (μ.set n mo) H' w m a) : MOk K (μ.set n mo) H' w := by
  have S : Stp μ H w (μ.set n mo) H' w := Stp.set M hn ha k
  have old : ∀ (i : Nat) (m : MO), i ≠ n → (μ.set n mo)[i]? = some (some m) → μ[i]? = some (some m) := fun i m hi e => by
    rw [List.getElem?_set_ne (Ne.symm hi)] at e
    exact e
  have hlt : n < μ.length := (List.getElem?_eq_some_iff.mp hn).1
  have key : ∀ (i : Nat) (m : MO), (μ.set n mo)[i]? = some (some m) → ∃ m', μ[i]? = some (some m') := fun i m e => by
    by_cases hi : i = n
    · subst hi; exact ⟨m0, hn⟩
    · exact ⟨m, old i m hi e⟩
  refine ⟨by rw [List.length_set]; exact M.len, fun i j mi mj b e1 e2 e3 e4 => ?_, fun i m b e1 e2 => ?_, fun i m b e1 e2 f => ?_, fun b f => ?_⟩
  · obtain ⟨m1, q1⟩ := key i mi e1
    obtain ⟨m2, q2⟩ := key j mj e2
    exact M.inj i j m1 m2 b q1 q2 e3 e4
  · by_cases hi : i = n
    · subst hi
      rw [ha] at e2
      cases e2
      rw [List.getElem?_set_self hlt] at e1
      exact h m (Option.some.inj e1)
    · have q := old i m hi e1
      have hne : b ≠ a := fun e => hi (M.inj i n m m0 a q hn (by rw [← e]; exact e2) ha)
      exact (M.holds i m b q e2).stp S fun o ho => k b o hne ho
  · obtain ⟨m1, q1⟩ := key i m e1
    exact M.nF i m1 b q1 e2 f
  · obtain ⟨o, ho⟩ := M.fr b f
    exact ⟨o, k b o (fun e => M.nF n m0 a hn ha (e ▸ f)) ho⟩
/-- the cells behind the first n are forgotten -/
def IA.cut (w : IA) (n : Nat) : IA := ⟨w.ι.take n, w.F⟩
theorem live_cut {n : Nat} {a : Addr} : Live (μ.take n) (w.cut n) a → Live μ w a := by
  rintro (f | ⟨k, m, e1, e2⟩)
  · exact .inl f
  · have h1 : k < n := by
      have := (List.getElem?_eq_some_iff.mp e1).1
      rw [List.length_take] at this
      omega
    have e2 : (w.ι.take n)[k]? = some a := e2
    rw [List.getElem?_take_of_lt h1] at e1 e2
    exact .inr ⟨k, m, e1, e2⟩
theorem Rep.cut {n : Nat} {x : D} {v : V} (h : Rep K (Live μ w) H x v) : Rep K (Live (μ.take n) (w.cut n)) H x v := Rep.mono (fun a o e nl => ⟨e, fun q => nl (live_cut q)⟩) x v h
/-- a handle that is left behind the cut -/
def XV.below (n : Nat) : XV → Prop
  | .d _ => True
  | .l k => k < n
def MO.below (n : Nat) : MO → Prop
  | .lst xs => ∀ x ∈ xs, x.below n
  | .ins _ _ xs => ∀ x ∈ xs, x.below n
theorem RepX.cut {n : Nat} {x : XV} {v : V} (hb : x.below n) (h : RepX K μ H w x v) : RepX K (μ.take n) H (w.cut n) x v := by
  cases x with
  | d x => exact Rep.cut h
  | l k =>
    obtain ⟨a, e, r⟩ := h
    refine ⟨a, ?_, r⟩
    show (w.ι.take n)[k]? = some a
    rw [List.getElem?_take_of_lt hb]
    exact e
theorem RepXs.cut {n : Nat} : ∀ {xs : List XV} {vs : List V}, (∀ x ∈ xs, x.below n) → RepXs K μ H w xs vs → RepXs K (μ.take n) H (w.cut n) xs vs
  | _, _, _, .nil => .nil
  | _, _, hb, .cons r t => .cons (RepX.cut (hb _ List.mem_cons_self) r) (RepXs.cut (fun x hx => hb x (List.mem_cons_of_mem _ hx)) t)
theorem MOk.cut (M : MOk K μ H w) (n : Nat) (hb : ∀ m, some m ∈ μ.take n → m.below n) : MOk K (μ.take n) H (w.cut n) := by
  have lt : ∀ {k : Nat} {m : MO}, (μ.take n)[k]? = some (some m) → k < n := fun {k m} e => by
    have := (List.getElem?_eq_some_iff.mp e).1
    rw [List.length_take] at this
    omega
  have old : ∀ {k : Nat} {m : MO} {a : Addr}, (μ.take n)[k]? = some (some m) → (w.cut n).ι[k]? = some a → μ[k]? = some (some m) ∧ w.ι[k]? = some a := fun {k m a} e1 e2 => by
    have h1 := lt e1
    have e2 : (w.ι.take n)[k]? = some a := e2
    rw [List.getElem?_take_of_lt h1] at e1 e2
    exact ⟨e1, e2⟩
  refine ⟨by show (w.ι.take n).length = _; rw [List.length_take, List.length_take, M.len], fun i j mi mj a e1 e2 e3 e4 => M.inj i j mi mj a (old e1 e3).1 (old e2 e4).1 (old e1 e3).2 (old e2 e4).2, fun k m a e1 e2 => ?_, fun k m a e1 e2 => M.nF k m a (old e1 e2).1 (old e1 e2).2, M.fr⟩
  have hm := hb m (List.mem_of_getElem? e1)
  have h := M.holds k m a (old e1 e2).1 (old e1 e2).2
  cases m with
  | lst xs =>
    obtain ⟨vs, e, r⟩ := h
    exact ⟨vs, e, RepXs.cut hm r⟩
  | ins C fs xs =>
    obtain ⟨dx, gs, e, f, r⟩ := h
    exact ⟨dx, gs, e, f, RepXs.cut hm r⟩
/-- an object is hidden: it is others' for a while -/
def IA.hide (w : IA) (p : Addr) : IA := ⟨w.ι, fun a => w.F a ∨ a = p⟩
theorem live_hide {p a : Addr} : Live μ (w.hide p) a ↔ Live μ w a ∨ a = p := by
  constructor
  · rintro ((f | f) | q)
    · exact .inl (.inl f)
    · exact .inr f
    · exact .inl (.inr q)
  · rintro ((f | q) | f)
    · exact .inl (.inl f)
    · exact .inr q
    · exact .inl (.inr f)
end
end DL
set_option maxRecDepth 100000
set_option maxHeartbeats 2000000
namespace DL
open PySem L2 PySem.Spec
/-! ### contexts -/
/-- what a block's code sees, whatever its frame is -/
structure SC where
  P : Program
  wd : World
  K : PySem.W.Frag
  mg : Str → Option Value
  base : Heap
  N : List Str
  sc : Scope
  own : Str → Bool
  room : Nat
  g : Bool := true
structure SC.Has (C : SC) (X : Cx) : Prop where
  P : X.prog = C.P
  wd : X.w = C.wd
  K : X.K = C.K
  mg : X.mg = C.mg
  base : X.base = C.base
  N : X.N = C.N
  sc : X.env.scope = C.sc
  own : ∀ x, C.own x = true → X.fn x = true ∨ X.env.scope.names.lookup x = some .local
  room : Room C.room X.A
  calm : X.calm = true
  po : PassesOwn (model X.prog X.w) X.A X.env X.xe
  gd : C.g = true → X.A.guards = some []
abbrev SC.Vis (C : SC) (x : Str) : Prop := L2.Vis C.sc x
abbrev SC.Glob (C : SC) (x : Str) : Prop := C.sc.names.lookup x = some .globalImplicit
/-- a comprehension's block -/
def SC.blk (C : SC) (scope : Scope) : SC := { C with sc := relS scope C.sc, own := fun x => scope.names.lookup x == some .local || scope.names.lookup x == some .cell }
/-- an exception: its class, its fields; the names and cells where it is raised -/
abbrev EPost := Addr → List (Str × D) → Env → Mem → Prop
def noE : EPost := fun _ _ _ _ => False
def XRep (K : PySem.W.Frag) (μ : Mem) (H : Hp) (w : IA) (d : Option Addr) (fl : List (Str × D)) : Prop :=
  match d with
  | none => fl = []
  | some a => ¬ Live μ w a ∧ ∃ gs, H a = some (.xd gs) ∧ gs.map (·.1) = fl.map (·.1) ∧ Reps K (Live μ w) H (fl.map (·.2)) (gs.map (·.2))
def liftE (K : PySem.W.Frag) (E : EPost) (μ : Mem) (H : Hp) (w : IA) : WX := fun cls d σ' H' =>
  ∃ Cl fl ρ' μ' w', cls = .ref Cl ∧ XRep K μ' H' w' d fl ∧ MOk K μ' H' w' ∧ ROk K μ' H' w' ρ' σ' ∧ Stp μ H w μ' H' w' ∧ E Cl fl ρ' μ'
/-- the place at which code stands -/
structure At (C : SC) (X : Cx) (E : EPost) (ρ : Env) (μ : Mem) (σ : L2.St) (H : Hp) (w : IA) : Prop where
  has : C.Has X
  M : MOk C.K μ H w
  R : ROk C.K μ H w ρ σ
  T : Takes X (liftE C.K E μ H w)
section
variable {C : SC} {X : Cx} {E : EPost} {ρ ρ' : Env} {μ μ' : Mem} {σ σ' : L2.St} {H H' : Hp} {w w' : IA}
theorem liftE.from (S : Stp μ H w μ' H' w') {K : PySem.W.Frag} {cls : Value} {d : Option Addr} {σ' : L2.St} {H2 : Hp} (h : liftE K E μ' H' w' cls d σ' H2) : liftE K E μ H w cls d σ' H2 := by
  obtain ⟨Cl, fl, ρ2, μ2, w2, h1, h2, h3, h4, h5, h6⟩ := h
  exact ⟨Cl, fl, ρ2, μ2, w2, h1, h2, h3, h4, S.trans h5, h6⟩
theorem At.step (A : At C X E ρ μ σ H w) (S : Stp μ H w μ' H' w') (M : MOk C.K μ' H' w') : At C X E ρ μ' σ H' w' :=
  ⟨A.has, M, A.R.stp S, A.T.imp fun _ _ _ _ h => liftE.from S h⟩
theorem At.env (A : At C X E ρ μ σ H w) (R : ROk C.K μ H w ρ' σ') : At C X E ρ' μ σ' H w := ⟨A.has, A.M, R, A.T⟩
end
/-! ### judgements -/
def lift (K : PySem.W.Frag) (Q : XV → Mem → Prop) (μ : Mem) (H : Hp) (w : IA) : VK := fun v H' =>
  ∃ x μ' w', RepX K μ' H' w' x v ∧ MOk K μ' H' w' ∧ Stp μ H w μ' H' w' ∧ Q x μ'
def liftT (K : PySem.W.Frag) (Q : Bool → Mem → Prop) (μ : Mem) (H : Hp) (w : IA) : Bool → Hp → Prop := fun b H' =>
  ∃ μ' w', MOk K μ' H' w' ∧ Stp μ H w μ' H' w' ∧ Q b μ'
def liftA (K : PySem.W.Frag) (Q : List XV → Mem → Prop) (μ : Mem) (H : Hp) (w : IA) : List V → Hp → Prop := fun vs H' =>
  ∃ xs μ' w', RepXs K μ' H' w' xs vs ∧ MOk K μ' H' w' ∧ Stp μ H w μ' H' w' ∧ Q xs μ'
/-- the whole meaning of code, as a reading -/
def tE (X : Cx) (e : Expr) : TE := fun σ H Q => ∀ pins s, Inv X pins σ H s → wpAny (model X.prog X.w) X.A (eval e X.env) (EP X pins σ Q) X.xe s
def tT (X : Cx) (e : Expr) : TT := fun σ H Q => ∀ pins s, Inv X pins σ H s → wpAny (model X.prog X.w) X.A (isTrue e X.env (eval e X.env)) (TP X pins σ Q) X.xe s
def tW (X : Cx) (e : Expr) : TT := fun σ H Q => ∀ whole pins s, Inv X pins σ H s → wpAny (model X.prog X.w) X.A (isTrue e X.env whole) (TP X pins σ Q) X.xe s
def tA (X : Cx) (es : List Expr) : TA := fun σ H Q => ∀ pos pins s, Inv X pins σ H s → wpAny (model X.prog X.w) X.A (spliced (backTo pos (starEach es X.env))) (AP X pins σ Q) X.xe s
def tS (X : Cx) (sts : List Stmt) : TS := fun D σ H => ∀ pins s, Inv X pins σ H s → wpAny (model X.prog X.w) X.A (execs sts X.env) (SP X pins D) X.xe s
def tS1 (X : Cx) (st : Stmt) : TS := fun D σ H => ∀ pins s, Inv X pins σ H s → wpAny (model X.prog X.w) X.A (exec st X.env) (SP X pins D) X.xe s
section
variable {X : Cx} {e : Expr} {es : List Expr} {sts : List Stmt} {st : Stmt}
theorem pe_tE : PE X e (tE X e) := ⟨fun pins s _ _ _ I h => h pins s I⟩
theorem pt_tT : PT X e (tT X e) := ⟨fun pins s _ _ _ I h => h pins s I⟩
theorem pw_tW : PW X e (tW X e) := ⟨fun wh pins s _ _ _ I h => h wh pins s I⟩
theorem pa_tA : PA X es (tA X es) := ⟨fun pos pins s _ _ _ I h => h pos pins s I⟩
theorem ps_tS : PSs X sts (tS X sts) := ⟨fun pins s _ _ _ I h => h pins s I⟩
theorem ps_tS1 : PS X st (tS1 X st) := ⟨fun pins s _ _ _ I h => h pins s I⟩
theorem tE_of {t : TE} (h : PE X e t) {σ : L2.St} {H : Hp} {Q : VK} (q : t σ H Q) : tE X e σ H Q := fun pins s I => h.run pins s σ H Q I q
theorem tT_of {t : TT} (h : PT X e t) {σ : L2.St} {H : Hp} {Q : Bool → Hp → Prop} (q : t σ H Q) : tT X e σ H Q := fun pins s I => h.run pins s σ H Q I q
theorem tW_of {t : TT} (h : PW X e t) {σ : L2.St} {H : Hp} {Q : Bool → Hp → Prop} (q : t σ H Q) : tW X e σ H Q := fun wh pins s I => h.run wh pins s σ H Q I q
theorem tA_of {t : TA} (h : PA X es t) {σ : L2.St} {H : Hp} {Q : List V → Hp → Prop} (q : t σ H Q) : tA X es σ H Q := fun pos pins s I => h.run pos pins s σ H Q I q
theorem tS_of {t : TS} (h : PSs X sts t) {σ : L2.St} {H : Hp} {D : Ends} (q : t D σ H) : tS X sts D σ H := fun pins s I => h.run pins s σ H D I q
theorem tS1_of {t : TS} (h : PS X st t) {σ : L2.St} {H : Hp} {D : Ends} (q : t D σ H) : tS1 X st D σ H := fun pins s I => h.run pins s σ H D I q
theorem tE_mono {σ : L2.St} {H : Hp} {Q Q' : VK} (h : tE X e σ H Q) (k : ∀ v H', Q v H' → Q' v H') : tE X e σ H Q' := fun pins s I =>
  thn (h pins s I) fun _ _ ⟨v, H', I', r, q⟩ => ⟨v, H', I', r, k v H' q⟩
theorem tT_mono {σ : L2.St} {H : Hp} {Q Q' : Bool → Hp → Prop} (h : tT X e σ H Q) (k : ∀ b H', Q b H' → Q' b H') : tT X e σ H Q' := fun pins s I =>
  thn (h pins s I) fun _ _ ⟨H', I', q⟩ => ⟨H', I', k _ H' q⟩
theorem tW_mono {σ : L2.St} {H : Hp} {Q Q' : Bool → Hp → Prop} (h : tW X e σ H Q) (k : ∀ b H', Q b H' → Q' b H') : tW X e σ H Q' := fun wh pins s I =>
  thn (h wh pins s I) fun _ _ ⟨H', I', q⟩ => ⟨H', I', k _ H' q⟩
theorem tA_mono {σ : L2.St} {H : Hp} {Q Q' : List V → Hp → Prop} (h : tA X es σ H Q) (k : ∀ vs H', Q vs H' → Q' vs H') : tA X es σ H Q' := fun pos pins s I =>
  thn (h pos pins s I) fun _ _ ⟨vs, H', I', r, q⟩ => ⟨vs, H', I', r, k vs H' q⟩
theorem SP_mono {pins : List (Addr × Obj)} {D D' : Ends} {f : Flow} {s' : Shared} (h : SP X pins D f s') (k1 : ∀ σ H, D.nx σ H → D'.nx σ H) (k2 : ∀ v H, D.rt v H → D'.rt v H) (k3 : ∀ σ H, D.bk σ H → D'.bk σ H) (k4 : ∀ σ H, D.ct σ H → D'.ct σ H) : SP X pins D' f s' := by
  cases f with
  | next => obtain ⟨σ', H', I, q⟩ := h; exact ⟨σ', H', I, k1 _ _ q⟩
  | brk => obtain ⟨σ', H', I, q⟩ := h; exact ⟨σ', H', I, k3 _ _ q⟩
  | cont => obtain ⟨σ', H', I, q⟩ := h; exact ⟨σ', H', I, k4 _ _ q⟩
  | ret u => obtain ⟨v, σ', H', I, r, q⟩ := h; exact ⟨v, σ', H', I, r, k2 _ _ q⟩
theorem tS_mono {σ : L2.St} {H : Hp} {D D' : Ends} (h : tS X sts D σ H) (k1 : ∀ σ H, D.nx σ H → D'.nx σ H) (k2 : ∀ v H, D.rt v H → D'.rt v H) (k3 : ∀ σ H, D.bk σ H → D'.bk σ H) (k4 : ∀ σ H, D.ct σ H → D'.ct σ H) : tS X sts D' σ H := fun pins s I =>
  thn (h pins s I) fun _ _ q => SP_mono q k1 k2 k3 k4
end
/-- e, with the names ρ and the cells μ, gives a value and cells of which Q holds, or an exception of which E holds -/
def WE (C : SC) (e : Expr) (ρ : Env) (μ : Mem) (E : EPost) (Q : XV → Mem → Prop) : Prop :=
  ∀ X σ H w, At C X E ρ μ σ H w → tE X e σ H (lift C.K Q μ H w)
def WT (C : SC) (e : Expr) (ρ : Env) (μ : Mem) (E : EPost) (Q : Bool → Mem → Prop) : Prop :=
  ∀ X σ H w, At C X E ρ μ σ H w → tT X e σ H (liftT C.K Q μ H w)
def WW (C : SC) (e : Expr) (ρ : Env) (μ : Mem) (E : EPost) (Q : Bool → Mem → Prop) : Prop :=
  ∀ X σ H w, At C X E ρ μ σ H w → tW X e σ H (liftT C.K Q μ H w)
def WA (C : SC) (es : List Expr) (ρ : Env) (μ : Mem) (E : EPost) (Q : List XV → Mem → Prop) : Prop :=
  ∀ X σ H w, At C X E ρ μ σ H w → tA X es σ H (liftA C.K Q μ H w)
/-- what is wanted behind statements -/
structure DEnds where
  nx : Env → Mem → Prop
  rt : XV → Mem → Prop
  bk : Env → Mem → Prop := fun _ _ => False
  ct : Env → Mem → Prop := fun _ _ => False
def liftN (K : PySem.W.Frag) (Q : Env → Mem → Prop) (μ : Mem) (H : Hp) (w : IA) : L2.St → Hp → Prop := fun σ' H' =>
  ∃ ρ' μ' w', ROk K μ' H' w' ρ' σ' ∧ MOk K μ' H' w' ∧ Stp μ H w μ' H' w' ∧ Q ρ' μ'
def liftD (K : PySem.W.Frag) (D : DEnds) (μ : Mem) (H : Hp) (w : IA) : Ends :=
  { nx := liftN K D.nx μ H w, rt := lift K D.rt μ H w, bk := liftN K D.bk μ H w, ct := liftN K D.ct μ H w }
def WS (C : SC) (sts : List Stmt) (ρ : Env) (μ : Mem) (E : EPost) (D : DEnds) : Prop :=
  ∀ X σ H w, At C X E ρ μ σ H w → tS X sts (liftD C.K D μ H w) σ H
def WS1 (C : SC) (st : Stmt) (ρ : Env) (μ : Mem) (E : EPost) (D : DEnds) : Prop :=
  ∀ X σ H w, At C X E ρ μ σ H w → tS1 X st (liftD C.K D μ H w) σ H
section
variable {C : SC} {X : Cx} {E : EPost} {ρ : Env} {μ μ' : Mem} {σ : L2.St} {H H' : Hp} {w w' : IA} {e : Expr} {es : List Expr} {sts : List Stmt} {Q : XV → Mem → Prop} {QT : Bool → Mem → Prop} {QA : List XV → Mem → Prop}
theorem WE.go (h : WE C e ρ μ E Q) (A : At C X E ρ μ σ H w) {P : VK} (k : ∀ v H1 x μ1 w1, RepX C.K μ1 H1 w1 x v → At C X E ρ μ1 σ H1 w1 → Stp μ H w μ1 H1 w1 → Q x μ1 → P v H1) : tE X e σ H P :=
  tE_mono (h X σ H w A) fun v H1 ⟨x, μ1, w1, r, M, S, q⟩ => k v H1 x μ1 w1 r (A.step S M) S q
theorem WT.go (h : WT C e ρ μ E QT) (A : At C X E ρ μ σ H w) {P : Bool → Hp → Prop} (k : ∀ b H1 μ1 w1, At C X E ρ μ1 σ H1 w1 → Stp μ H w μ1 H1 w1 → QT b μ1 → P b H1) : tT X e σ H P :=
  tT_mono (h X σ H w A) fun b H1 ⟨μ1, w1, M, S, q⟩ => k b H1 μ1 w1 (A.step S M) S q
theorem WW.go (h : WW C e ρ μ E QT) (A : At C X E ρ μ σ H w) {P : Bool → Hp → Prop} (k : ∀ b H1 μ1 w1, At C X E ρ μ1 σ H1 w1 → Stp μ H w μ1 H1 w1 → QT b μ1 → P b H1) : tW X e σ H P :=
  tW_mono (h X σ H w A) fun b H1 ⟨μ1, w1, M, S, q⟩ => k b H1 μ1 w1 (A.step S M) S q
theorem WA.go (h : WA C es ρ μ E QA) (A : At C X E ρ μ σ H w) {P : List V → Hp → Prop} (k : ∀ vs H1 xs μ1 w1, RepXs C.K μ1 H1 w1 xs vs → At C X E ρ μ1 σ H1 w1 → Stp μ H w μ1 H1 w1 → QA xs μ1 → P vs H1) : tA X es σ H P :=
  tA_mono (h X σ H w A) fun v H1 ⟨x, μ1, w1, r, M, S, q⟩ => k v H1 x μ1 w1 r (A.step S M) S q
theorem lift.from {K : PySem.W.Frag} (S : Stp μ H w μ' H' w') {v : V} {H2 : Hp} (h : lift K Q μ' H' w' v H2) : lift K Q μ H w v H2 := by
  obtain ⟨x, μ2, w2, h1, h2, h3, h4⟩ := h
  exact ⟨x, μ2, w2, h1, h2, S.trans h3, h4⟩
theorem liftT.from {K : PySem.W.Frag} (S : Stp μ H w μ' H' w') {b : Bool} {H2 : Hp} (h : liftT K QT μ' H' w' b H2) : liftT K QT μ H w b H2 := by
  obtain ⟨μ2, w2, h2, h3, h4⟩ := h
  exact ⟨μ2, w2, h2, S.trans h3, h4⟩
theorem liftA.from {K : PySem.W.Frag} (S : Stp μ H w μ' H' w') {vs : List V} {H2 : Hp} (h : liftA K QA μ' H' w' vs H2) : liftA K QA μ H w vs H2 := by
  obtain ⟨x, μ2, w2, h1, h2, h3, h4⟩ := h
  exact ⟨x, μ2, w2, h1, h2, S.trans h3, h4⟩
theorem liftN.from {K : PySem.W.Frag} {QN : Env → Mem → Prop} (S : Stp μ H w μ' H' w') {σ2 : L2.St} {H2 : Hp} (h : liftN K QN μ' H' w' σ2 H2) : liftN K QN μ H w σ2 H2 := by
  obtain ⟨x, μ2, w2, h1, h2, h3, h4⟩ := h
  exact ⟨x, μ2, w2, h1, h2, S.trans h3, h4⟩
theorem lift.now {K : PySem.W.Frag} (M : MOk K μ H w) {x : XV} {v : V} (r : RepX K μ H w x v) (q : Q x μ) : lift K Q μ H w v H := ⟨x, μ, w, r, M, Stp.refl, q⟩
/-- a new value object -/
theorem lift.new {K : PySem.W.Frag} (M : MOk K μ H w) {p : Addr} {o : HO} (hp : H p = none) {x : D} (r : ¬ Live μ w p → Rep K (Live μ w) (upd H p o) x (.ref p)) (q : Q (.d x) μ) : lift K Q μ H w (.ref p) (upd H p o) :=
  ⟨.d x, μ, w, r (fun l => M.no_live hp l), M.grow (upd_grow hp), Stp.grow (upd_grow hp), q⟩
theorem WE.cont {Q' : XV → Mem → Prop} (h : WE C e ρ μ E Q) (k : ∀ x μ1, Q x μ1 → Q' x μ1) : WE C e ρ μ E Q' := fun X σ H w A =>
  tE_mono (h X σ H w A) fun _ _ ⟨x, μ1, w1, r, M, S, q⟩ => ⟨x, μ1, w1, r, M, S, k x μ1 q⟩
theorem WT.cont {Q' : Bool → Mem → Prop} (h : WT C e ρ μ E QT) (k : ∀ x μ1, QT x μ1 → Q' x μ1) : WT C e ρ μ E Q' := fun X σ H w A =>
  tT_mono (h X σ H w A) fun _ _ ⟨μ1, w1, M, S, q⟩ => ⟨μ1, w1, M, S, k _ μ1 q⟩
end
/-! ### names, constants -/
section
variable {C : SC} {E : EPost} {ρ : Env} {μ : Mem} {Q : XV → Mem → Prop} {QT : Bool → Mem → Prop} {QA : List XV → Mem → Prop} {a b c e : Expr} {es : List Expr} {pos p : Pos} {x : Str}
theorem we_var (i : Nat) {v : XV} (hN : C.N[i]? = some x) (hv : C.Vis x) (hr : ρ[i]? = some (some v)) (q : Q v μ) (hd : (x == ("__debug__" : Str)) = false := by decide) (hcd : (x == ("__classdict__" : Str)) = false := by decide) :
    WE C (.Name x pos) ρ μ E Q := fun X σ H w A => by
  obtain ⟨u, e1, r⟩ := A.R.rep i v hr
  refine tE_of (pe_var (i := i) (by rw [A.has.N]; exact hN) (by rw [A.has.sc]; exact hv) hd hcd) ⟨u, e1, lift.now A.M r q⟩
theorem we_int {i : Int} {j : Nat} (q : Q (.d (.int i)) μ) : WE C (.Constant (.int i) j pos) ρ μ E Q := fun _ _ _ _ A => tE_of pe_int (lift.now A.M (x := .d (.int i)) rfl q)
theorem we_bl {i : Bool} {j : Nat} (q : Q (.d (.bl i)) μ) : WE C (.Constant (.bool i) j pos) ρ μ E Q := fun _ _ _ _ A => tE_of pe_bl (lift.now A.M (x := .d (.bl i)) rfl q)
theorem we_non {j : Nat} (q : Q (.d .non) μ) : WE C (.Constant .none j pos) ρ μ E Q := fun _ _ _ _ A => tE_of pe_non (lift.now A.M (x := .d .non) rfl q)
theorem we_txt {s : Str} {j : Nat} {l : List Nat} (hs : s.cps.toList = l) (q : Q (.d (.txt l)) μ) : WE C (.Constant (.str s) j pos) ρ μ E Q := fun _ _ _ _ A =>
  tE_of pe_str (lift.now A.M (x := .d (.txt l)) (by subst hs; show V.str s = .str (SX.S s.cps.toList); rw [SX.S_tl]) q)
/-- a module's text, number, def, class -/
theorem we_globT {s : Str} {t : Tok} {l : List Nat} (hg : C.Glob x) (hm : C.mg x = some (.str s t)) (hs : s.cps.toList = l) (q : Q (.d (.txt l)) μ) (hd : (x == ("__debug__" : Str)) = false := by decide) : WE C (.Name x pos) ρ μ E Q := fun X _ _ _ A =>
  tE_of (pe_glob (v := .str s) (by show X.env.scope.names.lookup x = _; rw [A.has.sc]; exact hg) (by rw [A.has.mg]; exact hm) ⟨t, rfl⟩ hd) (lift.now A.M (x := .d (.txt l)) (by subst hs; show V.str s = .str (SX.S s.cps.toList); rw [SX.S_tl]) q)
theorem we_globI {i : Int} {t : Tok} (hg : C.Glob x) (hm : C.mg x = some (.int i t)) (q : Q (.d (.int i)) μ) (hd : (x == ("__debug__" : Str)) = false := by decide) : WE C (.Name x pos) ρ μ E Q := fun X _ _ _ A =>
  tE_of (pe_glob (v := .int i) (by show X.env.scope.names.lookup x = _; rw [A.has.sc]; exact hg) (by rw [A.has.mg]; exact hm) ⟨t, rfl⟩ hd) (lift.now A.M (x := .d (.int i)) rfl q)
theorem we_globR {f : Addr} (hg : C.Glob x) (hm : C.mg x = some (.ref f)) (q : Q (.d (.ref f)) μ) (hd : (x == ("__debug__" : Str)) = false := by decide) : WE C (.Name x pos) ρ μ E Q := fun X _ _ _ A =>
  tE_of (pe_glob (v := .ref f) (by show X.env.scope.names.lookup x = _; rw [A.has.sc]; exact hg) (by rw [A.has.mg]; exact hm) rfl hd) (lift.now A.M (x := .d (.ref f)) rfl q)
/-! ### arguments -/
theorem wa_nil (q : QA [] μ) : WA C [] ρ μ E QA := fun _ _ _ _ A => tA_of pa_nil ⟨[], μ, _, .nil, A.M, Stp.refl, q⟩
theorem wa_cons (h : WE C e ρ μ E fun x μ1 => WA C es ρ μ1 E fun xs μ2 => QA (x :: xs) μ2) (hs : ∀ env, starEach (e :: es) env = (false, eval e env) :: starEach es env := by intro _; rfl) : WA C (e :: es) ρ μ E QA := fun X σ H w A =>
  tA_of (pa_cons pe_tE pa_tA (hs _)) (h.go A fun v H1 x μ1 w1 r A1 S1 h1 => h1.go A1 fun vs H2 xs μ2 w2 rs A2 S2 q => ⟨x :: xs, μ2, w2, .cons (r.stp S2) rs, A2.M, S1.trans S2, q⟩)
end
/-! ### canonical readings of operations on values -/
def rS (X : Cx) (f : Value → Value → Sem Value) : R2 := fun x y H Q => ∀ pins s σ v u, Inv X pins σ H s → RelV x v → RelV y u → wpAny (model X.prog X.w) X.A (f v u) (EP X pins σ Q) X.xe s
def uS (X : Cx) (f : Value → Sem Value) : V → Hp → VK → Prop := fun x H Q => ∀ pins s σ v, Inv X pins σ H s → RelV x v → wpAny (model X.prog X.w) X.A (f v) (EP X pins σ Q) X.xe s
def cS (X : Cx) (f : Value) : List V → Hp → VK → Prop := fun xs H Q => ∀ pins s σ us, Inv X pins σ H s → Vals xs us → wpAny (model X.prog X.w) X.A (call f us) (EP X pins σ Q) X.xe s
def mS (X : Cx) (id : String) : V → List V → Hp → VK → Prop := fun x xs H Q => ∀ pins s σ v us, Inv X pins σ H s → RelV x v → Vals xs us → wpAny (model X.prog X.w) X.A (call (.builtin id) (v :: us)) (EP X pins σ Q) X.xe s
def ixS (X : Cx) : R2 := fun x y H Q => ∀ value slice pins s σ v u, Inv X pins σ H s → RelV x v → RelV y u → subscripted slice false v u = operate [v, u] (getItem v u) → wpAny (model X.prog X.w) X.A (PyProof.Rows.subscriptTail value slice v u) (EP X pins σ Q) X.xe s
def slS (X : Cx) : V → Option Int → Option Int → Hp → VK → Prop := fun x lo hi H Q => ∀ pins s σ v vl vu sl, Inv X pins σ H s → RelV x v → s.heap.IsSliceOf sl vl vu .none → IsPart vl lo → IsPart vu hi →
    ∃ T id, typeLookup (.type T) "__getitem__" = pure (some (.builtin id)) ∧ s.TypeIs v T ∧ wpAny (model X.prog X.w) X.A (getItem v (.ref sl)) (EP X pins σ Q) X.xe s
section
variable {X : Cx}
theorem rS_ok {f : Value → Value → Sem Value} : OpR X f (rS X f) := fun pins s σ H x y v u Q I rx ry h => h pins s σ v u I rx ry
theorem uS_ok {f : Value → Sem Value} : UnR X f (uS X f) := fun pins s σ H x v Q I rx h => h pins s σ v I rx
theorem cS_ok {f : Value} : CallR X f (cS X f) := fun pins s σ H xs us Q I r h => h pins s σ us I r
theorem mS_ok {id : String} : MtR X id (mS X id) := fun pins s σ H x xs v us Q I rx rs h => h pins s σ v us I rx rs
theorem ixS_ok : IxR X (ixS X) := fun value slice pins s σ H x y v u Q I rx ry h hs => h value slice pins s σ v u I rx ry hs
theorem slS_ok : SlR X (slS X) := fun pins s σ H x v vl vu lo hi sl Q I rx hs pl pu h => h pins s σ v vl vu sl I rx hs pl pu
theorem rS_of {f : Value → Value → Sem Value} {r : R2} (ho : OpR X f r) {x y : V} {H : Hp} {Q : VK} (h : r x y H Q) : rS X f x y H Q := fun pins s σ v u I rx ry => ho pins s σ H x y v u Q I rx ry h
theorem uS_of {f : Value → Sem Value} {r : V → Hp → VK → Prop} (ho : UnR X f r) {x : V} {H : Hp} {Q : VK} (h : r x H Q) : uS X f x H Q := fun pins s σ v I rx => ho pins s σ H x v Q I rx h
theorem cS_of {f : Value} {r : List V → Hp → VK → Prop} (ho : CallR X f r) {xs : List V} {H : Hp} {Q : VK} (h : r xs H Q) : cS X f xs H Q := fun pins s σ us I rx => ho pins s σ H xs us Q I rx h
theorem mS_of {id : String} {r : V → List V → Hp → VK → Prop} (ho : MtR X id r) {x : V} {xs : List V} {H : Hp} {Q : VK} (h : r x xs H Q) : mS X id x xs H Q := fun pins s σ v us I rx rs => ho pins s σ H x xs v us Q I rx rs h
theorem ixS_of {r : R2} (ho : IxR X r) {x y : V} {H : Hp} {Q : VK} (h : r x y H Q) : ixS X x y H Q := fun value slice pins s σ v u I rx ry hs => ho value slice pins s σ H x y v u Q I rx ry h hs
theorem slS_of {r : V → Option Int → Option Int → Hp → VK → Prop} (ho : SlR X r) {x : V} {lo hi : Option Int} {H : Hp} {Q : VK} (h : r x lo hi H Q) : slS X x lo hi H Q := fun pins s σ v vl vu sl I rx hs pl pu => ho pins s σ H x v vl vu lo hi sl Q I rx hs pl pu h
end
/-- f of two values, .. -/
def Go2 (C : SC) (f : Value → Value → Sem Value) (x y : XV) (μ : Mem) (Q : XV → Mem → Prop) : Prop :=
  ∀ X, C.Has X → ∀ H w vx vy, MOk C.K μ H w → RepX C.K μ H w x vx → RepX C.K μ H w y vy → rS X f vx vy H (lift C.K Q μ H w)
def Go1 (C : SC) (f : Value → Sem Value) (x : XV) (μ : Mem) (Q : XV → Mem → Prop) : Prop :=
  ∀ X, C.Has X → ∀ H w vx, MOk C.K μ H w → RepX C.K μ H w x vx → uS X f vx H (lift C.K Q μ H w)
def GoC (C : SC) (f : Value) (xs : List XV) (μ : Mem) (Q : XV → Mem → Prop) : Prop :=
  ∀ X, C.Has X → ∀ H w vs, MOk C.K μ H w → RepXs C.K μ H w xs vs → cS X f vs H (lift C.K Q μ H w)
def GoM (C : SC) (id : String) (x : XV) (xs : List XV) (μ : Mem) (Q : XV → Mem → Prop) : Prop :=
  ∀ X, C.Has X → ∀ H w vx vs, MOk C.K μ H w → RepX C.K μ H w x vx → RepXs C.K μ H w xs vs → mS X id vx vs H (lift C.K Q μ H w)
def GoI (C : SC) (x y : XV) (μ : Mem) (Q : XV → Mem → Prop) : Prop :=
  ∀ X, C.Has X → ∀ H w vx vy, MOk C.K μ H w → RepX C.K μ H w x vx → RepX C.K μ H w y vy → ixS X vx vy H (lift C.K Q μ H w)
def GoS (C : SC) (x : XV) (lo hi : Option Int) (μ : Mem) (Q : XV → Mem → Prop) : Prop :=
  ∀ X, C.Has X → ∀ H w vx, MOk C.K μ H w → RepX C.K μ H w x vx → slS X vx lo hi H (lift C.K Q μ H w)
section
variable {C : SC} {Q : XV → Mem → Prop} {μ μ1 : Mem} {H H1 : Hp} {w w1 : IA} {X : Cx}
theorem EP_from {pins : List (Addr × Obj)} {σ : L2.St} {s : Shared} {K : PySem.W.Frag} {t : Sem Value} {xe : Value → Shared → Prop} (S : Stp μ H w μ1 H1 w1)
    (h : wpAny (model X.prog X.w) X.A t (EP X pins σ (lift K Q μ1 H1 w1)) xe s) : wpAny (model X.prog X.w) X.A t (EP X pins σ (lift K Q μ H w)) xe s :=
  thn h fun _ _ ⟨v, H', I', r, q⟩ => ⟨v, H', I', r, lift.from S q⟩
theorem rS.from {f : Value → Value → Sem Value} {x y : V} {H2 : Hp} {K : PySem.W.Frag} (S : Stp μ H w μ1 H1 w1) (h : rS X f x y H2 (lift K Q μ1 H1 w1)) : rS X f x y H2 (lift K Q μ H w) := fun pins s σ v u I rx ry => EP_from S (h pins s σ v u I rx ry)
theorem uS.from {f : Value → Sem Value} {x : V} {H2 : Hp} {K : PySem.W.Frag} (S : Stp μ H w μ1 H1 w1) (h : uS X f x H2 (lift K Q μ1 H1 w1)) : uS X f x H2 (lift K Q μ H w) := fun pins s σ v I rx => EP_from S (h pins s σ v I rx)
theorem cS.from {f : Value} {xs : List V} {H2 : Hp} {K : PySem.W.Frag} (S : Stp μ H w μ1 H1 w1) (h : cS X f xs H2 (lift K Q μ1 H1 w1)) : cS X f xs H2 (lift K Q μ H w) := fun pins s σ us I rx => EP_from S (h pins s σ us I rx)
theorem mS.from {id : String} {x : V} {xs : List V} {H2 : Hp} {K : PySem.W.Frag} (S : Stp μ H w μ1 H1 w1) (h : mS X id x xs H2 (lift K Q μ1 H1 w1)) : mS X id x xs H2 (lift K Q μ H w) := fun pins s σ v us I rx rs => EP_from S (h pins s σ v us I rx rs)
theorem ixS.from {x y : V} {H2 : Hp} {K : PySem.W.Frag} (S : Stp μ H w μ1 H1 w1) (h : ixS X x y H2 (lift K Q μ1 H1 w1)) : ixS X x y H2 (lift K Q μ H w) := fun value slice pins s σ v u I rx ry hs => EP_from S (h value slice pins s σ v u I rx ry hs)
theorem slS.from {x : V} {lo hi : Option Int} {H2 : Hp} {K : PySem.W.Frag} (S : Stp μ H w μ1 H1 w1) (h : slS X x lo hi H2 (lift K Q μ1 H1 w1)) : slS X x lo hi H2 (lift K Q μ H w) := fun pins s σ v vl vu sl I rx hs pl pu => by
  obtain ⟨T, id, h1, h2, h3⟩ := h pins s σ v vl vu sl I rx hs pl pu
  exact ⟨T, id, h1, h2, EP_from S h3⟩
end
/-! ### expressions over operations -/
section
variable {C : SC} {E : EPost} {ρ : Env} {μ : Mem} {Q : XV → Mem → Prop} {QT : Bool → Mem → Prop} {QA : List XV → Mem → Prop} {a b c e : Expr} {es : List Expr} {pos p apos : Pos} {x : Str}
theorem we_bin {op : Operator} (h : WE C a ρ μ E fun x μ1 => WE C b ρ μ1 E fun y μ2 => Go2 C (binaryOp op) x y μ2 Q) : WE C (.BinOp a op b pos) ρ μ E Q := fun X σ H w A =>
  tE_of (pe_op rS_ok pe_tE pe_tE) (h.go A fun v1 H1 x μ1 w1 r1 A1 S1 h1 => h1.go A1 fun v2 H2 y μ2 w2 r2 A2 S2 h2 => rS.from (S1.trans S2) (h2 X A2.has H2 w2 v1 v2 A2.M (r1.stp S2) r2))
theorem we_un {op : UnaryOp} (h : WE C a ρ μ E fun x μ1 => Go1 C (unaryOp op) x μ1 Q) : WE C (.UnaryOp op a pos) ρ μ E Q := fun X σ H w A =>
  tE_of (pe_un uS_ok pe_tE) (h.go A fun v1 H1 x μ1 w1 r1 A1 S1 h1 => uS.from S1 (h1 X A1.has H1 w1 v1 A1.M r1))
theorem we_cmp {op : CmpOp} (h : WE C a ρ μ E fun x μ1 => WE C b ρ μ1 E fun y μ2 => Go2 C (compareOp op) x y μ2 Q) (hm : behindInMarks op b = false := by first | rfl | exact nobehind _ (by decide) (by decide)) : WE C (.Compare a [op] [b] pos) ρ μ E Q := fun X σ H w A =>
  tE_of (pe_cmpR rS_ok pe_tE pe_tE hm) (h.go A fun v1 H1 x μ1 w1 r1 A1 S1 h1 => h1.go A1 fun v2 H2 y μ2 w2 r2 A2 S2 h2 => rS.from (S1.trans S2) (h2 X A2.has H2 w2 v1 v2 A2.M (r1.stp S2) r2))
theorem lift_bl {K : PySem.W.Frag} {H : Hp} {w : IA} {v : V} {H2 : Hp} (h : lift K (fun z μ' => ∃ k, z = .d (.bl k) ∧ QT k μ') μ H w v H2) : ∃ k, v = .bl k ∧ liftT K QT μ H w k H2 := by
  obtain ⟨x, μ', w', r, M, S, k, rfl, q⟩ := h
  exact ⟨k, r, μ', w', M, S, q⟩
theorem rS_mono {X : Cx} {f : Value → Value → Sem Value} {x y : V} {H : Hp} {Q Q' : VK} (h : rS X f x y H Q) (k : ∀ v H', Q v H' → Q' v H') : rS X f x y H Q' := fun pins s σ v u I rx ry =>
  thn (h pins s σ v u I rx ry) fun _ _ ⟨v, H', I', r, q⟩ => ⟨v, H', I', r, k v H' q⟩
theorem wt_cmp {op : CmpOp} (h : WE C a ρ μ E fun x μ1 => WE C b ρ μ1 E fun y μ2 => Go2 C (compareOp op) x y μ2 fun z μ3 => ∃ k, z = .d (.bl k) ∧ QT k μ3) (hm : behindInMarks op b = false := by first | rfl | exact nobehind _ (by decide) (by decide)) : WT C (.Compare a [op] [b] pos) ρ μ E QT := fun X σ H w A =>
  tT_of (pt_cmpR rS_ok pe_tE pe_tE hm) (h.go A fun v1 H1 x μ1 w1 r1 A1 S1 h1 => h1.go A1 fun v2 H2 y μ2 w2 r2 A2 S2 h2 => rS_mono (rS.from (S1.trans S2) (h2 X A2.has H2 w2 v1 v2 A2.M (r1.stp S2) r2)) fun v H' q => lift_bl q)
/-- a < b < c -/
def ChainT (C : SC) (op op' : CmpOp) (c : Expr) (x y : XV) (ρ : Env) (μ : Mem) (E : EPost) (QT : Bool → Mem → Prop) : Prop :=
  Go2 C (compareOp op) x y μ fun z μ3 => ∃ k, z = .d (.bl k) ∧ (k = true → WE C c ρ μ3 E fun z2 μ4 => Go2 C (compareOp op') y z2 μ4 fun z3 μ5 => ∃ k, z3 = .d (.bl k) ∧ QT k μ5) ∧ (k = false → QT false μ3)
theorem wt_chain {op op' : CmpOp} (h : WE C a ρ μ E fun x μ1 => WE C b ρ μ1 E fun y μ2 => ChainT C op op' c x y ρ μ2 E QT) (hm : lastMarks [op, op'] [b, c] = false := by with_unfolding_all rfl) : WT C (.Compare a [op, op'] [b, c] pos) ρ μ E QT := fun X σ H w A => by
  refine tT_of (pt_chain rS_ok rS_ok pe_tE pe_tE pe_tE hm) (h.go A fun v1 H1 x μ1 w1 r1 A1 S1 h1 => h1.go A1 fun v2 H2 y μ2 w2 r2 A2 S2 h2 => ?_)
  refine rS_mono (h2 X A2.has H2 w2 v1 v2 A2.M (r1.stp S2) r2) fun v H3 q => ?_
  obtain ⟨z, μ3, w3, r3, M3, S3, k, rfl, h3, h4⟩ := q
  refine ⟨k, r3, ?_⟩
  cases k with
  | true =>
    refine iteT ?_
    refine (h3 rfl).go (A2.step S3 M3) fun v4 H4 z4 μ4 w4 r4 A4 S4 h5 => ?_
    refine rS_mono (h5 X A4.has H4 w4 v2 v4 A4.M ((r2.stp S3).stp S4) r4) fun v5 H5 q5 => ?_
    obtain ⟨k, e, q6⟩ := lift_bl q5
    exact ⟨k, e, liftT.from (((S1.trans S2).trans S3).trans S4) q6⟩
  | false =>
    refine iteF ?_
    exact ⟨false, rfl, μ3, w3, M3, (S1.trans S2).trans S3, h4 rfl⟩
end
end DL
set_option maxRecDepth 100000
set_option maxHeartbeats 2000000
namespace DL
open PySem L2 PySem.Spec
theorem Reps.grow {K : PySem.W.Frag} {L : Addr → Prop} {H : Hp} {ds : List D} {xs : List V} {p : Addr} {o : HO} (r : Reps K L H ds xs) (hp : H p = none) : Reps K L (upd H p o) ds xs := Reps.mono (fun c u h n => ⟨upd_grow hp c u h, n⟩) _ _ r
/-! ### what operations give -/
section
variable {C : SC} {μ : Mem} {Q : XV → Mem → Prop}
theorem go_add_int {i j : Int} (q : Q (.d (.int (i + j))) μ) : Go2 C (binaryOp .Add) (.d (.int i)) (.d (.int j)) μ Q := fun X hX H w vx vy M rx ry => rS_of op_add ⟨i, j, rx, ry, lift.now M (x := .d (.int (i + j))) rfl q⟩
theorem go_sub_int {i j : Int} (q : Q (.d (.int (i - j))) μ) : Go2 C (binaryOp .Sub) (.d (.int i)) (.d (.int j)) μ Q := fun X hX H w vx vy M rx ry => rS_of op_sub ⟨i, j, rx, ry, lift.now M (x := .d (.int (i - j))) rfl q⟩
theorem go_mul_int {i j : Int} (hc : CMul i j) (q : Q (.d (.int (i * j))) μ) : Go2 C (binaryOp .Mult) (.d (.int i)) (.d (.int j)) μ Q := fun X hX H w vx vy M rx ry => rS_of op_mul ⟨i, j, rx, ry, hc, lift.now M (x := .d (.int (i * j))) rfl q⟩
theorem go_fdiv_int {i j : Int} (hc : CDiv i j) (q : Q (.d (.int (i / j))) μ) : Go2 C (binaryOp .FloorDiv) (.d (.int i)) (.d (.int j)) μ Q := fun X hX H w vx vy M rx ry => rS_of op_fdiv ⟨i, j, rx, ry, hc, lift.now M (x := .d (.int (i / j))) rfl q⟩
theorem go_mod_int {i j : Int} (hc : 0 < j) (q : Q (.d (.int (i % j))) μ) : Go2 C (binaryOp .Mod) (.d (.int i)) (.d (.int j)) μ Q := fun X hX H w vx vy M rx ry => rS_of op_mod ⟨i, j, rx, ry, hc, lift.now M (x := .d (.int (i % j))) rfl q⟩
theorem go_pow_int {i j : Int} (hc : CPow i j) (q : Q (.d (.int (i ^ j.toNat))) μ) : Go2 C (binaryOp .Pow) (.d (.int i)) (.d (.int j)) μ Q := fun X hX H w vx vy M rx ry => rS_of op_pow ⟨i, j, rx, ry, hc, lift.now M (x := .d (.int (i ^ j.toNat))) rfl q⟩
theorem go_neg {i : Int} (q : Q (.d (.int (-i))) μ) : Go1 C (unaryOp .USub) (.d (.int i)) μ Q := fun X hX H w vx M rx => uS_of un_neg ⟨i, rx, lift.now M (x := .d (.int (-i))) rfl q⟩
theorem go_add_txt {a b : List Nat} (hz : a.length + b.length ≤ sizeLine) (q : Q (.d (.txt (a ++ b))) μ) : Go2 C (binaryOp .Add) (.d (.txt a)) (.d (.txt b)) μ Q := fun X hX H w vx vy M rx ry =>
  rS_of op_add_str ⟨SX.S a, SX.S b, rx, ry, by rw [SX.S_len, SX.S_len]; exact hz, lift.now M (x := .d (.txt (a ++ b))) (by show _ = V.str _; rw [SX.S_cat]) q⟩
/-- a written again and again -/
def repT (a : List Nat) (n : Int) : List Nat := (List.replicate n.toNat a).flatten
theorem foldl_cat (a : List Nat) : ∀ (k : Nat) (acc : List Nat), (List.replicate k a.toArray).foldl (· ++ ·) acc.toArray = (acc ++ (List.replicate k a).flatten).toArray
  | 0, acc => by simp
  | k + 1, acc => by
    rw [List.replicate_succ, List.foldl_cons, List.replicate_succ, List.flatten_cons, ← List.append_assoc]
    have e : acc.toArray ++ a.toArray = (acc ++ a).toArray := by simp
    rw [e]
    exact foldl_cat a k (acc ++ a)
theorem mul_rep (a : List Nat) (n : Int) : Txt.mul (SX.S a) n = SX.S (repT a n) := by
  unfold Txt.mul repT
  by_cases h1 : n < 1
  · rw [if_pos h1]
    have : n.toNat = 0 := by omega
    rw [this]
    rfl
  · rw [if_neg h1]
    split
    · rename_i h
      rw [Bool.or_eq_true] at h
      rcases h with h | h
      · have : n = 1 := by simpa using h
        subst this
        simp
      · have : a = [] := by
          have h' : (SX.S a).length = 0 := by simpa using h
          rw [SX.S_len] at h'
          exact List.length_eq_zero_iff.mp h'
        subst this
        simp
    · have := foldl_cat a n.toNat []
      rw [List.nil_append] at this
      exact congrArg Str.mk this
theorem op_mul_txt {X : Cx} : OpR X (binaryOp .Mult) (fun x y H Q => ∃ (a : List Nat) (n : Int), x = .str (SX.S a) ∧ y = .int n ∧ n < 2 ^ 30 ∧ -(2 ^ 30) < n ∧ a.length * n.toNat ≤ sizeLine ∧ Q (.str (SX.S (repT a n))) H) := by
  intro pins s σ H x y v u Q I rx ry h
  obtain ⟨a, n, rfl, rfl, h1, h2, h3, q⟩ := h
  obtain ⟨t, rfl⟩ := rx
  obtain ⟨t', rfl⟩ := ry
  have hl : (SX.S a).length = a.length := SX.S_len a
  have hz := sizeLine_eq
  refine SB.mul (n := n) ⟨?_, fun hn hne => ?_, fun hn hne => ?_⟩ fun t' k => ⟨.str _, H, I.tok k, ⟨t', rfl⟩, by rw [mul_rep]; exact q⟩
  · rw [decide_eq_false (by omega), decide_eq_false (by omega)]; rfl
  · rw [hl]
    intro hgt
    have hpos : (0 : Int) < n := by omega
    have e1 : ((2 : Int) ^ 63 - 1) / n < a.length := hgt
    have e2 : (2 : Int) ^ 63 - 1 < a.length * n := by
      have := Int.lt_mul_of_ediv_lt hpos e1
      exact this
    have e3 : (a.length : Int) * n = ((a.length * n.toNat : Nat) : Int) := by
      rw [Int.natCast_mul, Int.toNat_of_nonneg (by omega)]
    rw [e3] at e2
    have : ((a.length * n.toNat : Nat) : Int) ≤ 16777216 := by omega
    omega
  · rw [hl]
    unfold Builtin.Str.tooLong
    exact decide_eq_false (by omega)
theorem go_mul_txt {a : List Nat} {n : Int} (h1 : n < 2 ^ 30) (h2 : -(2 ^ 30) < n) (hz : a.length * n.toNat ≤ sizeLine) (q : Q (.d (.txt (repT a n))) μ) : Go2 C (binaryOp .Mult) (.d (.txt a)) (.d (.int n)) μ Q := fun X hX H w vx vy M rx ry =>
  rS_of op_mul_txt ⟨a, n, rx, ry, h1, h2, hz, lift.now M (x := .d (.txt (repT a n))) rfl q⟩
/-- lists put together -/
theorem go_add_lst {a b : List D} (hz : a.length + b.length ≤ sizeLine) (q : Q (.d (.lst (a ++ b))) μ) : Go2 C (binaryOp .Add) (.d (.lst a)) (.d (.lst b)) μ Q := fun X hX H w vx vy M rx ry => by
  obtain ⟨p, xs, rfl, n1, h1, r1⟩ := rx
  obtain ⟨p', ys, rfl, n2, h2, r2⟩ := ry
  refine rS_of op_cat ⟨p, p', xs, ys, rfl, rfl, h1, h2, by rw [r1.len, r2.len]; exact hz, fun l hl => lift.new M hl (x := .lst (a ++ b)) (fun nl => ⟨l, xs ++ ys, rfl, nl, upd_same, ?_⟩) q⟩
  exact Reps.append (Reps.mono (fun c o h n => ⟨upd_grow hl c o h, n⟩) _ _ r1) (Reps.mono (fun c o h n => ⟨upd_grow hl c o h, n⟩) _ _ r2)
theorem Reps.rep {K : PySem.W.Frag} {L : Addr → Prop} {H : Hp} {ds : List D} {xs : List V} (h : Reps K L H ds xs) : ∀ n : Nat, Reps K L H (List.replicate n ds).flatten (List.replicate n xs).flatten
  | 0 => rfl
  | n + 1 => by
    rw [List.replicate_succ, List.replicate_succ, List.flatten_cons, List.flatten_cons]
    exact Reps.append h (Reps.rep h n)
theorem go_mul_lst {a : List D} {k : Int} (h1 : -(2 ^ 63) ≤ k) (h2 : k < 2 ^ 63) (hz : a.length * k.toNat ≤ sizeLine) (q : Q (.d (.lst (List.replicate k.toNat a).flatten)) μ) : Go2 C (binaryOp .Mult) (.d (.lst a)) (.d (.int k)) μ Q := fun X hX H w vx vy M rx ry => by
  obtain ⟨p, xs, rfl, n1, e1, r1⟩ := rx
  refine rS_of op_rep ⟨p, k, xs, rfl, ry, e1, h1, h2, by rw [r1.len]; exact hz, fun l hl => lift.new M hl (x := .lst (List.replicate k.toNat a).flatten) (fun nl => ⟨l, _, rfl, nl, upd_same, ?_⟩) q⟩
  exact Reps.rep (Reps.mono (fun c o h n => ⟨upd_grow hl c o h, n⟩) _ _ r1) _
/-! comparisons -/
theorem go_lt {i j : Int} (q : Q (.d (.bl (decide (i < j)))) μ) : Go2 C (compareOp .Lt) (.d (.int i)) (.d (.int j)) μ Q := fun X hX H w vx vy M rx ry => rS_of op_lt ⟨i, j, rx, ry, lift.now M (x := .d (.bl _)) rfl q⟩
theorem go_le {i j : Int} (q : Q (.d (.bl (decide (i ≤ j)))) μ) : Go2 C (compareOp .LtE) (.d (.int i)) (.d (.int j)) μ Q := fun X hX H w vx vy M rx ry => rS_of op_le ⟨i, j, rx, ry, lift.now M (x := .d (.bl _)) rfl q⟩
theorem go_gt {i j : Int} (q : Q (.d (.bl (decide (j < i)))) μ) : Go2 C (compareOp .Gt) (.d (.int i)) (.d (.int j)) μ Q := fun X hX H w vx vy M rx ry => rS_of op_gt ⟨i, j, rx, ry, lift.now M (x := .d (.bl _)) rfl q⟩
theorem go_ge {i j : Int} (q : Q (.d (.bl (decide (j ≤ i)))) μ) : Go2 C (compareOp .GtE) (.d (.int i)) (.d (.int j)) μ Q := fun X hX H w vx vy M rx ry => rS_of op_ge ⟨i, j, rx, ry, lift.now M (x := .d (.bl _)) rfl q⟩
theorem go_lt_txt {a b : List Nat} (q : Q (.d (.bl (decide (a < b)))) μ) : Go2 C (compareOp .Lt) (.d (.txt a)) (.d (.txt b)) μ Q := fun X hX H w vx vy M rx ry => rS_of op_lt_str ⟨SX.S a, SX.S b, rx, ry, lift.now M (x := .d (.bl _)) rfl q⟩
theorem go_eq_int {i j : Int} (q : Q (.d (.bl (decide (i = j)))) μ) : Go2 C (compareOp .Eq) (.d (.int i)) (.d (.int j)) μ Q := fun X hX H w vx vy M rx ry => by
  rw [show vx = V.int i from rx, show vy = V.int j from ry]
  exact rS_of op_eq ⟨rfl, lift.now M (x := .d (.bl (decide (i = j)))) (by show V.bl _ = V.bl _; rw [dec_int, Bool.beq_eq_decide_eq]) q⟩
theorem go_ne_int {i j : Int} (q : Q (.d (.bl (!decide (i = j)))) μ) : Go2 C (compareOp .NotEq) (.d (.int i)) (.d (.int j)) μ Q := fun X hX H w vx vy M rx ry => by
  rw [show vx = V.int i from rx, show vy = V.int j from ry]
  exact rS_of op_ne ⟨rfl, lift.now M (x := .d (.bl (!decide (i = j)))) (by show V.bl _ = V.bl _; rw [dec_int, Bool.beq_eq_decide_eq]) q⟩
theorem go_eq_bl {i j : Bool} (q : Q (.d (.bl (decide (i = j)))) μ) : Go2 C (compareOp .Eq) (.d (.bl i)) (.d (.bl j)) μ Q := fun X hX H w vx vy M rx ry => by
  rw [show vx = V.bl i from rx, show vy = V.bl j from ry]
  exact rS_of op_eq ⟨rfl, lift.now M (x := .d (.bl (decide (i = j)))) (by show V.bl _ = V.bl _; rw [dec_bl, Bool.beq_eq_decide_eq]) q⟩
theorem go_ne_bl {i j : Bool} (q : Q (.d (.bl (!decide (i = j)))) μ) : Go2 C (compareOp .NotEq) (.d (.bl i)) (.d (.bl j)) μ Q := fun X hX H w vx vy M rx ry => by
  rw [show vx = V.bl i from rx, show vy = V.bl j from ry]
  exact rS_of op_ne ⟨rfl, lift.now M (x := .d (.bl (!decide (i = j)))) (by show V.bl _ = V.bl _; rw [dec_bl, Bool.beq_eq_decide_eq]) q⟩
theorem dec_S (a b : List Nat) : decide (V.str (SX.S a) = V.str (SX.S b)) = decide (a = b) := by
  rw [dec_str, SX.S_beq_eq]
theorem go_eq_txt {a b : List Nat} (q : Q (.d (.bl (decide (a = b)))) μ) : Go2 C (compareOp .Eq) (.d (.txt a)) (.d (.txt b)) μ Q := fun X hX H w vx vy M rx ry => by
  rw [show vx = V.str (SX.S a) from rx, show vy = V.str (SX.S b) from ry]
  exact rS_of op_eq ⟨rfl, lift.now M (x := .d (.bl (decide (a = b)))) (by show V.bl _ = V.bl _; rw [dec_S]) q⟩
theorem go_ne_txt {a b : List Nat} (q : Q (.d (.bl (!decide (a = b)))) μ) : Go2 C (compareOp .NotEq) (.d (.txt a)) (.d (.txt b)) μ Q := fun X hX H w vx vy M rx ry => by
  rw [show vx = V.str (SX.S a) from rx, show vy = V.str (SX.S b) from ry]
  exact rS_of op_ne ⟨rfl, lift.now M (x := .d (.bl (!decide (a = b)))) (by show V.bl _ = V.bl _; rw [dec_S]) q⟩
/-- one sign in a text -/
theorem go_in_sign {c : Nat} {a : List Nat} (q : Q (.d (.bl (decide (c ∈ a)))) μ) : Go2 C (compareOp .In) (.d (.txt [c])) (.d (.txt a)) μ Q := fun X hX H w vx vy M rx ry =>
  rS_of op_in_sign ⟨c, SX.S a, rx, ry, lift.now M (x := .d (.bl _)) rfl q⟩
theorem go_nin_sign {c : Nat} {a : List Nat} (q : Q (.d (.bl (!decide (c ∈ a)))) μ) : Go2 C (compareOp .NotIn) (.d (.txt [c])) (.d (.txt a)) μ Q := fun X hX H w vx vy M rx ry =>
  rS_of op_notIn_sign ⟨c, SX.S a, rx, ry, lift.now M (x := .d (.bl _)) rfl q⟩
theorem go_is_non {x : D} (q : Q (.d (.bl (match x with | .non => true | _ => false))) μ) : Go2 C (compareOp .Is) (.d x) (.d .non) μ Q := fun X hX H w vx vy M rx ry =>
  rS_of op_isN ⟨ry, lift.now M (x := .d (.bl _)) (by
    show V.bl _ = V.bl _
    cases x <;> first | (rw [show vx = _ from rx]; rfl) | (obtain ⟨a, _, _, rfl, _⟩ := rx; rfl) | (obtain ⟨a, _, rfl, _⟩ := rx; rfl) | (obtain ⟨a, rfl, _⟩ := rx; rfl)) q⟩
theorem go_isnot_non {x : D} (q : Q (.d (.bl (match x with | .non => false | _ => true))) μ) : Go2 C (compareOp .IsNot) (.d x) (.d .non) μ Q := fun X hX H w vx vy M rx ry =>
  rS_of op_notN ⟨ry, lift.now M (x := .d (.bl _)) (by
    show V.bl _ = V.bl _
    cases x <;> first | (rw [show vx = _ from rx]; rfl) | (obtain ⟨a, _, _, rfl, _⟩ := rx; rfl) | (obtain ⟨a, _, rfl, _⟩ := rx; rfl) | (obtain ⟨a, rfl, _⟩ := rx; rfl)) q⟩
/-! data of any depth, as the library's == takes it -/
mutual
def D.py : D → PyData
  | .non => .none
  | .bl b => .bool b
  | .int i => .int i
  | .txt l => .str (SX.S l)
  | .lst ds => .list (D.pys ds)
  | .tup ds => .tuple (D.pys ds)
  | _ => .none
def D.pys : List D → List PyData
  | [] => []
  | d :: ds => d.py :: D.pys ds
end
mutual
def D.plain : D → Bool
  | .non => true
  | .bl _ => true
  | .int _ => true
  | .txt l => l.all (· < 1114112)
  | .lst ds => D.plains ds
  | .tup ds => D.plains ds
  | _ => false
def D.plains : List D → Bool
  | [] => true
  | d :: ds => d.plain && D.plains ds
end
mutual
theorem Rep.dp {K : PySem.W.Frag} {L : Addr → Prop} {H : Hp} : ∀ (d : D) (v : V), d.plain = true → Rep K L H d v → Dp K H v d.py
  | .non, _, _, h => by rw [show _ = V.non from h]; unfold D.py; exact .non
  | .bl b, _, _, h => by rw [show _ = V.bl b from h]; unfold D.py; exact .bl b
  | .int i, _, _, h => by rw [show _ = V.int i from h]; unfold D.py; exact .int i
  | .txt l, _, _, h => by rw [show _ = V.str (SX.S l) from h]; unfold D.py; exact .str _
  | .lst ds, _, p, h => by
    obtain ⟨a, xs, rfl, _, e, r⟩ := h
    unfold D.py
    exact .lst (SqL.of e) (Reps.dp ds xs (by unfold D.plain at p; exact p) r)
  | .tup ds, _, p, h => by
    obtain ⟨a, xs, rfl, _, e, r⟩ := h
    unfold D.py
    exact .tup (SqT.of e) (Reps.dp ds xs (by unfold D.plain at p; exact p) r)
  | .ty _, _, p, _ => by unfold D.plain at p; cases p
  | .ref _, _, p, _ => by unfold D.plain at p; cases p
  | .scr _, _, p, _ => by unfold D.plain at p; cases p
  | .ins _ _ _, _, p, _ => by unfold D.plain at p; cases p
theorem Reps.dp {K : PySem.W.Frag} {L : Addr → Prop} {H : Hp} : ∀ (ds : List D) (xs : List V), D.plains ds = true → Reps K L H ds xs → DpAll K H xs (D.pys ds)
  | [], _, _, h => by rw [show _ = [] from h]; unfold D.pys; exact .nil
  | d :: ds, _, p, h => by
    obtain ⟨x, r, rfl, h1, h2⟩ := h
    unfold D.plains at p
    rw [Bool.and_eq_true] at p
    unfold D.pys
    exact .cons (Rep.dp d x p.1 h1) (Reps.dp ds r p.2 h2)
end
mutual
theorem D.canLay : ∀ d : D, d.plain = true → d.py.canLay0 = true
  | .non, _ => by unfold D.py; rfl
  | .bl _, _ => by unfold D.py; rfl
  | .int _, _ => by unfold D.py; rfl
  | .txt l, p => by
    unfold D.plain at p
    unfold D.py PyData.canLay0 PyData.strOk
    rw [← Array.all_toList]
    exact p
  | .lst ds, p => by
    unfold D.plain at p
    unfold D.py PyData.canLay0
    exact D.canLays ds p
  | .tup ds, p => by
    unfold D.plain at p
    unfold D.py PyData.canLay0
    exact D.canLays ds p
  | .ty _, p => by unfold D.plain at p; cases p
  | .ref _, p => by unfold D.plain at p; cases p
  | .scr _, p => by unfold D.plain at p; cases p
  | .ins _ _ _, p => by unfold D.plain at p; cases p
theorem D.canLays : ∀ ds : List D, D.plains ds = true → PyData.canLayAll0 (D.pys ds) = true
  | [], _ => by unfold D.pys; rfl
  | d :: ds, p => by
    unfold D.plains at p
    rw [Bool.and_eq_true] at p
    unfold D.pys PyData.canLayAll0
    rw [D.canLay d p.1, D.canLays ds p.2]
    rfl
end
def D.okEq (d : D) : Prop := d.plain = true ∧ d.py.depth ≤ 64
theorem D.okEq.shaped {d : D} (h : d.okEq) : SeqAt.shaped d.py = true := by
  unfold SeqAt.shaped
  rw [D.canLay d h.1, decide_eq_true h.2]
  rfl
theorem hu64 {k : Nat} {A : Around} (hr : Room k A) : A.units + 64 < cLine := hr.units
theorem go_eq_d {x y : D} (hx : x.okEq) (hy : y.okEq) (q : Q (.d (.bl (PyData.eqv x.py y.py))) μ) : Go2 C (compareOp .Eq) (.d x) (.d y) μ Q := fun X hX H w vx vy M rx ry =>
  rS_of (op_eqD (hu64 hX.room)) ⟨x.py, y.py, by rw [hX.K]; exact Rep.dp x vx hx.1 rx, by rw [hX.K]; exact Rep.dp y vy hy.1 ry, hx.shaped, hy.shaped, lift.now M (x := .d (.bl _)) rfl q⟩
theorem go_ne_d {x y : D} (hx : x.okEq) (hy : y.okEq) (q : Q (.d (.bl (!PyData.eqv x.py y.py))) μ) : Go2 C (compareOp .NotEq) (.d x) (.d y) μ Q := fun X hX H w vx vy M rx ry =>
  rS_of (op_neD (hu64 hX.room)) ⟨x.py, y.py, by rw [hX.K]; exact Rep.dp x vx hx.1 rx, by rw [hX.K]; exact Rep.dp y vy hy.1 ry, hx.shaped, hy.shaped, lift.now M (x := .d (.bl _)) rfl q⟩
end
/-! ### items, slices -/
section
variable {C : SC} {E : EPost} {ρ : Env} {μ : Mem} {Q : XV → Mem → Prop} {QA : List XV → Mem → Prop} {a b e : Expr} {es : List Expr} {pos p2 : Pos} {lo hi : Option Expr}
theorem we_ix (h : WE C a ρ μ E fun x μ1 => WE C b ρ μ1 E fun y μ2 => GoI C x y μ2 Q) (hs : PlainIx b := by exact fun _ _ => rfl) : WE C (.Subscript a b pos) ρ μ E Q := fun X σ H w A =>
  tE_of (pe_ix ixS_ok pe_tE pe_tE hs) (h.go A fun v1 H1 x μ1 w1 r1 A1 S1 h1 => h1.go A1 fun v2 H2 y μ2 w2 r2 A2 S2 h2 => ixS.from (S1.trans S2) (h2 X A2.has H2 w2 v1 v2 A2.M (r1.stp S2) r2))
theorem gi_txt {l : List Nat} {i : Int} {c : Nat} (hz : l.length ≤ sizeLine) (h : atI l i = some c) (q : Q (.d (.txt [c])) μ) : GoI C (.d (.txt l)) (.d (.int i)) μ Q := fun X hX H w vx vy M rx ry =>
  ixS_of ix_str ⟨SX.S l, i, c, rx, ry, by rw [SX.S_len]; exact hz, h, lift.now M (x := .d (.txt [c])) rfl q⟩
theorem atI_reps {K : PySem.W.Frag} {L : Addr → Prop} {H : Hp} {ds : List D} {xs : List V} {i : Int} {d : D} (r : Reps K L H ds xs) (h : atI ds i = some d) : ∃ v, atI xs i = some v ∧ Rep K L H d v := by
  unfold atI at h ⊢
  rw [r.len]
  cases e : ixN ds.length i with
  | none => rw [e] at h; cases h
  | some j =>
    rw [e] at h
    exact Reps.get r h
theorem gi_lst {ds : List D} {i : Int} {d : D} (h : atI ds i = some d) (q : Q (.d d) μ) : GoI C (.d (.lst ds)) (.d (.int i)) μ Q := fun X hX H w vx vy M rx ry => by
  obtain ⟨p, xs, rfl, nl, e, r⟩ := rx
  obtain ⟨v, e2, rv⟩ := atI_reps r h
  exact ixS_of ix_list ⟨p, xs, i, v, rfl, ry, SqL.of e, e2, lift.now M (x := .d d) rv q⟩
theorem gi_tup {ds : List D} {i : Int} {d : D} (h : atI ds i = some d) (q : Q (.d d) μ) : GoI C (.d (.tup ds)) (.d (.int i)) μ Q := fun X hX H w vx vy M rx ry => by
  obtain ⟨p, xs, rfl, nl, e, r⟩ := rx
  obtain ⟨v, e2, rv⟩ := atI_reps r h
  exact ixS_of ix_tup ⟨p, xs, i, v, rfl, ry, SqT.of e, e2, lift.now M (x := .d d) rv q⟩
theorem paired_get {α β : Type} {R : α → β → Prop} : ∀ {xs : List α} {ys : List β} {i : Nat} {x : α}, Paired R xs ys → xs[i]? = some x → ∃ y, ys[i]? = some y ∧ R x y
  | _, _, _, _, .nil, e => by simp at e
  | _, _, 0, _, .cons r _, e => by simp at e; subst e; exact ⟨_, rfl, r⟩
  | _, _, i + 1, x, .cons _ t, e => by
    obtain ⟨u, h1, h2⟩ := paired_get (i := i) (x := x) t (by simpa using e)
    exact ⟨u, by simpa using h1, h2⟩
theorem atI_paired {K : PySem.W.Frag} {H : Hp} {w : IA} {xs : List XV} {vs : List V} {i : Int} {x : XV} (r : RepXs K μ H w xs vs) (h : atI xs i = some x) : ∃ v, atI vs i = some v ∧ RepX K μ H w x v := by
  unfold atI at h ⊢
  rw [← r.length]
  cases e : ixN xs.length i with
  | none => rw [e] at h; cases h
  | some j =>
    rw [e] at h
    exact paired_get r h
theorem gi_cell {n : Nat} {xs : List XV} {i : Int} {x : XV} (hm : μ[n]? = some (some (.lst xs))) (h : atI xs i = some x) (q : Q x μ) : GoI C (.l n) (.d (.int i)) μ Q := fun X hX H w vx vy M rx ry => by
  obtain ⟨p, hp, rfl⟩ := rx
  obtain ⟨vs, e, r⟩ := M.holds n _ p hm hp
  obtain ⟨v, e2, rv⟩ := atI_paired r h
  exact ixS_of ix_list ⟨p, vs, i, v, rfl, ry, SqL.of e, e2, lift.now M rv q⟩
def tO (X : Cx) : Option Expr → TO
  | none => tNoPart
  | some e => tPart (tE X e)
theorem po_tO {X : Cx} : ∀ {e : Option Expr}, PO X e (tO X e)
  | none => po_none
  | some _ => po_some pe_tE
def liftO (K : PySem.W.Frag) (Q : Option Int → Mem → Prop) (μ : Mem) (H : Hp) (w : IA) : Option Int → Hp → Prop := fun o H' => ∃ μ' w', MOk K μ' H' w' ∧ Stp μ H w μ' H' w' ∧ Q o μ'
/-- an optional part of a slice -/
def WO (C : SC) (e : Option Expr) (ρ : Env) (μ : Mem) (E : EPost) (Q : Option Int → Mem → Prop) : Prop :=
  ∀ X σ H w, At C X E ρ μ σ H w → tO X e σ H (liftO C.K Q μ H w)
theorem wo_none {Q : Option Int → Mem → Prop} (q : Q none μ) : WO C none ρ μ E Q := fun X σ H w A => ⟨μ, w, A.M, Stp.refl, q⟩
theorem wo_some {Q : Option Int → Mem → Prop} (h : WE C e ρ μ E fun x μ1 => ∃ i, x = .d (.int i) ∧ Q (some i) μ1) : WO C (some e) ρ μ E Q := fun X σ H w A =>
  h.go A fun v H1 x μ1 w1 r A1 S1 ⟨i, ex, q⟩ => by subst ex; exact ⟨i, r, μ1, w1, A1.M, S1, q⟩
theorem tO_mono {X : Cx} {e : Option Expr} {σ : L2.St} {H : Hp} {Q Q' : Option Int → Hp → Prop} (h : tO X e σ H Q) (k : ∀ o H', Q o H' → Q' o H') : tO X e σ H Q' := by
  cases e with
  | none => exact k _ _ h
  | some e => exact tE_mono h fun v H' ⟨i, e, q⟩ => ⟨i, e, k _ _ q⟩
theorem we_sl (h : WE C e ρ μ E fun x μ1 => WO C lo ρ μ1 E fun l μ2 => WO C hi ρ μ2 E fun u μ3 => GoS C x l u μ3 Q) : WE C (.Subscript e (.Slice lo hi none p2) pos) ρ μ E Q := fun X σ H w A => by
  refine tE_of (pe_slice slS_ok pe_tE po_tO po_tO) (h.go A fun v1 H1 x μ1 w1 r1 A1 S1 h1 => tO_mono (h1 X σ H1 w1 A1) fun l H2 ⟨μ2, w2, M2, S2, h2⟩ => ?_)
  have A2 := A1.step S2 M2
  refine tO_mono (h2 X σ H2 w2 A2) fun u H3 ⟨μ3, w3, M3, S3, h3⟩ => ?_
  have A3 := A2.step S3 M3
  exact slS.from ((S1.trans S2).trans S3) (h3 X A3.has H3 w3 v1 M3 ((r1.stp S2).stp S3))
/-- l[lo:hi] -/
def cut {α : Type} (l : List α) (lo hi : Option Int) : List α := (l.drop (HT.sIx l.length 0 lo)).take (HT.sIx l.length l.length hi - HT.sIx l.length 0 lo)
theorem gs_txt {l : List Nat} {lo hi : Option Int} (hz : l.length ≤ sizeLine) (q : Q (.d (.txt (cut l lo hi))) μ) : GoS C (.d (.txt l)) lo hi μ Q := fun X hX H w vx M rx =>
  slS_of sl_str ⟨SX.S l, rx, by rw [SX.S_len]; exact hz, lift.now M (x := .d (.txt (cut l lo hi))) (by
    show V.str (cutS (SX.S l) lo hi) = .str (SX.S (cut l lo hi))
    unfold cutS cut
    rw [SX.S_len]) q⟩
theorem gs_lst {ds : List D} {lo hi : Option Int} (q : Q (.d (.lst (cut ds lo hi))) μ) : GoS C (.d (.lst ds)) lo hi μ Q := fun X hX H w vx M rx => by
  obtain ⟨p, xs, rfl, nl, e, r⟩ := rx
  refine slS_of sl_list ⟨p, xs, rfl, SqL.of e, fun l hl => lift.new M hl (x := .lst (cut ds lo hi)) (fun nl => ⟨l, _, rfl, nl, upd_same, ?_⟩) q⟩
  have r' : Reps C.K (Live μ w) (upd H l (.lst (cutV xs lo hi))) ds xs := r.grow hl
  have e : cutV xs lo hi = (xs.drop (HT.sIx ds.length 0 lo)).take (HT.sIx ds.length ds.length hi - HT.sIx ds.length 0 lo) := by unfold cutV; rw [r.len]
  have r2 := Reps.take (HT.sIx ds.length ds.length hi - HT.sIx ds.length 0 lo) (Reps.drop (HT.sIx ds.length 0 lo) r')
  rw [← e] at r2
  exact r2
end
end DL
set_option maxRecDepth 100000
set_option maxHeartbeats 2000000
namespace DL
open PySem L2 PySem.Spec
/-! ### and, or, not, if-else -/
section
variable {C : SC} {E : EPost} {ρ : Env} {μ : Mem} {Q : XV → Mem → Prop} {QT : Bool → Mem → Prop} {QA : List XV → Mem → Prop} {a b c e : Expr} {es rest : List Expr} {pos p apos : Pos} {x : Str}
theorem liftT_mono {K : PySem.W.Frag} {H : Hp} {w : IA} {QT' : Bool → Mem → Prop} {k : Bool} {H' : Hp} (h : liftT K QT μ H w k H') (f : ∀ b μ', QT b μ' → QT' b μ') : liftT K QT' μ H w k H' := by
  obtain ⟨μ', w', M, S, q⟩ := h
  exact ⟨μ', w', M, S, f _ _ q⟩
/-- a value that is True or False, as a test -/
theorem wt_val (h : WE C e ρ μ E fun z μ' => ∃ k, z = .d (.bl k) ∧ QT k μ') (he : ∀ env whole, isTrue e env whole = (do let v ← whole; standAt e.pos; holding [v] (truthy v)) := by intro _ _; rfl) : WT C e ρ μ E QT := fun X σ H w A =>
  tT_of (pt_val pe_tE (he X.env)) (tE_mono (h X σ H w A) fun v H' q => lift_bl q)
theorem wt_not (h : WT C a ρ μ E fun k μ' => QT (!k) μ') : WT C (.UnaryOp .Not a pos) ρ μ E QT := fun X σ H w A =>
  tT_of (pt_not pt_tT) (tT_mono (h X σ H w A) fun k H' ⟨μ', w', M, S, q⟩ => ⟨μ', w', M, S, q⟩)
theorem ww_and1 (h : WT C a ρ μ E QT) : WW C (.BoolOp .And [a] pos) ρ μ E QT := fun X σ H w A => tW_of (pw_and1 pt_tT) (h X σ H w A)
theorem ww_or1 (h : WT C a ρ μ E QT) : WW C (.BoolOp .Or [a] pos) ρ μ E QT := fun X σ H w A => tW_of (pw_or1 pt_tT) (h X σ H w A)
theorem ww_and (h : WT C a ρ μ E fun k μ1 => (k = true → WW C (.BoolOp .And (b :: rest) pos) ρ μ1 E QT) ∧ (k = false → QT false μ1)) : WW C (.BoolOp .And (a :: b :: rest) pos) ρ μ E QT := fun X σ H w A =>
  tW_of (pw_and pt_tT pw_tW) (h.go A fun k H1 μ1 w1 A1 S1 q => by
    cases k with
    | true => exact iteT ((q.1 rfl).go A1 fun k2 H2 μ2 w2 A2 S2 q2 => ⟨μ2, w2, A2.M, S1.trans S2, q2⟩)
    | false => exact iteF ⟨μ1, w1, A1.M, S1, q.2 rfl⟩)
theorem ww_or (h : WT C a ρ μ E fun k μ1 => (k = false → WW C (.BoolOp .Or (b :: rest) pos) ρ μ1 E QT) ∧ (k = true → QT true μ1)) : WW C (.BoolOp .Or (a :: b :: rest) pos) ρ μ E QT := fun X σ H w A =>
  tW_of (pw_or pt_tT pw_tW) (h.go A fun k H1 μ1 w1 A1 S1 q => by
    cases k with
    | false => exact iteF ((q.1 rfl).go A1 fun k2 H2 μ2 w2 A2 S2 q2 => ⟨μ2, w2, A2.M, S1.trans S2, q2⟩)
    | true => exact iteT ⟨μ1, w1, A1.M, S1, q.2 rfl⟩)
theorem wt_bool {op : BoolOp} (h : WW C (.BoolOp op es pos) ρ μ E QT) : WT C (.BoolOp op es pos) ρ μ E QT := fun X σ H w A => tT_of (PW.pt pw_tW) (h X σ H w A)
/-- as values, all but the last True or False -/
theorem we_one {op : BoolOp} (h : WE C a ρ μ E Q) : WE C (.BoolOp op [a] pos) ρ μ E Q := fun X σ H w A => tE_of (pe_one pe_tE) (h X σ H w A)
theorem we_and (h : WE C a ρ μ E fun z μ1 => ∃ k, z = .d (.bl k) ∧ (k = true → WE C (.BoolOp .And (b :: rest) pos) ρ μ1 E Q) ∧ (k = false → Q (.d (.bl false)) μ1)) : WE C (.BoolOp .And (a :: b :: rest) pos) ρ μ E Q := fun X σ H w A =>
  tE_of (pe_and pe_tE pe_tE) (h.go A fun v H1 z μ1 w1 r1 A1 S1 ⟨k, ez, q1, q2⟩ => by
    subst ez
    refine ⟨k, r1, ?_⟩
    cases k with
    | true => exact iteT ((q1 rfl).go A1 fun v2 H2 z2 μ2 w2 r2 A2 S2 q2 => ⟨z2, μ2, w2, r2, A2.M, S1.trans S2, q2⟩)
    | false => exact iteF ⟨.d (.bl false), μ1, w1, rfl, A1.M, S1, q2 rfl⟩)
theorem we_or (h : WE C a ρ μ E fun z μ1 => ∃ k, z = .d (.bl k) ∧ (k = false → WE C (.BoolOp .Or (b :: rest) pos) ρ μ1 E Q) ∧ (k = true → Q (.d (.bl true)) μ1)) : WE C (.BoolOp .Or (a :: b :: rest) pos) ρ μ E Q := fun X σ H w A =>
  tE_of (pe_or pe_tE pe_tE) (h.go A fun v H1 z μ1 w1 r1 A1 S1 ⟨k, ez, q1, q2⟩ => by
    subst ez
    refine ⟨k, r1, ?_⟩
    cases k with
    | false => exact iteF ((q1 rfl).go A1 fun v2 H2 z2 μ2 w2 r2 A2 S2 q2 => ⟨z2, μ2, w2, r2, A2.M, S1.trans S2, q2⟩)
    | true => exact iteT ⟨.d (.bl true), μ1, w1, rfl, A1.M, S1, q2 rfl⟩)
theorem we_not (h : WE C a ρ μ E fun z μ1 => ∃ k, z = .d (.bl k) ∧ Q (.d (.bl (!k))) μ1) : WE C (.UnaryOp .Not a pos) ρ μ E Q := fun X σ H w A =>
  tE_of (pe_not pe_tE) (h.go A fun v H1 z μ1 w1 r1 A1 S1 ⟨k, ez, q⟩ => by
    subst ez
    exact ⟨k, r1, .d (.bl (!k)), μ1, w1, rfl, A1.M, S1, q⟩)
theorem we_if (h : WT C c ρ μ E fun k μ1 => (k = true → WE C a ρ μ1 E Q) ∧ (k = false → WE C b ρ μ1 E Q)) : WE C (.IfExp c a b pos) ρ μ E Q := fun X σ H w A =>
  tE_of (pe_ifExp pt_tT pe_tE pe_tE) (h.go A fun k H1 μ1 w1 A1 S1 q => by
    cases k with
    | true => exact iteT ((q.1 rfl).go A1 fun v2 H2 z2 μ2 w2 r2 A2 S2 q2 => ⟨z2, μ2, w2, r2, A2.M, S1.trans S2, q2⟩)
    | false => exact iteF ((q.2 rfl).go A1 fun v2 H2 z2 μ2 w2 r2 A2 S2 q2 => ⟨z2, μ2, w2, r2, A2.M, S1.trans S2, q2⟩))
/-- a < b < c as a value -/
def ChainE (C : SC) (op op' : CmpOp) (c : Expr) (x y : XV) (ρ : Env) (μ : Mem) (E : EPost) (Q : XV → Mem → Prop) : Prop :=
  Go2 C (compareOp op) x y μ fun z μ3 => ∃ k, z = .d (.bl k) ∧ (k = true → WE C c ρ μ3 E fun z2 μ4 => Go2 C (compareOp op') y z2 μ4 Q) ∧ (k = false → Q (.d (.bl false)) μ3)
theorem we_chain {op op' : CmpOp} (h : WE C a ρ μ E fun x μ1 => WE C b ρ μ1 E fun y μ2 => ChainE C op op' c x y ρ μ2 E Q) (hm : lastMarks [op, op'] [b, c] = false := by with_unfolding_all rfl) : WE C (.Compare a [op, op'] [b, c] pos) ρ μ E Q := fun X σ H w A => by
  refine tE_of (pe_chain rS_ok rS_ok pe_tE pe_tE pe_tE hm) (h.go A fun v1 H1 x μ1 w1 r1 A1 S1 h1 => h1.go A1 fun v2 H2 y μ2 w2 r2 A2 S2 h2 => ?_)
  refine rS_mono (h2 X A2.has H2 w2 v1 v2 A2.M (r1.stp S2) r2) fun v H3 q => ?_
  obtain ⟨z, μ3, w3, r3, M3, S3, k, rfl, h3, h4⟩ := q
  refine ⟨k, r3, ?_⟩
  cases k with
  | true =>
    refine iteT ?_
    refine (h3 rfl).go (A2.step S3 M3) fun v4 H4 z4 μ4 w4 r4 A4 S4 h5 => ?_
    exact rS.from (((S1.trans S2).trans S3).trans S4) (h5 X A4.has H4 w4 v2 v4 A4.M ((r2.stp S3).stp S4) r4)
  | false =>
    refine iteF ?_
    exact ⟨.d (.bl false), μ3, w3, rfl, M3, (S1.trans S2).trans S3, h4 rfl⟩
/-! ### displays -/
def allD : List XV → Option (List D)
  | [] => some []
  | .d x :: r => (allD r).map fun ds => x :: ds
  | .l _ :: _ => none
theorem allD_eq : ∀ {xs : List XV} {ds : List D}, allD xs = some ds → xs = ds.map XV.d
  | [], ds, h => by cases h; rfl
  | .l _ :: _, _, h => by cases h
  | .d x :: r, ds, h => by
    unfold allD at h
    cases e : allD r with
    | none => rw [e] at h; cases h
    | some es =>
      rw [e] at h
      cases h
      rw [allD_eq e]
      rfl
theorem RepXs.reps {K : PySem.W.Frag} {H : Hp} {w : IA} : ∀ {ds : List D} {vs : List V}, RepXs K μ H w (ds.map XV.d) vs → Reps K (Live μ w) H ds vs
  | [], _, h => by cases h; rfl
  | d :: ds, _, h => by
    cases h with
    | cons r t => exact ⟨_, _, rfl, r, RepXs.reps t⟩
theorem Reps.xs {K : PySem.W.Frag} {H : Hp} {w : IA} : ∀ {ds : List D} {vs : List V}, Reps K (Live μ w) H ds vs → RepXs K μ H w (ds.map XV.d) vs
  | [], _, h => by rw [show _ = [] from h]; exact .nil
  | d :: ds, _, h => by
    obtain ⟨x, r, rfl, h1, h2⟩ := h
    exact .cons h1 (Reps.xs h2)
theorem we_lst (h : WA C es ρ μ E fun xs μ1 => ∃ ds, allD xs = some ds ∧ ds.length ≤ sizeLine ∧ Q (.d (.lst ds)) μ1) : WE C (.List es pos) ρ μ E Q := fun X σ H w A =>
  tE_of (pe_lst pa_tA) (h.go A fun vs H1 xs μ1 w1 rs A1 S1 ⟨ds, e, hz, q⟩ => by
    rw [allD_eq e] at rs
    have r := RepXs.reps rs
    exact ⟨by rw [r.len]; exact hz, fun p hp => lift.from S1 (lift.new A1.M hp (x := .lst ds) (fun nl => ⟨p, vs, rfl, nl, upd_same, r.grow hp⟩) q)⟩)
theorem we_tup {k : Nat} (h : WA C es ρ μ E fun xs μ1 => ∃ ds, allD xs = some ds ∧ ds.length ≤ sizeLine ∧ Q (.d (.tup ds)) μ1) : WE C (.Tuple es k pos) ρ μ E Q := fun X σ H w A =>
  tE_of (pe_tup pa_tA) (h.go A fun vs H1 xs μ1 w1 rs A1 S1 ⟨ds, e, hz, q⟩ => by
    rw [allD_eq e] at rs
    have r := RepXs.reps rs
    exact ⟨by rw [r.len]; exact hz, fun p hp => lift.from S1 (lift.new A1.M hp (x := .tup ds) (fun nl => ⟨p, vs, rfl, nl, upd_same, r.grow hp⟩) q)⟩)
/-- a new cell -/
theorem lift.cell {K : PySem.W.Frag} {H : Hp} {w : IA} (M : MOk K μ H w) {p : Addr} {xs : List XV} {vs : List V} (hp : H p = none) (r : RepXs K μ H w xs vs) (q : Q (.l μ.length) (μ ++ [some (.lst xs)])) : lift K Q μ H w (.ref p) (upd H p (.lst vs)) := by
  have S : Stp μ H w (μ ++ [some (.lst xs)]) (upd H p (.lst vs)) (w.push p) := Stp.push M hp (upd_grow hp)
  refine ⟨.l μ.length, _, w.push p, ⟨p, ?_, rfl⟩, MOk.push (m := .lst xs) M hp (upd_grow hp) ⟨vs, upd_same, r.stp S⟩, S, q⟩
  show (w.ι ++ [p])[μ.length]? = some p
  rw [← M.len, List.getElem?_append_right (Nat.le_refl _)]
  simp
theorem we_lstC (h : WA C es ρ μ E fun xs μ1 => xs.length ≤ sizeLine ∧ Q (.l μ1.length) (μ1 ++ [some (.lst xs)])) : WE C (.List es pos) ρ μ E Q := fun X σ H w A =>
  tE_of (pe_lst pa_tA) (h.go A fun vs H1 xs μ1 w1 rs A1 S1 ⟨hz, q⟩ => ⟨by rw [← rs.length]; exact hz, fun p hp => lift.from S1 (lift.cell A1.M hp rs q)⟩)
/-- lists put together, in a new cell -/
theorem go_add_lstC {a b : List D} (hz : a.length + b.length ≤ sizeLine) (q : Q (.l μ.length) (μ ++ [some (.lst ((a ++ b).map XV.d))])) : Go2 C (binaryOp .Add) (.d (.lst a)) (.d (.lst b)) μ Q := fun X hX H w vx vy M rx ry => by
  obtain ⟨p, xs, rfl, n1, h1, r1⟩ := rx
  obtain ⟨p', ys, rfl, n2, h2, r2⟩ := ry
  exact rS_of op_cat ⟨p, p', xs, ys, rfl, rfl, h1, h2, by rw [r1.len, r2.len]; exact hz, fun l hl => lift.cell M hl (Reps.xs (Reps.append r1 r2)) q⟩
/-! ### calls of built-ins -/
theorem we_callB {f : Value} (hg : C.Glob x) (hm : C.mg x = none) (hv : bootBuiltins x = some f) (hf : (∃ id, f = .builtin id) ∨ ∃ T, f = .type T) (h : WA C (e :: es) ρ μ E fun xs μ1 => GoC C f xs μ1 Q) (hn : x ≠ "__name__" := by decide) (hdb : (x == ("__debug__" : Str)) = false := by decide)
    (he : ∀ env, starEach (e :: es) env = (false, eval e env) :: starEach es env := by intro _; rfl) (hpl : ∀ env, (backTo pos (starEach es env)).any (·.1) = false := by intro _; rfl) : WE C (.Call (.Name x p) (e :: es) [] pos) ρ μ E Q := fun X σ H w A => by
  have hg' : Gl X x := by show X.env.scope.names.lookup x = _; rw [A.has.sc]; exact hg
  have hm' : X.mg x = none := by rw [A.has.mg]; exact hm
  rcases hf with ⟨id, rfl⟩ | ⟨T, rfl⟩
  · exact tE_of (pe_callB cS_ok hg' hm' hv pa_tA hn hdb (he _) (hpl _)) (h.go A fun vs H1 xs μ1 w1 rs A1 S1 q => cS.from S1 (q X A1.has H1 w1 vs A1.M rs))
  · exact tE_of (pe_callTy cS_ok hg' hm' hv pa_tA hn hdb (he _) (hpl _)) (h.go A fun vs H1 xs μ1 w1 rs A1 S1 q => cS.from S1 (q X A1.has H1 w1 vs A1.M rs))
theorem RepXs.one {K : PySem.W.Frag} {H : Hp} {w : IA} {y : XV} {vs : List V} (h : RepXs K μ H w [y] vs) : ∃ v, vs = [v] ∧ RepX K μ H w y v := by
  cases h with
  | cons r t => cases t; exact ⟨_, rfl, r⟩
theorem RepXs.two {K : PySem.W.Frag} {H : Hp} {w : IA} {y z : XV} {vs : List V} (h : RepXs K μ H w [y, z] vs) : ∃ v u, vs = [v, u] ∧ RepX K μ H w y v ∧ RepX K μ H w z u := by
  cases h with
  | cons r t =>
    cases t with
    | cons r2 t => cases t; exact ⟨_, _, rfl, r, r2⟩
theorem gc_len_txt {l : List Nat} (hz : l.length ≤ sizeLine) (q : Q (.d (.int (l.length : Int))) μ) : GoC C (.builtin "len") [.d (.txt l)] μ Q := fun X hX H w vs M rs => by
  obtain ⟨v, rfl, r⟩ := rs.one
  exact cS_of call_len_str ⟨SX.S l, by rw [show v = V.str (SX.S l) from r], by rw [SX.S_len]; exact hz, lift.now M (x := .d (.int (l.length : Int))) (by show V.int _ = V.int _; rw [SX.S_len]) q⟩
theorem gc_len_lst {ds : List D} (q : Q (.d (.int (ds.length : Int))) μ) : GoC C (.builtin "len") [.d (.lst ds)] μ Q := fun X hX H w vs M rs => by
  obtain ⟨v, rfl, a, xs, rfl, nl, e, r⟩ := rs.one
  exact cS_of call_len_seq ⟨a, xs, rfl, .inl (SqL.of e), lift.now M (x := .d (.int (ds.length : Int))) (by show V.int _ = V.int _; rw [r.len]) q⟩
theorem gc_len_tup {ds : List D} (q : Q (.d (.int (ds.length : Int))) μ) : GoC C (.builtin "len") [.d (.tup ds)] μ Q := fun X hX H w vs M rs => by
  obtain ⟨v, rfl, a, xs, rfl, nl, e, r⟩ := rs.one
  exact cS_of call_len_seq ⟨a, xs, rfl, .inr (SqT.of e), lift.now M (x := .d (.int (ds.length : Int))) (by show V.int _ = V.int _; rw [r.len]) q⟩
theorem gc_len_cell {n : Nat} {xs : List XV} (hm : μ[n]? = some (some (.lst xs))) (q : Q (.d (.int (xs.length : Int))) μ) : GoC C (.builtin "len") [.l n] μ Q := fun X hX H w vs M rs => by
  obtain ⟨v, rfl, a, ha, rfl⟩ := rs.one
  obtain ⟨us, e, r⟩ := M.holds n _ a hm ha
  exact cS_of call_len_seq ⟨a, us, rfl, .inl (SqL.of e), lift.now M (x := .d (.int (xs.length : Int))) (by show V.int _ = V.int _; rw [r.length]) q⟩
theorem scr_sql {K : PySem.W.Frag} {L : Addr → Prop} {H : Hp} {ns : List Int} {v : V} (h : Rep K L H (.scr ns) v) : ∃ a, v = .ref a ∧ SqL K H a (ns.map V.int) := by
  obtain ⟨a, e, ⟨_, q⟩ | q⟩ := h
  · exact ⟨a, e, .inl q⟩
  · exact ⟨a, e, .inr q⟩
theorem gc_len_scr {ns : List Int} (q : Q (.d (.int (ns.length : Int))) μ) : GoC C (.builtin "len") [.d (.scr ns)] μ Q := fun X hX H w vs M rs => by
  obtain ⟨v, rfl, r⟩ := rs.one
  obtain ⟨a, rfl, h⟩ := scr_sql r
  rw [← hX.K] at h
  exact cS_of call_len_seq ⟨a, _, rfl, .inl h, lift.now M (x := .d (.int (ns.length : Int))) (by show V.int _ = V.int _; rw [List.length_map]) q⟩
theorem gc_abs {i : Int} (q : Q (.d (.int (if i < 0 then -i else i))) μ) : GoC C (.builtin "abs") [.d (.int i)] μ Q := fun X hX H w vs M rs => by
  obtain ⟨v, rfl, r⟩ := rs.one
  exact cS_of call_abs ⟨i, by rw [show v = V.int i from r], lift.now M (x := .d (.int _)) rfl q⟩
theorem gc_max2 {i j : Int} (q : Q (.d (.int (if j > i then j else i))) μ) : GoC C (.builtin "max") [.d (.int i), .d (.int j)] μ Q := fun X hX H w vs M rs => by
  obtain ⟨v, u, rfl, r, r2⟩ := rs.two
  exact cS_of (call_max2 hX.calm) ⟨i, j, by rw [show v = V.int i from r, show u = V.int j from r2], lift.now M (x := .d (.int _)) rfl q⟩
theorem gc_min2 {i j : Int} (q : Q (.d (.int (if j < i then j else i))) μ) : GoC C (.builtin "min") [.d (.int i), .d (.int j)] μ Q := fun X hX H w vs M rs => by
  obtain ⟨v, u, rfl, r, r2⟩ := rs.two
  exact cS_of (call_min2 hX.calm) ⟨i, j, by rw [show v = V.int i from r, show u = V.int j from r2], lift.now M (x := .d (.int _)) rfl q⟩
theorem gc_int_bl {b : Bool} (q : Q (.d (.int (if b then 1 else 0))) μ) : GoC C (.type "int") [.d (.bl b)] μ Q := fun X hX H w vs M rs => by
  obtain ⟨v, rfl, r⟩ := rs.one
  exact cS_of call_int1 (.inr ⟨b, by rw [show v = V.bl b from r], lift.now M (x := .d (.int _)) rfl q⟩)
theorem gc_all {bs : List Bool} (q : Q (.d (.bl (bs.all id))) μ) : GoC C (.builtin "all") [.d (.lst (bs.map D.bl))] μ Q := fun X hX H w vs M rs => by
  obtain ⟨v, rfl, a, xs, rfl, nl, e, r⟩ := rs.one
  rw [Reps.bls r] at e
  exact cS_of (cr_all hX.calm) ⟨a, bs, rfl, SqL.of e, lift.now M (x := .d (.bl _)) rfl q⟩
theorem gc_any {bs : List Bool} (q : Q (.d (.bl (bs.any id))) μ) : GoC C (.builtin "any") [.d (.lst (bs.map D.bl))] μ Q := fun X hX H w vs M rs => by
  obtain ⟨v, rfl, a, xs, rfl, nl, e, r⟩ := rs.one
  rw [Reps.bls r] at e
  exact cS_of (cr_any hX.calm) ⟨a, bs, rfl, SqL.of e, lift.now M (x := .d (.bl _)) rfl q⟩
theorem gc_sum {ns : List Int} (q : Q (.d (.int ns.sum)) μ) : GoC C (.builtin "sum") [.d (.lst (ns.map D.int))] μ Q := fun X hX H w vs M rs => by
  obtain ⟨v, rfl, a, xs, rfl, nl, e, r⟩ := rs.one
  rw [Reps.ints r] at e
  exact cS_of (cr_sum hX.calm) ⟨a, ns, rfl, SqL.of e, lift.now M (x := .d (.int _)) rfl q⟩
theorem gc_list_lst {ds : List D} (q : Q (.d (.lst ds)) μ) : GoC C (.type "list") [.d (.lst ds)] μ Q := fun X hX H w vs M rs => by
  obtain ⟨v, rfl, a, xs, rfl, nl, e, r⟩ := rs.one
  exact cS_of call_list_of ⟨a, xs, rfl, .inl (SqL.of e), fun l hl => lift.new M hl (x := .lst ds) (fun nl => ⟨l, xs, rfl, nl, upd_same, r.grow hl⟩) q⟩
theorem gc_list_lstC {ds : List D} (q : Q (.l μ.length) (μ ++ [some (.lst (ds.map XV.d))])) : GoC C (.type "list") [.d (.lst ds)] μ Q := fun X hX H w vs M rs => by
  obtain ⟨v, rfl, a, xs, rfl, nl, e, r⟩ := rs.one
  exact cS_of call_list_of ⟨a, xs, rfl, .inl (SqL.of e), fun l hl => lift.cell M hl (Reps.xs r) q⟩
theorem gc_list_tup {ds : List D} (q : Q (.d (.lst ds)) μ) : GoC C (.type "list") [.d (.tup ds)] μ Q := fun X hX H w vs M rs => by
  obtain ⟨v, rfl, a, xs, rfl, nl, e, r⟩ := rs.one
  exact cS_of call_list_of ⟨a, xs, rfl, .inr (SqT.of e), fun l hl => lift.new M hl (x := .lst ds) (fun nl => ⟨l, xs, rfl, nl, upd_same, r.grow hl⟩) q⟩
theorem gc_tuple_lst {ds : List D} (q : Q (.d (.tup ds)) μ) : GoC C (.type "tuple") [.d (.lst ds)] μ Q := fun X hX H w vs M rs => by
  obtain ⟨v, rfl, a, xs, rfl, nl, e, r⟩ := rs.one
  exact cS_of call_tuple_of ⟨a, xs, rfl, .inl ⟨SqL.of e, fun l hl => lift.new M hl (x := .tup ds) (fun nl => ⟨l, xs, rfl, nl, upd_same, r.grow hl⟩) q⟩⟩
theorem gc_tuple_cell {n : Nat} {ds : List D} (hm : μ[n]? = some (some (.lst (ds.map XV.d)))) (q : Q (.d (.tup ds)) μ) : GoC C (.type "tuple") [.l n] μ Q := fun X hX H w vs M rs => by
  obtain ⟨v, rfl, a, ha, rfl⟩ := rs.one
  obtain ⟨us, e, r⟩ := M.holds n _ a hm ha
  exact cS_of call_tuple_of ⟨a, us, rfl, .inl ⟨SqL.of e, fun l hl => lift.new M hl (x := .tup ds) (fun nl => ⟨l, us, rfl, nl, upd_same, (RepXs.reps r).grow hl⟩) q⟩⟩
end
end DL
set_option maxRecDepth 100000
set_option maxHeartbeats 2000000
namespace DL
open PySem L2 PySem.Spec
/-! ### statements -/
section
variable {C : SC} {E : EPost} {ρ : Env} {μ : Mem} {Q : XV → Mem → Prop} {QT : Bool → Mem → Prop} {D : DEnds} {a b c e : Expr} {es : List Expr} {st : Stmt} {rest body orelse : List Stmt} {pos p pos' : Pos} {x : Str}
theorem liftD.from {K : PySem.W.Frag} {μ' : Mem} {H H' : Hp} {w w' : IA} {X : Cx} {sts : List Stmt} {σ : L2.St} {H2 : Hp} (S : Stp μ H w μ' H' w') (h : tS X sts (liftD K D μ' H' w') σ H2) : tS X sts (liftD K D μ H w) σ H2 :=
  tS_mono h (fun _ _ q => liftN.from S q) (fun _ _ q => lift.from S q) (fun _ _ q => liftN.from S q) (fun _ _ q => liftN.from S q)
theorem ws_nil (q : D.nx ρ μ) : WS C [] ρ μ E D := fun X σ H w A => tS_of pss_nil ⟨ρ, μ, w, A.R, A.M, Stp.refl, q⟩
theorem SP_one {X : Cx} {σ : L2.St} {H : Hp} {D1 : Ends} (h : tS1 X st D1 σ H) {t : TS} {D2 : Ends} (hr : PSs X rest t) (k1 : ∀ σ' H', D1.nx σ' H' → t D2 σ' H') (k2 : ∀ v H', D1.rt v H' → D2.rt v H') (k3 : ∀ σ' H', D1.bk σ' H' → D2.bk σ' H') (k4 : ∀ σ' H', D1.ct σ' H' → D2.ct σ' H') : tS X (st :: rest) D2 σ H := fun pins s I => by
  refine PySem.wpAny_execs_cons (thn (h pins s I) fun f s1 q => ?_)
  cases f with
  | next => obtain ⟨σ', H', I', q⟩ := q; exact hr.run pins s1 σ' H' D2 I' (k1 σ' H' q)
  | ret u => obtain ⟨v, σ', H', I', r, q⟩ := q; exact ⟨v, σ', H', I', r, k2 v H' q⟩
  | brk => obtain ⟨σ', H', I', q⟩ := q; exact ⟨σ', H', I', k3 σ' H' q⟩
  | cont => obtain ⟨σ', H', I', q⟩ := q; exact ⟨σ', H', I', k4 σ' H' q⟩
theorem ws_cons (h : WS1 C st ρ μ E { D with nx := fun ρ' μ' => WS C rest ρ' μ' E D }) : WS C (st :: rest) ρ μ E D := fun X σ H w A =>
  SP_one (h X σ H w A) ps_tS (fun σ' H' ⟨ρ', μ', w', R, M, S, q⟩ => liftD.from S (q X σ' H' w' ((A.step S M).env R))) (fun _ _ q => q) (fun _ _ q => q) (fun _ _ q => q)
theorem w1_pass (q : D.nx ρ μ) : WS1 C (.Pass pos) ρ μ E D := fun X σ H w A => tS1_of ps_pass ⟨ρ, μ, w, A.R, A.M, Stp.refl, q⟩
theorem w1_break (q : D.bk ρ μ) : WS1 C (.Break pos) ρ μ E D := fun X σ H w A => tS1_of ps_break ⟨ρ, μ, w, A.R, A.M, Stp.refl, q⟩
theorem w1_cont (q : D.ct ρ μ) : WS1 C (.Continue pos) ρ μ E D := fun X σ H w A => tS1_of ps_continue ⟨ρ, μ, w, A.R, A.M, Stp.refl, q⟩
theorem w1_ret (h : WE C e ρ μ E D.rt) : WS1 C (.Return (some e) pos) ρ μ E D := fun X σ H w A => tS1_of (ps_ret pe_tE) (h X σ H w A)
theorem w1_retN (q : D.rt (.d .non) μ) : WS1 C (.Return none pos) ρ μ E D := fun X σ H w A => tS1_of ps_retN ⟨.d .non, μ, w, rfl, A.M, Stp.refl, q⟩
theorem w1_expr (h : WE C e ρ μ E fun _ μ' => D.nx ρ μ') (hs : ∀ env, swapsWith e none pos.line env = pure false := by intro _; rfl) : WS1 C (.Expr e pos) ρ μ E D := fun X σ H w A =>
  tS1_of (ps_expr pe_tE (hs _)) (h.go A fun v H1 z μ1 w1 r1 A1 S1 q => ⟨ρ, μ1, w1, A1.R, A1.M, S1, q⟩)
theorem w1_if (h : WT C c ρ μ E fun k μ1 => (k = true → WS C body ρ μ1 E D) ∧ (k = false → WS C orelse ρ μ1 E D)) : WS1 C (.If c body orelse pos) ρ μ E D := fun X σ H w A =>
  tS1_of (ps_if pt_tT ps_tS ps_tS) (h.go A fun k H1 μ1 w1 A1 S1 q => by
    cases k with
    | true => exact iteT (liftD.from S1 (q.1 rfl X σ H1 w1 A1))
    | false => exact iteF (liftD.from S1 (q.2 rfl X σ H1 w1 A1)))
/-- a name takes a value -/
theorem ROk.put {K : PySem.W.Frag} {H : Hp} {w : IA} {σ : L2.St} (R : ROk K μ H w ρ σ) {v : V} {y : XV} (r : RepX K μ H w y v) (i : Nat) : ROk K μ H w (ρ.set i (some y)) (σ.set i (some v)) := by
  refine ⟨by rw [List.length_set, List.length_set]; exact R.len, fun j z e => ?_⟩
  by_cases hj : i = j
  · subst hj
    by_cases hl : i < ρ.length
    · rw [List.getElem?_set_self hl] at e
      cases e
      exact ⟨v, by rw [List.getElem?_set_self (by rw [← R.len]; exact hl)], r⟩
    · rw [List.getElem?_eq_none (by rw [List.length_set]; omega)] at e
      cases e
  · rw [List.getElem?_set_ne hj] at e
    obtain ⟨u, e1, r1⟩ := R.rep j z e
    exact ⟨u, by rw [List.getElem?_set_ne hj]; exact e1, r1⟩
/-- the name may be stored: x stands at i -/
structure SC.Nm (C : SC) (i : Nat) (x : Str) : Prop where
  nd : C.N.Nodup
  at_ : C.N[i]? = some x
  loc : Loc C.sc x
  own : C.own x = true
theorem Nm.fn {i : Nat} (n : C.Nm i x) {X : Cx} (h : C.Has X) : X.fn x = true ∨ X.env.scope.names.lookup x = some .local := h.own x n.own
theorem w1_set {i : Nat} (n : C.Nm i x) (h : WE C e ρ μ E fun y μ' => D.nx (ρ.set i (some y)) μ') (hs : ∀ env, swapsWith e (some (.Name x pos')) pos.line env = pure false := by intro _; rfl) : WS1 C (.Assign [.Name x pos'] e pos) ρ μ E D := fun X σ H w A =>
  tS1_of (ps_set (i := i) (by rw [A.has.N]; exact n.nd) (by rw [A.has.N]; exact n.at_) (by rw [A.has.sc]; exact n.loc) pe_tE (hs _) (Nm.fn n A.has)) (h.go A fun v H1 z μ1 w1 r1 A1 S1 q => ⟨_, μ1, w1, A1.R.put r1 i, A1.M, S1, q⟩)
/-- x op= e, numbers -/
theorem w1_addI {i : Nat} {k : Int} (n : C.Nm i x) (hv : ρ[i]? = some (some (.d (.int k)))) (h : WE C e ρ μ E fun y μ' => ∃ j, y = .d (.int j) ∧ D.nx (ρ.set i (some (.d (.int (k + j))))) μ') : WS1 C (.AugAssign (.Name x pos') .Add e pos) ρ μ E D := fun X σ H w A => by
  obtain ⟨u, e1, r⟩ := A.R.rep i _ hv
  rw [show u = V.int k from r] at e1
  refine tS1_of (ps_aug (i := i) (by rw [A.has.N]; exact n.nd) (by rw [A.has.N]; exact n.at_) (by rw [A.has.sc]; exact n.loc) pe_tE ip_add (Nm.fn n A.has)) ⟨_, e1, h.go A fun v H1 z μ1 w1 r1 A1 S1 ⟨j, ez, q⟩ => ?_⟩
  subst ez
  exact ⟨k, j, rfl, r1, _, μ1, w1, A1.R.put (y := .d (.int (k + j))) rfl i, A1.M, S1, q⟩
theorem w1_subI {i : Nat} {k : Int} (n : C.Nm i x) (hv : ρ[i]? = some (some (.d (.int k)))) (h : WE C e ρ μ E fun y μ' => ∃ j, y = .d (.int j) ∧ D.nx (ρ.set i (some (.d (.int (k - j))))) μ') : WS1 C (.AugAssign (.Name x pos') .Sub e pos) ρ μ E D := fun X σ H w A => by
  obtain ⟨u, e1, r⟩ := A.R.rep i _ hv
  rw [show u = V.int k from r] at e1
  refine tS1_of (ps_aug (i := i) (by rw [A.has.N]; exact n.nd) (by rw [A.has.N]; exact n.at_) (by rw [A.has.sc]; exact n.loc) pe_tE ip_sub (Nm.fn n A.has)) ⟨_, e1, h.go A fun v H1 z μ1 w1 r1 A1 S1 ⟨j, ez, q⟩ => ?_⟩
  subst ez
  exact ⟨k, j, rfl, r1, _, μ1, w1, A1.R.put (y := .d (.int (k - j))) rfl i, A1.M, S1, q⟩
/-- a, b = e1, e2: two local names -/
theorem w1_par {i j : Nat} {y : Str} {px py pt pt2 : Pos} {kt k2 : Nat} (n : C.Nm i x) (n2 : C.Nm j y) (hij : i ≠ j) (hx : C.sc.names.lookup x = some .local) (hy : C.sc.names.lookup y = some .local)
    (h : WE C a ρ μ E fun u μ1 => WE C b ρ μ1 E fun v μ2 => D.nx ((ρ.set i (some u)).set j (some v)) μ2)
    (hw : ∀ X, C.Has X → swappedStores [.Tuple [.Name x px, .Name y py] kt pt] (.Tuple [a, b] k2 pt2) X.env = pure (some [x, y]))
    (hs : ∀ env, swapsWithSole [.Tuple [.Name x px, .Name y py] kt pt] (.Tuple [a, b] k2 pt2) pos.line env = pure false := by intro _; rfl)
    (h1 : ∀ env, starEach [a, b] env = (false, eval a env) :: starEach [b] env := by intro _; rfl) (h2 : ∀ env, starEach [b] env = (false, eval b env) :: starEach [] env := by intro _; rfl) :
    WS1 C (.Assign [.Tuple [.Name x px, .Name y py] kt pt] (.Tuple [a, b] k2 pt2) pos) ρ μ E D := fun X σ H w A =>
  tS1_of (ps_par (i := i) (j := j) A.has.calm (by rw [A.has.N]; exact n.nd) (by rw [A.has.N]; exact n.at_) (by rw [A.has.N]; exact n2.at_) hij (by rw [A.has.sc]; exact hx) (by rw [A.has.sc]; exact hy) (pa_cons pe_tE (pa_cons pe_tE pa_nil (h2 _)) (h1 _)) (hw X A.has) (hs _))
    (h.go A fun v H1 z μ1 w1 r1 A1 S1 q1 => q1.go A1 fun v2 H2 z2 μ2 w2 r2 A2 S2 q2 => ⟨v, v2, rfl, _, μ2, w2, (A2.R.put (r1.stp S2) i).put r2 j, A2.M, S1.trans S2, q2⟩)
end
/-! ### targets -/
/-- names that take a value: one, or those of a tuple -/
inductive Tg where
  | nm (j : Nat) | tp (js : List Nat)
def setAll (ρ : Env) : List Nat → List D → Env
  | j :: js, d :: ds => setAll (ρ.set j (some (.d d))) js ds
  | _, _ => ρ
def Tg.put : Tg → XV → Env → Env → Prop
  | .nm j, x, ρ, ρ' => ρ' = ρ.set j (some x)
  | .tp js, x, ρ, ρ' => ∃ ds, x = .d (.tup ds) ∧ ds.length = js.length ∧ ρ' = setAll ρ js ds
inductive NmsOk (C : SC) : List Expr → List Nat → Prop where
  | nil : NmsOk C [] []
  | cons {j : Nat} {x : Str} {pos : Pos} {es : List Expr} {js : List Nat} : C.Nm j x → NmsOk C es js → NmsOk C (.Name x pos :: es) (j :: js)
inductive TgOk (C : SC) : Expr → Tg → Prop where
  | nm {j : Nat} {x : Str} {pos : Pos} : C.Nm j x → TgOk C (.Name x pos) (.nm j)
  | tp {es : List Expr} {js : List Nat} {k : Nat} {pos : Pos} : NmsOk C es js → TgOk C (.Tuple es k pos) (.tp js)
def gNms : List Nat → TGs
  | [] => gNil
  | j :: js => gCons (gName j) (gNms js)
def Tg.g (K : PySem.W.Frag) : Tg → TG
  | .nm j => gName j
  | .tp js => gTup K js.length (gNms js)
section
variable {C : SC} {X : Cx}
theorem NmsOk.pgs : ∀ {es : List Expr} {js : List Nat}, NmsOk C es js → C.Has X → PGs X es (gNms js) ∧ (assignEach es X.env).length = js.length ∧ (assignEach es X.env).findIdx? (·.1) = none
  | _, _, .nil, _ => ⟨pgs_nil, rfl, rfl⟩
  | _, _, .cons n r, hX => by
    obtain ⟨h1, h2, h3⟩ := NmsOk.pgs r hX
    refine ⟨pgs_cons (pg_name (by rw [hX.N]; exact n.nd) (by rw [hX.N]; exact n.at_) (by rw [hX.sc]; exact n.loc) (Nm.fn n hX)) h1 rfl, ?_, ?_⟩
    · show (_ :: assignEach _ X.env).length = _
      rw [List.length_cons, List.length_cons, h2]
    · show List.findIdx? (·.1) ((false, _) :: assignEach _ X.env) = none
      rw [List.findIdx?_cons, h3]
      rfl
theorem TgOk.pg {tg : Expr} {t : Tg} (h : TgOk C tg t) (hX : C.Has X) : PG X tg (t.g X.K) := by
  cases h with
  | nm n => exact pg_name (by rw [hX.N]; exact n.nd) (by rw [hX.N]; exact n.at_) (by rw [hX.sc]; exact n.loc) (Nm.fn n hX)
  | tp n =>
    obtain ⟨h1, h2, h3⟩ := n.pgs hX
    exact pg_tup hX.calm h1 h2 h3
theorem gNms_go {K : PySem.W.Frag} {μ : Mem} {H : Hp} {w : IA} : ∀ {js : List Nat} {ds : List D} {vs : List V} {ρ : Env} {σ : L2.St}, ds.length = js.length → Reps K (Live μ w) H ds vs → ROk K μ H w ρ σ →
    ∀ {P : L2.St → Hp → Prop}, (∀ σ', ROk K μ H w (setAll ρ js ds) σ' → P σ' H) → gNms js vs σ H P
  | [], [], vs, ρ, σ, _, r, R, P, k => ⟨r, k σ R⟩
  | [], _ :: _, _, _, _, hl, _, _, _, _ => by cases hl
  | _ :: _, [], _, _, _, hl, _, _, _, _ => by cases hl
  | j :: js, d :: ds, vs, ρ, σ, hl, r, R, P, k => by
    obtain ⟨v, vr, rfl, h1, h2⟩ := r
    refine ⟨v, vr, rfl, ?_⟩
    show gNms js vr (σ.set j (some v)) H P
    exact gNms_go (by simpa using hl) h2 (R.put (y := .d d) h1 j) k
theorem Tg.go {t : Tg} {K : PySem.W.Frag} {μ : Mem} {H : Hp} {w : IA} {x : XV} {v : V} {ρ ρ' : Env} {σ : L2.St} (hp : t.put x ρ ρ') (r : RepX K μ H w x v) (R : ROk K μ H w ρ σ) {P : L2.St → Hp → Prop} (k : ∀ σ', ROk K μ H w ρ' σ' → P σ' H) : t.g K v σ H P := by
  cases t with
  | nm j =>
    cases (show ρ' = _ from hp)
    exact k _ (R.put r j)
  | tp js =>
    obtain ⟨ds, rfl, hl, rfl⟩ := hp
    obtain ⟨a, xs, rfl, nl, e, rr⟩ := r
    exact ⟨a, xs, rfl, SqT.of e, by rw [rr.len]; exact hl, gNms_go hl rr R k⟩
end
section
variable {C : SC} {E : EPost} {ρ : Env} {μ : Mem} {D : DEnds} {e tg : Expr} {pos : Pos}
/-- target = e, any value -/
theorem w1_asg {t : Tg} (ht : TgOk C tg t) (h : WE C e ρ μ E fun y μ' => ∃ ρ', t.put y ρ ρ' ∧ D.nx ρ' μ') (hs : ∀ env, swapsWithSole [tg] e pos.line env = pure false := by intro _; rfl) (hw : ∀ env, swappedStores [tg] e env = pure none := by intro _; rfl)
    (h1 : ∀ env, (assignEach [tg] env).map (·.2) = [assign tg env] := by intro _; rfl) : WS1 C (.Assign [tg] e pos) ρ μ E D := fun X σ H w A =>
  tS1_of (ps_asg pe_tE (ht.pg A.has) (hs _) (hw _) (h1 _)) (h.go A fun v H1 z μ1 w1 r1 A1 S1 ⟨ρ', hp, q⟩ => by
    rw [A.has.K]
    exact Tg.go hp r1 A1.R fun σ' R' => ⟨ρ', μ1, w1, R', A1.M, S1, q⟩)
end
/-! ### walks -/
/-- what walked things keep, though others' objects come -/
structure Kp (μ : Mem) (H : Hp) (w : IA) (μ' : Mem) (H' : Hp) (w' : IA) : Prop where
  keep : ∀ a o, H a = some o → ¬ Live μ w a → H' a = some o ∧ ¬ Live μ' w' a
  num : ∀ (n : Nat) a, w.ι[n]? = some a → w'.ι[n]? = some a
theorem Stp.kp {μ μ' : Mem} {H H' : Hp} {w w' : IA} (S : Stp μ H w μ' H' w') : Kp μ H w μ' H' w' := ⟨S.keep, S.num⟩
theorem Kp.trans {μ μ' μ2 : Mem} {H H' H2 : Hp} {w w' w2 : IA} (a : Kp μ H w μ' H' w') (b : Kp μ' H' w' μ2 H2 w2) : Kp μ H w μ2 H2 w2 :=
  ⟨fun c o h n => b.keep c o (a.keep c o h n).1 (a.keep c o h n).2, fun n c h => b.num n c (a.num n c h)⟩
/-- the walk J gives these items, while the cells are as G says -/
def DIt (K : PySem.W.Frag) (J : It) (items : List XV) (G : Mem → Prop) (μ1 : Mem) (H1 : Hp) (w1 : IA) : Prop :=
  ∀ μ' H' w', Kp μ1 H1 w1 μ' H' w' → MOk K μ' H' w' → G μ' →
    (∀ (i : Nat) x, items[i]? = some x → J.go i H' ∧ ∀ v H'', J.yld i H' v H'' → (∀ a o, H' a = some o → H'' a = some o) ∧ RepX K μ' H'' w' x v) ∧ J.stop items.length H'
def WI (C : SC) (tg iter : Expr) (ρ : Env) (μ : Mem) (E : EPost) (R : List XV → (Mem → Prop) → Mem → Prop) : Prop :=
  ∀ X σ H w, At C X E ρ μ σ H w → ∃ wi, PI X tg iter wi ∧ ∀ P : It → Hp → Prop, (∀ J H1 items G μ1 w1, At C X E ρ μ1 σ H1 w1 → Stp μ H w μ1 H1 w1 → DIt C.K J items G μ1 H1 w1 → G μ1 → R items G μ1 → P J H1) → wi σ H P
section
variable {C : SC} {E : EPost} {ρ : Env} {μ : Mem} {tg e : Expr} {p pos : Pos} {R : List XV → (Mem → Prop) → Mem → Prop}
theorem dit_lst {K : PySem.W.Frag} {a : Addr} {xs : List V} {ds : List D} {H : Hp} {w : IA} (nl : ¬ Live μ w a) (e : H a = some (.lst xs)) (r : Reps K (Live μ w) H ds xs) : DIt K (Itl K a) (ds.map XV.d) (fun _ => True) μ H w := by
  intro μ' H' w' kp M _
  have e' := (kp.keep a _ e nl).1
  have r' : Reps K (Live μ' w') H' ds xs := Reps.mono kp.keep _ _ r
  refine ⟨fun i x hx => ?_, ⟨xs, SqL.of e', by rw [List.length_map, r.len]; exact Nat.le_refl _⟩⟩
  rw [List.getElem?_map] at hx
  cases hd : ds[i]? with
  | none => rw [hd] at hx; cases hx
  | some d =>
    rw [hd] at hx
    cases hx
    obtain ⟨v, hv, rv⟩ := Reps.get r' hd
    refine ⟨⟨xs, v, SqL.of e', hv⟩, fun u H'' y => ?_⟩
    obtain ⟨rfl, y⟩ := y
    have := y xs (SqL.of e')
    rw [hv] at this
    cases this
    exact ⟨fun _ _ h => h, rv⟩
theorem dit_tup {K : PySem.W.Frag} {a : Addr} {xs : List V} {ds : List D} {H : Hp} {w : IA} (nl : ¬ Live μ w a) (e : H a = some (.tup xs)) (r : Reps K (Live μ w) H ds xs) : DIt K (Itt K a) (ds.map XV.d) (fun _ => True) μ H w := by
  intro μ' H' w' kp M _
  have e' := (kp.keep a _ e nl).1
  have r' : Reps K (Live μ' w') H' ds xs := Reps.mono kp.keep _ _ r
  refine ⟨fun i x hx => ?_, ⟨xs, SqT.of e', by rw [List.length_map, r.len]; exact Nat.le_refl _⟩⟩
  rw [List.getElem?_map] at hx
  cases hd : ds[i]? with
  | none => rw [hd] at hx; cases hx
  | some d =>
    rw [hd] at hx
    cases hx
    obtain ⟨v, hv, rv⟩ := Reps.get r' hd
    refine ⟨⟨xs, v, SqT.of e', hv⟩, fun u H'' y => ?_⟩
    obtain ⟨rfl, y⟩ := y
    have := y xs (SqT.of e')
    rw [hv] at this
    cases this
    exact ⟨fun _ _ h => h, rv⟩
theorem dit_cell {K : PySem.W.Frag} {a : Addr} {n : Nat} {xs : List XV} {H : Hp} {w : IA} (ha : w.ι[n]? = some a) : DIt K (Itl K a) xs (fun μ' => μ'[n]? = some (some (.lst xs))) μ H w := by
  intro μ' H' w' kp M hm
  have ha' := kp.num n a ha
  obtain ⟨vs, e, r⟩ := M.holds n _ a hm ha'
  refine ⟨fun i x hx => ?_, ⟨vs, SqL.of e, by rw [← r.length]; exact Nat.le_refl _⟩⟩
  obtain ⟨v, hv, rv⟩ := paired_get r hx
  refine ⟨⟨vs, v, SqL.of e, hv⟩, fun u H'' y => ?_⟩
  obtain ⟨rfl, y⟩ := y
  have := y vs (SqL.of e)
  rw [hv] at this
  cases this
  exact ⟨fun _ _ h => h, rv⟩
theorem dit_scr {K : PySem.W.Frag} {a : Addr} {ns : List Int} {H : Hp} {w : IA} (h : Rep K (Live μ w) H (.scr ns) (.ref a)) : DIt K (Itl K a) (ns.map fun i => XV.d (.int i)) (fun _ => True) μ H w := by
  intro μ' H' w' kp M _
  have h' : Rep K (Live μ' w') H' (.scr ns) (.ref a) := Rep.mono kp.keep _ _ h
  obtain ⟨a', ea, hs⟩ := scr_sql h'
  cases ea
  refine ⟨fun i x hx => ?_, ⟨_, hs, by rw [List.length_map, List.length_map]; exact Nat.le_refl _⟩⟩
  rw [List.getElem?_map] at hx
  cases hd : ns[i]? with
  | none => rw [hd] at hx; cases hx
  | some k =>
    rw [hd] at hx
    cases hx
    have hv : (ns.map V.int)[i]? = some (.int k) := by rw [List.getElem?_map, hd]; rfl
    refine ⟨⟨_, _, hs, hv⟩, fun u H'' y => ?_⟩
    obtain ⟨rfl, y⟩ := y
    have := y _ hs
    rw [hv] at this
    cases this
    exact ⟨fun _ _ h => h, rfl⟩
theorem wi_lst (h : WE C e ρ μ E fun x μ1 => ∃ ds, x = .d (.lst ds) ∧ R (ds.map XV.d) (fun _ => True) μ1) : WI C tg e ρ μ E R := fun X σ H w A =>
  ⟨_, pi_list pe_tE, fun P k => h.go A fun v H1 z μ1 w1 r1 A1 S1 ⟨ds, ez, q⟩ => by
    subst ez
    obtain ⟨a, xs, rfl, nl, e, r⟩ := r1
    exact ⟨a, rfl, ⟨xs, SqL.of e⟩, k _ _ _ _ _ _ A1 S1 (by rw [A.has.K]; exact dit_lst nl e r) trivial q⟩⟩
theorem wi_tup (h : WE C e ρ μ E fun x μ1 => ∃ ds, x = .d (.tup ds) ∧ R (ds.map XV.d) (fun _ => True) μ1) : WI C tg e ρ μ E R := fun X σ H w A =>
  ⟨_, pi_tup pe_tE, fun P k => h.go A fun v H1 z μ1 w1 r1 A1 S1 ⟨ds, ez, q⟩ => by
    subst ez
    obtain ⟨a, xs, rfl, nl, e, r⟩ := r1
    exact ⟨a, rfl, ⟨xs, SqT.of e⟩, k _ _ _ _ _ _ A1 S1 (by rw [A.has.K]; exact dit_tup nl e r) trivial q⟩⟩
theorem wi_cell (h : WE C e ρ μ E fun x μ1 => ∃ n xs, x = .l n ∧ μ1[n]? = some (some (.lst xs)) ∧ R xs (fun μ' => μ'[n]? = some (some (.lst xs))) μ1) : WI C tg e ρ μ E R := fun X σ H w A =>
  ⟨_, pi_list pe_tE, fun P k => h.go A fun v H1 z μ1 w1 r1 A1 S1 ⟨n, xs, ez, hm, q⟩ => by
    subst ez
    obtain ⟨a, ha, rfl⟩ := r1
    obtain ⟨vs, e, r⟩ := A1.M.holds n _ a hm ha
    exact ⟨a, rfl, ⟨vs, SqL.of e⟩, k _ _ _ _ _ _ A1 S1 (by rw [A.has.K]; exact dit_cell ha) hm q⟩⟩
theorem wi_scr (h : WE C e ρ μ E fun x μ1 => ∃ ns, x = .d (.scr ns) ∧ R (ns.map fun i => XV.d (.int i)) (fun _ => True) μ1) : WI C tg e ρ μ E R := fun X σ H w A =>
  ⟨_, pi_list pe_tE, fun P k => h.go A fun v H1 z μ1 w1 r1 A1 S1 ⟨ns, ez, q⟩ => by
    subst ez
    obtain ⟨a, rfl, hs⟩ := scr_sql r1
    exact ⟨a, rfl, ⟨_, by rw [A.has.K]; exact hs⟩, k _ _ _ _ _ _ A1 S1 (by rw [A.has.K]; exact dit_scr r1) trivial q⟩⟩
theorem wi_txt (h : WE C e ρ μ E fun x μ1 => ∃ l, x = .d (.txt l) ∧ R (l.map fun c => XV.d (.txt [c])) (fun _ => True) μ1) : WI C tg e ρ μ E R := fun X σ H w A =>
  ⟨_, pi_str pe_tE, fun P k => h.go A fun v H1 z μ1 w1 r1 A1 S1 ⟨l, ez, q⟩ => by
    subst ez
    refine ⟨SX.S l, r1, k _ _ _ _ _ _ A1 S1 (fun μ' H' w' kp M _ => ⟨fun i x hx => ?_, ?_⟩) trivial q⟩
    · rw [List.getElem?_map] at hx
      cases hd : l[i]? with
      | none => rw [hd] at hx; cases hx
      | some c =>
        rw [hd] at hx
        cases hx
        have hi : i < l.length := (List.getElem?_eq_some_iff.mp hd).1
        refine ⟨by show i < l.toArray.size; simpa using hi, fun u H'' y => ?_⟩
        obtain ⟨rfl, c', hc, rfl⟩ := y
        have : l.toArray[i]? = some c' := hc
        rw [List.getElem?_toArray, hd] at this
        cases this
        exact ⟨fun _ _ h => h, rfl⟩
    · show l.toArray.size ≤ (l.map _).length
      simp⟩
/-- range(j), range(i, j) -/
def rng (lo : Int) (n : Nat) : List XV := (List.range n).map fun i => XV.d (.int (lo + (i : Nat)))
theorem dit_rng {K : PySem.W.Frag} {lo : Int} {n : Nat} {H : Hp} {w : IA} : DIt K (Itr lo n) (rng lo n) (fun _ => True) μ H w := by
  intro μ' H' w' kp M _
  refine ⟨fun i x hx => ?_, by show n ≤ (rng lo n).length; unfold rng; simp⟩
  unfold rng at hx
  rw [List.getElem?_map] at hx
  by_cases hi : i < n
  · rw [List.getElem?_range hi] at hx
    cases hx
    refine ⟨hi, fun u H'' y => ?_⟩
    obtain ⟨rfl, rfl⟩ := y
    exact ⟨fun _ _ h => h, rfl⟩
  · rw [List.getElem?_eq_none (by rw [List.length_range]; omega)] at hx
    cases hx
theorem wi_range1 {a : Expr} (hg : C.Glob "range") (hm : C.mg "range" = none) (h : WE C a ρ μ E fun x μ1 => ∃ j : Int, x = .d (.int j) ∧ -(2 ^ 62) ≤ j ∧ j < 2 ^ 62 ∧ R (rng 0 j.toNat) (fun _ => True) μ1)
    (hs : ∀ env, starEach [a] env = [(false, eval a env)] := by intro _; rfl) : WI C tg (.Call (.Name "range" p) [a] [] pos) ρ μ E R := fun X σ H w A =>
  ⟨_, pi_range1 (by show X.env.scope.names.lookup _ = _; rw [A.has.sc]; exact hg) (by rw [A.has.mg]; exact hm) (pa_cons pe_tE pa_nil (hs _)) (hs _), fun P k => h.go A fun v H1 z μ1 w1 r1 A1 S1 ⟨j, ez, h1, h2, q⟩ => by
    subst ez
    exact ⟨j, by rw [show v = V.int j from r1], h1, h2, k _ _ _ _ _ _ A1 S1 dit_rng trivial q⟩⟩
theorem wi_range2 {a b : Expr} (hg : C.Glob "range") (hm : C.mg "range" = none) (h : WE C a ρ μ E fun x μ1 => WE C b ρ μ1 E fun y μ2 => ∃ i j : Int, x = .d (.int i) ∧ y = .d (.int j) ∧ (-(2 ^ 62) ≤ i ∧ i < 2 ^ 62 ∧ -(2 ^ 62) ≤ j ∧ j < 2 ^ 62) ∧ R (rng i (j - i).toNat) (fun _ => True) μ2)
    (hs : ∀ env, starEach [a, b] env = [(false, eval a env), (false, eval b env)] := by intro _; rfl) (hs2 : ∀ env, starEach [b] env = [(false, eval b env)] := by intro _; rfl) : WI C tg (.Call (.Name "range" p) [a, b] [] pos) ρ μ E R := fun X σ H w A =>
  ⟨_, pi_range2 (by show X.env.scope.names.lookup _ = _; rw [A.has.sc]; exact hg) (by rw [A.has.mg]; exact hm) (pa_cons pe_tE (pa_cons pe_tE pa_nil (hs2 _)) ((hs _).trans (by rw [hs2]))) (hs _) (hs2 _), fun P k =>
    h.go A fun v H1 z μ1 w1 r1 A1 S1 h1 => h1.go A1 fun v2 H2 z2 μ2 w2 r2 A2 S2 ⟨i, j, e1, e2, hb, q⟩ => by
      subst e1 e2
      exact ⟨i, j, by rw [show v = V.int i from r1, show v2 = V.int j from r2], hb, k _ _ _ _ _ _ A2 (S1.trans S2) dit_rng trivial q⟩⟩
end
end DL
set_option maxRecDepth 100000
set_option maxHeartbeats 2000000
namespace DL
open PySem L2 PySem.Spec
/-! ### loops -/
/-- fewer names known, the same cells; or the last cells let go -/
structure Sub (n0 : Nat) (ρ : Env) (μ : Mem) (ρ2 : Env) (μ2 : Mem) : Prop where
  len : ρ.length = ρ2.length
  env : ∀ (i : Nat) (x : XV), ρ[i]? = some (some x) → ρ2[i]? = some (some x)
  mem : μ = μ2 ∨ (n0 ≤ μ.length ∧ (∃ r, μ2 = μ ++ r) ∧ (∀ m, some m ∈ μ → m.below μ.length) ∧ ∀ (i : Nat) (x : XV), ρ[i]? = some (some x) → x.below μ.length)
theorem Sub.refl {n0 : Nat} {ρ : Env} {μ : Mem} : Sub n0 ρ μ ρ μ := ⟨rfl, fun _ _ h => h, .inl rfl⟩
def Wk (n0 : Nat) (P : Env → Mem → Prop) : Env → Mem → Prop := fun ρ2 μ2 => ∃ ρ μ, Sub n0 ρ μ ρ2 μ2 ∧ P ρ μ
theorem Wk.of {n0 : Nat} {P : Env → Mem → Prop} {ρ : Env} {μ : Mem} (h : P ρ μ) : Wk n0 P ρ μ := ⟨ρ, μ, Sub.refl, h⟩
section
variable {C : SC} {E : EPost} {ρ : Env} {μ : Mem} {Q : XV → Mem → Prop} {D : DEnds} {tg iter c : Expr} {body : List Stmt} {pos : Pos} {X : Cx} {σ : L2.St} {H : Hp} {w : IA}
theorem Stp.cut {μ0 μ2 : Mem} {H0 H2 : Hp} {w0 w2 : IA} {K : PySem.W.Frag} (S : Stp μ0 H0 w0 μ2 H2 w2) (M0 : MOk K μ0 H0 w0) {n : Nat} (hn : μ0.length ≤ n) : Stp μ0 H0 w0 (μ2.take n) H2 (w2.cut n) := by
  refine ⟨fun a o h nl => ⟨(S.keep a o h nl).1, fun q => (S.keep a o h nl).2 (live_cut q)⟩, fun k a h => ?_, S.sF, S.frm⟩
  have hk : k < n := by
    have := (List.getElem?_eq_some_iff.mp h).1
    rw [M0.len] at this
    omega
  show (w2.ι.take n)[k]? = some a
  rw [List.getElem?_take_of_lt hk]
  exact S.num k a h
/-- the weaker state is reached -/
theorem Sub.reach {ρ2 : Env} {μ2 : Mem} {μ0 : Mem} {H0 H2 : Hp} {w0 w2 : IA} {σ2 : L2.St} {K : PySem.W.Frag} (h : Sub μ0.length ρ μ ρ2 μ2) (M0 : MOk K μ0 H0 w0) (R : ROk K μ2 H2 w2 ρ2 σ2) (M : MOk K μ2 H2 w2) (S : Stp μ0 H0 w0 μ2 H2 w2) :
    ∃ w', ROk K μ H2 w' ρ σ2 ∧ MOk K μ H2 w' ∧ Stp μ0 H0 w0 μ H2 w' := by
  have Rw : ROk K μ2 H2 w2 ρ σ2 := ⟨h.len.trans R.len, fun i x e => R.rep i x (h.env i x e)⟩
  rcases h.mem with rfl | ⟨hn, ⟨r, rfl⟩, hb, hx⟩
  · exact ⟨w2, Rw, M, S⟩
  · have et : (μ ++ r).take μ.length = μ := List.take_left
    refine ⟨w2.cut μ.length, ⟨Rw.len, fun i x e => ?_⟩, ?_, ?_⟩
    · obtain ⟨v, e1, q⟩ := Rw.rep i x e
      refine ⟨v, e1, ?_⟩
      have := RepX.cut (n := μ.length) (hx i x e) q
      rw [et] at this
      exact this
    · have := M.cut μ.length (by rw [et]; exact hb)
      rw [et] at this
      exact this
    · have := S.cut M0 hn
      rw [et] at this
      exact this
theorem liftN.wk {K : PySem.W.Frag} {P : Env → Mem → Prop} {σ2 : L2.St} {H2 : Hp} {μ0 : Mem} {H0 : Hp} {w0 : IA} (M0 : MOk K μ0 H0 w0) (h : liftN K (Wk μ0.length P) μ0 H0 w0 σ2 H2) : liftN K P μ0 H0 w0 σ2 H2 := by
  obtain ⟨ρ2, μ2, w2, R, M, S, ρ, μ, hs, q⟩ := h
  obtain ⟨w', R', M', S'⟩ := hs.reach M0 R M S
  exact ⟨ρ, μ, w', R', M', S', q⟩
/-- for target in iter: body; P by the turn -/
theorem w1_for {t : Tg} (ht : TgOk C tg t) (h : WI C tg iter ρ μ E fun items G μ1 => ∃ P : Nat → Env → Mem → Prop, P 0 ρ μ1 ∧ (∀ i ρ' μ', i ≤ items.length → P i ρ' μ' → G μ') ∧
      (∀ (i : Nat) x ρ' μ', items[i]? = some x → P i ρ' μ' → ∃ ρ2, t.put x ρ' ρ2 ∧ WS C body ρ2 μ' E { D with nx := Wk μ'.length (P (i + 1)), ct := Wk μ'.length (P (i + 1)), bk := D.nx }) ∧
      (∀ ρ' μ', P items.length ρ' μ' → D.nx ρ' μ'))
    (hs : ∀ env x, foldedSetIterable iter env x = pure x := by intro _ _; rfl) : WS1 C (.For tg iter body [] pos) ρ μ E D := fun X σ H w A => by
  obtain ⟨wi, hi, hw⟩ := h X σ H w A
  refine tS1_of (ps_for A.has.po A.has.calm hi (ht.pg A.has) ps_tS (hs _)) (hw _ fun J H1 items G μ1 w1 A1 S1 dit g0 ⟨P, p0, pG, pS, pD⟩ => ?_)
  refine ⟨fun i m σ' H' => m = items.length - i ∧ i ≤ items.length ∧ liftN C.K (P i) μ1 H1 w1 σ' H', ⟨items.length, by simp, Nat.zero_le _, ρ, μ1, w1, A1.R, A1.M, Stp.refl, p0⟩, ?_⟩
  rintro i m σ' H' ⟨rfl, hil, ρ', μ', w', R', M', S', p'⟩
  obtain ⟨dgo, dstop⟩ := dit μ' H' w' S'.kp M' (pG i ρ' μ' hil p')
  by_cases hlt : i < items.length
  · obtain ⟨x, hx⟩ : ∃ x, items[i]? = some x := ⟨items[i], List.getElem?_eq_getElem hlt⟩
    obtain ⟨go, yl⟩ := dgo i x hx
    refine .inr ⟨go, liftN C.K (P (i + 1)) μ1 H1 w1, fun σ2 H2 q => ⟨items.length - (i + 1), by omega, rfl, hlt, q⟩, fun v H2 y => ?_⟩
    obtain ⟨gr, rx⟩ := yl v H2 y
    have M2 : MOk C.K μ' H2 w' := M'.grow gr
    have S2 : Stp μ' H' w' μ' H2 w' := Stp.grow gr
    obtain ⟨ρ2, hput, hb⟩ := pS i x ρ' μ' hx p'
    rw [A.has.K]
    refine Tg.go hput rx (R'.stp S2) fun σ3 R3 => ?_
    have A3 : At C X E ρ2 μ' σ3 H2 w' := ⟨A.has, M2, R3, A1.T.imp fun _ _ _ _ h => liftE.from (S'.trans S2) h⟩
    exact tS_mono (hb X σ3 H2 w' A3) (fun _ _ q => liftN.from (S'.trans S2) (liftN.wk M2 q)) (fun _ _ q => lift.from ((S1.trans S').trans S2) q) (fun _ _ q => liftN.from ((S1.trans S').trans S2) q) (fun _ _ q => liftN.from (S'.trans S2) (liftN.wk M2 q))
  · have e : i = items.length := by omega
    subst e
    exact .inl ⟨dstop, ρ', μ', w', R', M', S1.trans S', pD ρ' μ' p'⟩
/-- while c: body; W by a measure -/
theorem w1_while (W : Nat → Env → Mem → Prop) (m0 : Nat) (h0 : W m0 ρ μ)
    (hs : ∀ m ρ' μ', W m ρ' μ' → WT C c ρ' μ' E fun k μ2 => (k = true → WS C body ρ' μ2 E { D with nx := Wk μ2.length (fun ρ3 μ3 => ∃ m', m' < m ∧ W m' ρ3 μ3), ct := Wk μ2.length (fun ρ3 μ3 => ∃ m', m' < m ∧ W m' ρ3 μ3), bk := D.nx }) ∧ (k = false → D.nx ρ' μ2)) : WS1 C (.While c body [] pos) ρ μ E D := fun X σ H w A => by
  refine tS1_of (ps_while A.has.po pt_tT ps_tS) ⟨fun m => liftN C.K (W m) μ H w, ⟨m0, ρ, μ, w, A.R, A.M, Stp.refl, h0⟩, ?_⟩
  rintro m σ1 H1 ⟨ρ1, μ1, w1, R1, M1, S1, p1⟩
  have A1 : At C X E ρ1 μ1 σ1 H1 w1 := ⟨A.has, M1, R1, A.T.imp fun _ _ _ _ h => liftE.from S1 h⟩
  refine (hs m ρ1 μ1 p1).go A1 fun k H2 μ2 w2 A2 S2 q => ?_
  cases k with
  | true =>
    refine iteT ⟨liftN C.K (fun ρ3 μ3 => ∃ m', m' < m ∧ W m' ρ3 μ3) μ H w, ?_, ?_⟩
    · rintro σ3 H3 ⟨ρ3, μ3, w3, R3, M3, S3, m', hm, p3⟩
      exact ⟨m', hm, ρ3, μ3, w3, R3, M3, S3, p3⟩
    · exact tS_mono (q.1 rfl X σ1 H2 w2 A2) (fun _ _ q => liftN.from (S1.trans S2) (liftN.wk A2.M q)) (fun _ _ q => lift.from (S1.trans S2) q) (fun _ _ q => liftN.from (S1.trans S2) q) (fun _ _ q => liftN.from (S1.trans S2) (liftN.wk A2.M q))
  | false => exact iteF ⟨ρ1, μ2, w2, A2.R, A2.M, S1.trans S2, q.2 rfl⟩
/-! ### list comprehensions -/
theorem RepX.kp {K : PySem.W.Frag} {μ' : Mem} {H' : Hp} {w' : IA} (S : Kp μ H w μ' H' w') {x : XV} {v : V} (h : RepX K μ H w x v) : RepX K μ' H' w' x v := by
  cases x with
  | d x => exact Rep.mono S.keep x v h
  | l n =>
    obtain ⟨a, e, r⟩ := h
    exact ⟨a, S.num n a e, r⟩
theorem ROk.kp {K : PySem.W.Frag} {μ' : Mem} {H' : Hp} {w' : IA} (S : Kp μ H w μ' H' w') (h : ROk K μ H w ρ σ) : ROk K μ' H' w' ρ σ := ⟨h.len, fun i x e => by
  obtain ⟨v, e1, r⟩ := h.rep i x e
  exact ⟨v, e1, r.kp S⟩⟩
def wipeE (ρ : Env) : List Nat → Env
  | [] => ρ
  | v :: vs => (wipeE ρ vs).set v none
theorem wipeE_length (ρ : Env) : ∀ vs : List Nat, (wipeE ρ vs).length = ρ.length
  | [] => rfl
  | v :: vs => by unfold wipeE; rw [List.length_set, wipeE_length ρ vs]
theorem wipeE_some {ρ : Env} {i : Nat} {x : XV} : ∀ {vs : List Nat}, (wipeE ρ vs)[i]? = some (some x) → ρ[i]? = some (some x) ∧ i ∉ vs
  | [], h => ⟨h, by simp⟩
  | v :: vs, h => by
    unfold wipeE at h
    by_cases hi : v = i
    · subst hi
      by_cases hv : v < (wipeE ρ vs).length
      · rw [List.getElem?_set_self hv] at h; cases h
      · rw [List.getElem?_eq_none (by simpa using hv)] at h; cases h
    · rw [List.getElem?_set_ne hi] at h
      obtain ⟨h1, h2⟩ := wipeE_some h
      exact ⟨h1, by simp only [List.mem_cons, not_or]; exact ⟨fun e => hi e.symm, h2⟩⟩
theorem wipe_at {σ : L2.St} {i : Nat} : ∀ {vs : List Nat}, i ∉ vs → (wipe σ vs)[i]? = σ[i]?
  | [], _ => rfl
  | v :: vs, h => by
    unfold wipe
    simp only [List.mem_cons, not_or] at h
    rw [List.getElem?_set_ne (Ne.symm h.1)]
    exact wipe_at h.2
theorem wipe_in {σ : L2.St} {i : Nat} : ∀ {vs : List Nat}, i ∈ vs → i < σ.length → (wipe σ vs)[i]? = some none
  | [], h, _ => by cases h
  | v :: vs, h, hl => by
    unfold wipe
    by_cases e : v = i
    · subst e
      rw [List.getElem?_set_self (by rw [wipe_length]; exact hl)]
    · rw [List.getElem?_set_ne e]
      exact wipe_in (by rcases List.mem_cons.mp h with q | q; exact absurd q.symm e; exact q) hl
/-- two states that agree but at vs -/
theorem wipe_eq {σ σ' : L2.St} {vs : List Nat} (hl : σ.length = σ'.length) (h : ∀ i, i ∉ vs → σ[i]? = σ'[i]?) : wipe σ vs = wipe σ' vs := by
  apply List.ext_getElem?
  intro i
  by_cases hi : i ∈ vs
  · by_cases hn : i < σ.length
    · rw [wipe_in hi hn, wipe_in hi (by rw [← hl]; exact hn)]
    · rw [List.getElem?_eq_none (by rw [wipe_length]; omega), List.getElem?_eq_none (by rw [wipe_length]; omega)]
  · rw [wipe_at hi, wipe_at hi]
    exact h i hi
theorem ROk.wipe {K : PySem.W.Frag} (R : ROk K μ H w ρ σ) (vs : List Nat) : ROk K μ H w (wipeE ρ vs) (L2.wipe σ vs) := by
  refine ⟨by rw [wipeE_length, wipe_length]; exact R.len, fun i x e => ?_⟩
  obtain ⟨h1, h2⟩ := wipeE_some e
  obtain ⟨v, e1, r⟩ := R.rep i x h1
  exact ⟨v, by rw [wipe_at h2]; exact e1, r⟩
def Tg.slots : Tg → List Nat
  | .nm j => [j]
  | .tp js => js
theorem gNms_go2 {K : PySem.W.Frag} : ∀ {js : List Nat} {ds : List DL.D} {vs : List V} {ρ : Env} {σ : L2.St}, ds.length = js.length → Reps K (Live μ w) H ds vs → ROk K μ H w ρ σ →
    ∀ {P : L2.St → Hp → Prop}, (∀ σ', ROk K μ H w (setAll ρ js ds) σ' → σ'.length = σ.length → (∀ i, i ∉ js → σ'[i]? = σ[i]?) → P σ' H) → gNms js vs σ H P
  | [], [], vs, ρ, σ, _, r, R, P, k => ⟨r, k σ R rfl fun _ _ => rfl⟩
  | [], _ :: _, _, _, _, hl, _, _, _, _ => by cases hl
  | _ :: _, [], _, _, _, hl, _, _, _, _ => by cases hl
  | j :: js, d :: ds, vs, ρ, σ, hl, r, R, P, k => by
    obtain ⟨v, vr, rfl, h1, h2⟩ := r
    refine ⟨v, vr, rfl, ?_⟩
    show gNms js vr (σ.set j (some v)) H P
    refine gNms_go2 (by simpa using hl) h2 (R.put (y := .d d) h1 j) fun σ' R' l e => k σ' R' (by rw [l, List.length_set]) fun i hi => ?_
    simp only [List.mem_cons, not_or] at hi
    rw [e i hi.2, List.getElem?_set_ne (Ne.symm hi.1)]
theorem Tg.go2 {t : Tg} {K : PySem.W.Frag} {x : XV} {v : V} {ρ' : Env} (hp : t.put x ρ ρ') (r : RepX K μ H w x v) (R : ROk K μ H w ρ σ) {P : L2.St → Hp → Prop} (k : ∀ σ', ROk K μ H w ρ' σ' → σ'.length = σ.length → (∀ i, i ∉ t.slots → σ'[i]? = σ[i]?) → P σ' H) : t.g K v σ H P := by
  cases t with
  | nm j =>
    cases (show ρ' = _ from hp)
    refine k _ (R.put r j) (List.length_set ..) fun i hi => ?_
    have hi' : i ≠ j := by simpa [Tg.slots] using hi
    exact List.getElem?_set_ne (Ne.symm hi')
  | tp js =>
    obtain ⟨ds, rfl, hl, rfl⟩ := hp
    obtain ⟨a, xs, rfl, nl, e, rr⟩ := r
    exact ⟨a, xs, rfl, SqT.of e, by rw [rr.len]; exact hl, gNms_go2 hl rr R k⟩
/-- the clause's tests -/
def WIf (C : SC) (ifs : List Expr) (ρ : Env) (μ : Mem) (Q : Bool → Mem → Prop) : Prop :=
  match ifs with
  | [] => Q true μ
  | [c] => WT C c ρ μ noE Q
  | _ => False
def tIfs (X : Cx) : List Expr → TT
  | [] => tYes
  | [c] => tT X c
  | _ => fun _ _ _ => False
theorem pts_tIfs : ∀ {ifs : List Expr}, PTs X ifs (tIfs X ifs)
  | [] => pts_nil
  | [_] => pts_one pt_tT
  | _ :: _ :: _ => ⟨fun _ _ _ _ _ _ h => h.elim⟩
theorem takes_no {K : PySem.W.Frag} {X : Cx} : Takes X (liftE K noE μ H w) := fun u s' x => by
  obtain ⟨_, _, _, _, _, _, _, _, _, _, _, _, _, _, _, _, z⟩ := x
  obtain ⟨_, _, _, _, _, _, _, _, _, _, z⟩ := z
  exact z.elim
theorem blk_has (h : C.Has X) {scope : Scope} {s : Shared} {H0 : Hp} {A0 : Addr} {cl : List (Str × Addr)} {fp : List Addr} : (C.blk scope).Has (X.blk s H0 scope (compEnvC scope cl A0 X.env) fp) := by
  refine ⟨h.P, h.wd, h.K, h.mg, h.base, h.N, ?_, fun x hx => ?_, h.room, h.calm, PassesOwn.never, h.gd⟩
  · show relS scope X.env.scope = relS scope C.sc
    rw [h.sc]
  · have hx' : (scope.names.lookup x == some .local || scope.names.lookup x == some .cell) = true := hx
    rw [Bool.or_eq_true] at hx'
    rcases hx' with q | q
    · refine .inr ?_
      show (relS scope X.env.scope).names.lookup x = some .local
      exact lookup_relS_keep (by decide) (eq_of_beq q)
    · exact .inl q
/-- what a turn of a comprehension asks -/
def LcT (C : SC) (scope : Scope) (t : Tg) (ifs : List Expr) (elt : Expr) (x : XV) (ρ : Env) (μ : Mem) (Py : DL.D → Mem → Prop) (Pn : Mem → Prop) : Prop :=
  ∃ ρ', t.put x ρ ρ' ∧ WIf (C.blk scope) ifs ρ' μ fun k μ2 => (k = true → WE (C.blk scope) elt ρ' μ2 noE fun y μ3 => ∃ d, y = .d d ∧ Py d μ3) ∧ (k = false → Pn μ2)
/-- the reading of a comprehension -/
theorem lc_read {elt : Expr} {ifs : List Expr} {scope : Scope} {own : List (Str × Nat)} {t : Tg} {wi : TI} {Qv : VK} (A : At C X E ρ μ σ H w) (hsl : ∀ j ∈ t.slots, j ∈ own.map (·.2))
    (hw : ∀ P : It → Hp → Prop, (∀ J H1 items G μ1 w1, At C X E ρ μ1 σ H1 w1 → Stp μ H w μ1 H1 w1 → DIt C.K J items G μ1 H1 w1 → G μ1 → (items.length ≤ sizeLine ∧ ∃ P : Nat → List DL.D → Mem → Prop, P 0 [] μ1 ∧ (∀ i acc μ', i ≤ items.length → P i acc μ' → G μ') ∧
      (∀ (i : Nat) x acc μ', items[i]? = some x → P i acc μ' → LcT C scope t ifs elt x (wipeE ρ (own.map (·.2))) μ' (fun d μ3 => P (i + 1) (acc ++ [d]) μ3) (P (i + 1) acc)) ∧
      (∀ acc μ', P items.length acc μ' → Q (.d (.lst acc)) μ')) → P J H1) → wi σ H P) (hq : ∀ v H', lift C.K Q μ H w v H' → Qv v H') :
    tLc wi (t.g X.K) (fun σ' H' R => ∀ s0 H0 A0 cl fp, tIfs (X.blk s0 H0 scope (compEnvC scope cl A0 X.env) fp) ifs σ' H' R) (fun σ' H' R => ∀ s0 H0 A0 cl fp, tE (X.blk s0 H0 scope (compEnvC scope cl A0 X.env) fp) elt σ' H' R) (own.map (·.2)) σ H Qv := by
  refine hw _ fun J H1 items G μ1 w1 A1 S1 dit g0 ⟨hz, P, p0, pG, pS, pD⟩ Dl hDl => ?_
  generalize hvs : own.map (·.2) = vs at *
  -- the invariant: the new list is others'
  let Pv : Nat → Hp → Prop := fun i H' => ∃ acc xs μ' w', MOk C.K μ' H' w' ∧ Kp μ1 H1 w1 μ' H' w' ∧ (∀ a, w'.F a ↔ (w1.F a ∨ a = Dl)) ∧ (∀ a o, w1.F a → H1 a = some o → H' a = some o) ∧ H' Dl = some (.lst xs) ∧ Reps C.K (Live μ' w') H' acc xs ∧ acc.length ≤ i ∧ P i acc μ'
  have nDl : ∀ {a : Addr}, Live μ1 w1 a → a ≠ Dl := fun l e => A1.M.no_live hDl (e ▸ l)
  refine ⟨fun i m H' => m = items.length - i ∧ i ≤ items.length ∧ Pv i H', ⟨items.length, by simp, Nat.zero_le _, [], [], μ1, w1.hide Dl, ?_, ?_, fun a => Iff.rfl, fun a o f h => upd_grow hDl a o h, upd_same, rfl, Nat.le_refl _, p0⟩, ?_⟩
  · have M' := A1.M.grow (upd_grow (o := .lst []) hDl)
    refine ⟨M'.len, M'.inj, fun n m a e1 e2 => ?_, fun n m a e1 e2 f => ?_, fun a f => ?_⟩
    · have h := A1.M.holds n m a e1 e2
      have S' : Kp μ1 H1 w1 μ1 (upd H1 Dl (.lst [])) (w1.hide Dl) := ⟨fun b o hb nl => ⟨upd_grow hDl b o hb, fun q => (live_hide.mp q).elim nl fun e => ne_of_none hb hDl e⟩, fun _ _ h => h⟩
      cases m with
      | lst xs => obtain ⟨us, e, r⟩ := h; exact ⟨us, upd_grow hDl _ _ e, Paired.mapP r fun _ _ q => q.kp S'⟩
      | ins C' fs xs => obtain ⟨dx, gs, e, f, r⟩ := h; exact ⟨dx, gs, upd_grow hDl _ _ e, f, Paired.mapP r fun _ _ q => q.kp S'⟩
    · rcases f with f | f
      · exact A1.M.nF n m a e1 e2 f
      · exact nDl (.inr ⟨n, m, e1, e2⟩) f
    · rcases f with f | rfl
      · obtain ⟨o, ho⟩ := A1.M.fr a f
        exact ⟨o, upd_grow hDl a o ho⟩
      · exact ⟨_, upd_same⟩
  · exact ⟨fun b o hb nl => ⟨upd_grow hDl b o hb, fun q => (live_hide.mp q).elim nl fun e => ne_of_none hb hDl e⟩, fun _ _ h => h⟩
  · rintro i m H' ⟨rfl, hil, acc, xs, μ', w', M', kp, hF, hfrm, hD, racc, hacc, p'⟩
    obtain ⟨dgo, dstop⟩ := dit μ' H' w' kp M' (pG i acc μ' hil p')
    by_cases hlt : i < items.length
    · obtain ⟨x, hx⟩ : ∃ x, items[i]? = some x := ⟨items[i], List.getElem?_eq_getElem hlt⟩
      obtain ⟨go, yl⟩ := dgo i x hx
      refine .inr ⟨go, Pv (i + 1), fun H2 q => ⟨items.length - (i + 1), by omega, rfl, hlt, q⟩, fun v H2 y => ?_⟩
      obtain ⟨gr, rx⟩ := yl v H2 y
      have M2 : MOk C.K μ' H2 w' := M'.grow gr
      have S2 : Stp μ' H' w' μ' H2 w' := Stp.grow gr
      obtain ⟨ρ', hput, hif⟩ := pS i x acc μ' hx p'
      have kp2 : Kp μ1 H1 w1 μ' H2 w' := kp.trans S2.kp
      have Rw : ROk C.K μ' H2 w' (wipeE ρ vs) (wipe σ vs) := (A1.R.kp kp2).wipe vs
      rw [A.has.K]
      refine Tg.go2 hput rx Rw fun σ3 R3 l3 e3 => ?_
      have wEq : wipe σ3 vs = wipe σ vs := by
        refine (wipe_eq (σ' := wipe σ vs) l3 fun k hk => e3 k fun hm => hk (hsl k hm)).trans (wipe_eq (wipe_length _ _) fun k hk => wipe_at hk)
      refine ⟨wEq, fun s0 H0 A0 cl fp => ?_⟩
      have AB : ∀ {s0 H0 A0 cl fp}, At (C.blk scope) (X.blk s0 H0 scope (compEnvC scope cl A0 X.env) fp) noE ρ' μ' σ3 H2 w' := fun {s0 H0 A0 cl fp} => ⟨blk_has A.has, M2, R3, takes_no⟩
      -- what a turn leaves
      have fin : ∀ {k : Bool} {H3 : Hp} {μ3 : Mem} {w3 : IA}, MOk C.K μ3 H3 w3 → Stp μ' H2 w' μ3 H3 w3 → ((k = true → WE (C.blk scope) elt ρ' μ3 noE fun y μ3 => ∃ d, y = .d d ∧ P (i + 1) (acc ++ [d]) μ3) ∧ (k = false → P (i + 1) acc μ3)) →
          if k = true then (∀ s0 H0 A0 cl fp, tE (X.blk s0 H0 scope (compEnvC scope cl A0 X.env) fp) elt σ3 H3 fun y H4 => ∃ acc, H4 Dl = some (.lst acc) ∧ acc.length < sizeLine ∧ Pv (i + 1) (upd H4 Dl (.lst (acc ++ [y])))) else Pv (i + 1) H3 := by
        intro k H3 μ3 w3 M3 S3 q
        have fDl : w'.F Dl := (hF Dl).mpr (.inr rfl)
        have hD3 : H3 Dl = some (.lst xs) := S3.frm Dl _ fDl (gr _ _ hD)
        have hF3 : ∀ a, w3.F a ↔ (w1.F a ∨ a = Dl) := fun a => by rw [S3.sF]; exact hF a
        have S23 : Stp μ' H' w' μ3 H3 w3 := S2.trans S3
        cases k with
        | true =>
          refine iteT fun s0 H0 A0 cl fp => ?_
          have A3 : At (C.blk scope) (X.blk s0 H0 scope (compEnvC scope cl A0 X.env) fp) noE ρ' μ3 σ3 H3 w3 := AB.step S3 M3
          refine (q.1 rfl).go A3 fun u H4 z μ4 w4 r4 A4 S4 ⟨d, ez, pd⟩ => ?_
          subst ez
          have M4 : MOk C.K μ4 H4 w4 := A4.M
          have fDl3 : w3.F Dl := (hF3 Dl).mpr (.inr rfl)
          have hD4 : H4 Dl = some (.lst xs) := S4.frm Dl _ fDl3 hD3
          have hF4 : ∀ a, w4.F a ↔ (w1.F a ∨ a = Dl) := fun a => by rw [S4.sF]; exact hF3 a
          have S24 := S23.trans S4
          have fDl4 : w4.F Dl := (hF4 Dl).mpr (.inr rfl)
          have kpU : Kp μ4 H4 w4 μ4 (upd H4 Dl (.lst (xs ++ [u]))) w4 := ⟨fun a o h nl => ⟨by rw [upd_ne (fun e => nl (by rw [e]; exact .inl fDl4))]; exact h, nl⟩, fun _ _ h => h⟩
          refine ⟨xs, hD4, by rw [racc.len]; omega, acc ++ [d], xs ++ [u], μ4, w4, ?_, (kp.trans S24.kp).trans kpU, hF4, fun a o f h => ?_, upd_same, ?_, by rw [List.length_append, List.length_singleton]; omega, pd⟩
          · refine ⟨M4.len, M4.inj, fun n mm a e1 e2 => ?_, M4.nF, fun a f => ?_⟩
            · have h := M4.holds n mm a e1 e2
              have na : a ≠ Dl := fun e => M4.nF n mm a e1 e2 (e ▸ fDl4)
              cases mm with
              | lst ys => obtain ⟨us, e, r⟩ := h; exact ⟨us, by rw [upd_ne na]; exact e, Paired.mapP r fun _ _ q => q.kp kpU⟩
              | ins C' fs ys => obtain ⟨dx, gs, e, f, r⟩ := h; exact ⟨dx, gs, by rw [upd_ne na]; exact e, f, Paired.mapP r fun _ _ q => q.kp kpU⟩
            · by_cases ea : a = Dl
              · subst ea; exact ⟨_, upd_same⟩
              · obtain ⟨o, ho⟩ := M4.fr a f
                exact ⟨o, by rw [upd_ne ea]; exact ho⟩
          · have na : a ≠ Dl := ne_of_none h hDl
            rw [upd_ne na]
            exact S24.frm a o ((hF a).mpr (.inl f)) (hfrm a o f h)
          · refine Reps.append (Reps.mono (S24.kp.trans kpU).keep _ _ racc) (Reps.one ?_)
            exact Rep.mono kpU.keep _ _ r4
        | false =>
          refine iteF ⟨acc, xs, μ3, w3, M3, kp.trans S23.kp, hF3, fun a o f h => S23.frm a o ((hF a).mpr (.inl f)) (hfrm a o f h), hD3, Reps.mono S23.keep _ _ racc, by omega, q.2 rfl⟩
      match ifs, hif with
      | [], hif => exact fin M2 Stp.refl hif
      | [c], hif =>
        exact WT.go hif AB fun k H3 μ3 w3 A3 S3 q => fin A3.M S3 q
      | _ :: _ :: _, hif => exact hif.elim
    · have e : i = items.length := by omega
      subst e
      refine .inl ⟨dstop, hq _ _ ?_⟩
      have sub : ∀ {a : Addr}, Live μ' ⟨w'.ι, w1.F⟩ a → Live μ' w' a := fun l => by
        rcases l with f | c
        · exact .inl ((hF _).mpr (.inl f))
        · exact .inr c
      refine ⟨.d (.lst acc), μ', ⟨w'.ι, w1.F⟩, ⟨Dl, xs, rfl, fun l => ?_, hD, Reps.mono (fun a o h nl => ⟨h, fun q => nl (sub q)⟩) _ _ racc⟩, ?_, S1.trans ⟨fun a o h nl => ⟨(kp.keep a o h nl).1, fun q => (kp.keep a o h nl).2 (sub q)⟩, kp.num, rfl, hfrm⟩, pD acc μ' p'⟩
      · rcases l with f | ⟨n, m, e1, e2⟩
        · obtain ⟨o, ho⟩ := A1.M.fr Dl f
          rw [hDl] at ho
          cases ho
        · exact M'.nF n m Dl e1 e2 ((hF Dl).mpr (.inr rfl))
      · refine ⟨M'.len, M'.inj, fun n m a e1 e2 => ?_, fun n m a e1 e2 f => M'.nF n m a e1 e2 ((hF a).mpr (.inl f)), fun a f => M'.fr a ((hF a).mpr (.inl f))⟩
        have h := M'.holds n m a e1 e2
        have kpS : Kp μ' H' w' μ' H' ⟨w'.ι, w1.F⟩ := ⟨fun a o h nl => ⟨h, fun q => nl (sub q)⟩, fun _ _ h => h⟩
        cases m with
        | lst ys => obtain ⟨us, e, r⟩ := h; exact ⟨us, e, Paired.mapP r fun _ _ q => q.kp kpS⟩
        | ins C' fs ys => obtain ⟨dx, gs, e, f, r⟩ := h; exact ⟨dx, gs, e, f, Paired.mapP r fun _ _ q => q.kp kpS⟩
/-- what a comprehension asks of its walk -/
def LcI (C : SC) (scope : Scope) (t : Tg) (ifs : List Expr) (elt : Expr) (vs : List Nat) (ρ : Env) (Q : XV → Mem → Prop) : List XV → (Mem → Prop) → Mem → Prop := fun items G μ1 =>
  items.length ≤ sizeLine ∧ ∃ P : Nat → List DL.D → Mem → Prop, P 0 [] μ1 ∧ (∀ i acc μ', i ≤ items.length → P i acc μ' → G μ') ∧
      (∀ (i : Nat) x acc μ', items[i]? = some x → P i acc μ' → LcT C scope t ifs elt x (wipeE ρ vs) μ' (fun d μ3 => P (i + 1) (acc ++ [d]) μ3) (P (i + 1) acc)) ∧
      (∀ acc μ', P items.length acc μ' → Q (.d (.lst acc)) μ')
theorem we_lc {elt : Expr} {ifs : List Expr} {scope : Scope} {own : List (Str × Nat)} {t : Tg} (ht : TgOk (C.blk scope) tg t) (nd : C.N.Nodup) (ok : BlkOk C.N C.sc scope own) (hsl : ∀ j ∈ t.slots, j ∈ own.map (·.2))
    (h : WI C tg iter ρ μ E (LcI C scope t ifs elt (own.map (·.2)) ρ Q)) (hs : ∀ env x, foldedSetIterable iter env x = pure x := by intro _ _; rfl) : WE C (.ListComp elt [⟨tg, iter, ifs, 0⟩] scope pos) ρ μ E Q := fun X σ H w A => by
  obtain ⟨wi, hi, hw⟩ := h X σ H w A
  exact tE_of (pe_lc (own := own) A.has.calm (by rw [A.has.N]; exact nd) hi (by rw [A.has.N, A.has.sc]; exact ok) (fun s0 H0 A0 cl fp => ht.pg (blk_has A.has)) (fun s0 H0 A0 cl fp => ⟨fun pins s σ' H' R I h => pts_tIfs.run pins s σ' H' R I (h s0 H0 A0 cl fp)⟩)
    (fun s0 H0 A0 cl fp => ⟨fun pins s σ' H' R I h => h s0 H0 A0 cl fp pins s I⟩) (hs _)) (lc_read A hsl hw fun v H' q => q)
/-- name = [..] on one line -/
theorem w1_setLc {elt : Expr} {ifs : List Expr} {scope : Scope} {own : List (Str × Nat)} {t : Tg} {i : Nat} {y : Str} {py spos : Pos} (n : C.Nm i y) (hyl : C.sc.names.lookup y = some .local) (ht : TgOk (C.blk scope) tg t) (ok : BlkOk C.N C.sc scope own) (hsl : ∀ j ∈ t.slots, j ∈ own.map (·.2))
    (h : WI C tg iter ρ μ E (LcI C scope t ifs elt (own.map (·.2)) ρ fun z μ' => D.nx (ρ.set i (some z)) μ')) (hk : C.sc.kind = .function) (hl : (py.line == pos.line) = true) (ha : (scope.names.any fun (n, k) => n == y && (k == .local || k == .cell)) = false)
    (hs : ∀ env x, foldedSetIterable iter env x = pure x := by intro _ _; rfl) : WS1 C (.Assign [.Name y py] (.ListComp elt [⟨tg, iter, ifs, 0⟩] scope pos) spos) ρ μ E D := fun X σ H w A => by
  obtain ⟨wi, hi, hw⟩ := h X σ H w A
  refine tS1_of (ps_setLc (i := i) (own := own) (g := t.g X.K) (tt := fun σ' H' R => ∀ s0 H0 A0 cl fp, tIfs (X.blk s0 H0 scope (compEnvC scope cl A0 X.env) fp) ifs σ' H' R) (te := fun σ' H' R => ∀ s0 H0 A0 cl fp, tE (X.blk s0 H0 scope (compEnvC scope cl A0 X.env) fp) elt σ' H' R) A.has.calm (by rw [A.has.N]; exact n.nd) (by rw [A.has.N]; exact n.at_) (by rw [A.has.sc]; exact hyl) (sw_true (by rw [A.has.sc]; exact hk) (by rw [A.has.sc]; exact hyl) hl ha) hi (by rw [A.has.N, A.has.sc]; exact ok) (fun s0 H0 A0 cl fp => ht.pg (blk_has A.has)) (fun s0 H0 A0 cl fp => ⟨fun pins s σ' H' R I h => pts_tIfs.run pins s σ' H' R I (h s0 H0 A0 cl fp)⟩)
    (fun s0 H0 A0 cl fp => ⟨fun pins s σ' H' R I h => h s0 H0 A0 cl fp pins s I⟩) (hs _)) ?_
  exact lc_read (Q := fun z μ' => D.nx (ρ.set i (some z)) μ') (Qv := fun v H' => gName i v σ H' (liftD C.K D μ H w).nx) A hsl hw fun v H' ⟨z, μ', w', r, M, S, q⟩ => ⟨_, μ', w', (A.R.stp S).put r i, M, S, q⟩
end
end DL
set_option maxRecDepth 100000
set_option maxHeartbeats 2000000
namespace DL
open PySem L2 PySem.Spec PyProof.Rows
/-! ### what a def does: its contract -/
inductive Out where
  | ret (x : XV) (μ : Mem)
  | exc (C : Addr) (fl : List (Str × D)) (μ : Mem)
def Out.mem : Out → Mem
  | .ret _ μ => μ
  | .exc _ _ μ => μ
/-- for each case a: the arguments, the cells, what must hold, what comes -/
structure Con where
  α : Type
  args : α → List XV
  mem : α → Mem
  pre : α → Prop
  out : α → Out → Prop
structure Con.Wf (c : Con) : Prop where
  args : ∀ a, c.pre a → ∀ x ∈ c.args a, x.below (c.mem a).length
  mem : ∀ a, c.pre a → ∀ m, some m ∈ c.mem a → m.below (c.mem a).length
  out : ∀ a o, c.pre a → c.out a o → (c.mem a).length ≤ o.mem.length
def toSp (K : PySem.W.Frag) (c : Con) : Sp := fun vs H Q E => ∃ (a : c.α) (w : IA), c.pre a ∧ RepXs K (c.mem a) H w (c.args a) vs ∧ MOk K (c.mem a) H w ∧
  (∀ x μ', c.out a (.ret x μ') → ∀ v H' w', RepX K μ' H' w' x v → MOk K μ' H' w' → Stp (c.mem a) H w μ' H' w' → Q v H') ∧
  (∀ Cl fl μ', c.out a (.exc Cl fl μ') → ∀ d H' w', XRep K μ' H' w' d fl → MOk K μ' H' w' → Stp (c.mem a) H w μ' H' w' → E (.ref Cl) d H')
section
variable {K : PySem.W.Frag} {μa μr μ' : Mem} {H H' : Hp} {w w1 : IA}
/-- the cells behind the first ones are others' while a def runs -/
def IA.part (w : IA) (μa μr : Mem) : IA := ⟨w.ι.take μa.length, fun b => w.F b ∨ ∃ (k : Nat) (m : MO), μa.length ≤ k ∧ (μa ++ μr)[k]? = some (some m) ∧ w.ι[k]? = some b⟩
def IA.whole (w1 w : IA) (n : Nat) : IA := ⟨w1.ι ++ w.ι.drop n, w.F⟩
theorem live_part (b : Addr) : Live μa (w.part μa μr) b ↔ Live (μa ++ μr) w b := by
  constructor
  · rintro ((f | ⟨k, m, _, e1, e2⟩) | ⟨k, m, e1, e2⟩)
    · exact .inl f
    · exact .inr ⟨k, m, e1, e2⟩
    · have hk := (List.getElem?_eq_some_iff.mp e1).1
      have e2 : (w.ι.take μa.length)[k]? = some b := e2
      rw [List.getElem?_take_of_lt hk] at e2
      exact .inr ⟨k, m, by rw [List.getElem?_append_left hk]; exact e1, e2⟩
  · rintro (f | ⟨k, m, e1, e2⟩)
    · exact .inl (.inl f)
    · by_cases hk : k < μa.length
      · rw [List.getElem?_append_left hk] at e1
        refine .inr ⟨k, m, e1, ?_⟩
        show (w.ι.take μa.length)[k]? = some b
        rw [List.getElem?_take_of_lt hk]
        exact e2
      · exact .inl (.inr ⟨k, m, by omega, e1, e2⟩)
theorem repX_part {x : XV} {v : V} (hb : x.below μa.length) (h : RepX K (μa ++ μr) H w x v) : RepX K μa H (w.part μa μr) x v := by
  cases x with
  | d x => exact Rep.mono (fun a o e nl => ⟨e, fun q => nl ((live_part a).mp q)⟩) x v h
  | l k =>
    obtain ⟨a, e, r⟩ := h
    refine ⟨a, ?_, r⟩
    show (w.ι.take μa.length)[k]? = some a
    rw [List.getElem?_take_of_lt hb]
    exact e
theorem repXs_part : ∀ {xs : List XV} {vs : List V}, (∀ x ∈ xs, x.below μa.length) → RepXs K (μa ++ μr) H w xs vs → RepXs K μa H (w.part μa μr) xs vs
  | _, _, _, .nil => .nil
  | _, _, hb, .cons r t => .cons (repX_part (hb _ List.mem_cons_self) r) (repXs_part (fun x hx => hb x (List.mem_cons_of_mem _ hx)) t)
theorem mok_part (M : MOk K (μa ++ μr) H w) (hb : ∀ m, some m ∈ μa → m.below μa.length) : MOk K μa H (w.part μa μr) := by
  have up : ∀ {k : Nat} {m : MO} {b : Addr}, μa[k]? = some (some m) → (w.part μa μr).ι[k]? = some b → k < μa.length ∧ (μa ++ μr)[k]? = some (some m) ∧ w.ι[k]? = some b := fun {k m b} e1 e2 => by
    have hk := (List.getElem?_eq_some_iff.mp e1).1
    have e2 : (w.ι.take μa.length)[k]? = some b := e2
    rw [List.getElem?_take_of_lt hk] at e2
    exact ⟨hk, by rw [List.getElem?_append_left hk]; exact e1, e2⟩
  have hl := M.len
  rw [List.length_append] at hl
  refine ⟨by show (w.ι.take μa.length).length = _; rw [List.length_take]; omega, fun i j mi mj a e1 e2 e3 e4 => ?_, fun n m a e1 e2 => ?_, fun n m a e1 e2 f => ?_, fun a f => ?_⟩
  · obtain ⟨_, a1, a2⟩ := up e1 e3
    obtain ⟨_, b1, b2⟩ := up e2 e4
    exact M.inj i j mi mj a a1 b1 a2 b2
  · obtain ⟨_, a1, a2⟩ := up e1 e2
    have h := M.holds n m a a1 a2
    have hm := hb m (List.mem_of_getElem? e1)
    cases m with
    | lst xs => obtain ⟨us, e, r⟩ := h; exact ⟨us, e, repXs_part hm r⟩
    | ins C fs xs => obtain ⟨dx, gs, e, f, r⟩ := h; exact ⟨dx, gs, e, f, repXs_part hm r⟩
  · obtain ⟨hk, a1, a2⟩ := up e1 e2
    rcases f with f | ⟨k, m', hk', e3, e4⟩
    · exact M.nF n m a a1 a2 f
    · have := M.inj n k m m' a a1 e3 a2 e4
      omega
  · rcases f with f | ⟨k, m', hk', e3, e4⟩
    · exact M.fr a f
    · exact (M.holds k m' a e3 e4).there
theorem live_whole (hl : w1.ι.length = μ'.length) (hw : w.ι.length = (μa ++ μr).length) (sF : w1.F = (w.part μa μr).F) (b : Addr) : Live (μ' ++ μr) (w1.whole w μa.length) b ↔ Live μ' w1 b := by
  constructor
  · rintro (f | ⟨k, m, e1, e2⟩)
    · refine .inl ?_
      rw [sF]
      exact .inl f
    · have e2 : (w1.ι ++ w.ι.drop μa.length)[k]? = some b := e2
      by_cases hk : k < μ'.length
      · rw [List.getElem?_append_left hk] at e1
        rw [List.getElem?_append_left (by omega)] at e2
        exact .inr ⟨k, m, e1, e2⟩
      · rw [List.getElem?_append_right (by omega)] at e1 e2
        refine .inl ?_
        rw [sF]
        refine .inr ⟨μa.length + (k - μ'.length), m, by omega, ?_, ?_⟩
        · rw [List.getElem?_append_right (by omega)]
          rw [show μa.length + (k - μ'.length) - μa.length = k - μ'.length by omega]
          exact e1
        · rw [List.getElem?_drop] at e2
          rw [← hl]
          exact e2
  · rintro (f | ⟨k, m, e1, e2⟩)
    · rw [sF] at f
      rcases f with f | ⟨k, m, hk, e1, e2⟩
      · exact .inl f
      · refine .inr ⟨μ'.length + (k - μa.length), m, ?_, ?_⟩
        · rw [List.getElem?_append_right (by omega)] at e1
          rw [List.getElem?_append_right (by omega)]
          rw [show μ'.length + (k - μa.length) - μ'.length = k - μa.length by omega]
          exact e1
        · show (w1.ι ++ w.ι.drop μa.length)[μ'.length + (k - μa.length)]? = some b
          rw [List.getElem?_append_right (by omega), List.getElem?_drop, hl]
          rw [show μa.length + (μ'.length + (k - μa.length) - μ'.length) = k by omega]
          exact e2
    · refine .inr ⟨k, m, ?_, ?_⟩
      · rw [List.getElem?_append_left (List.getElem?_eq_some_iff.mp e1).1]; exact e1
      · show (w1.ι ++ w.ι.drop μa.length)[k]? = some b
        rw [List.getElem?_append_left (List.getElem?_eq_some_iff.mp e2).1]; exact e2
/-- behind a def's run: all cells again -/
theorem whole_ok (M : MOk K (μa ++ μr) H w) (M1 : MOk K μ' H' w1) (S : Stp μa H (w.part μa μr) μ' H' w1) (hc : μ'.length = μa.length ∨ μr = []) :
    MOk K (μ' ++ μr) H' (w1.whole w μa.length) ∧ Stp (μa ++ μr) H w (μ' ++ μr) H' (w1.whole w μa.length) ∧ ∀ x v, RepX K μ' H' w1 x v → RepX K (μ' ++ μr) H' (w1.whole w μa.length) x v := by
  have hl := M1.len
  have hw := M.len
  have LW := live_whole hl hw S.sF
  have hwl : w.ι.length = μa.length + μr.length := by rw [hw, List.length_append]
  have num : ∀ (k : Nat) b, w.ι[k]? = some b → (w1.whole w μa.length).ι[k]? = some b := fun k b e => by
    show (w1.ι ++ w.ι.drop μa.length)[k]? = some b
    by_cases hk : k < μa.length
    · have e0 : (w.part μa μr).ι[k]? = some b := by
        show (w.ι.take μa.length)[k]? = some b
        rw [List.getElem?_take_of_lt hk]
        exact e
      have e1 := S.num k b e0
      rw [List.getElem?_append_left (List.getElem?_eq_some_iff.mp e1).1]
      exact e1
    · have hk2 : k < w.ι.length := (List.getElem?_eq_some_iff.mp e).1
      have hlen : w1.ι.length = μa.length := by
        rcases hc with h | h
        · omega
        · subst h; simp at hwl; omega
      rw [List.getElem?_append_right (by omega), List.getElem?_drop, hlen, show μa.length + (k - μa.length) = k by omega]
      exact e
  have kp : Kp (μa ++ μr) H w (μ' ++ μr) H' (w1.whole w μa.length) := ⟨fun a o h nl => by
    obtain ⟨h1, h2⟩ := S.keep a o h (fun q => nl ((live_part a).mp q))
    exact ⟨h1, fun q => h2 ((LW a).mp q)⟩, num⟩
  have lx : ∀ x v, RepX K μ' H' w1 x v → RepX K (μ' ++ μr) H' (w1.whole w μa.length) x v := fun x v h => by
    cases x with
    | d x => exact Rep.mono (fun a o e nl => ⟨e, fun q => nl ((LW a).mp q)⟩) x v h
    | l k =>
      obtain ⟨a, e, r⟩ := h
      refine ⟨a, ?_, r⟩
      show (w1.ι ++ w.ι.drop μa.length)[k]? = some a
      rw [List.getElem?_append_left (List.getElem?_eq_some_iff.mp e).1]
      exact e
  have split : ∀ {k : Nat} {m : MO} {b : Addr}, (μ' ++ μr)[k]? = some (some m) → (w1.whole w μa.length).ι[k]? = some b →
      (μ'[k]? = some (some m) ∧ w1.ι[k]? = some b) ∨ (μ'.length ≤ k ∧ (μa ++ μr)[μa.length + (k - μ'.length)]? = some (some m) ∧ w.ι[μa.length + (k - μ'.length)]? = some b ∧ w1.F b) := fun {k m b} e1 e2 => by
    have e2 : (w1.ι ++ w.ι.drop μa.length)[k]? = some b := e2
    by_cases hk : k < μ'.length
    · rw [List.getElem?_append_left hk] at e1
      rw [List.getElem?_append_left (by omega)] at e2
      exact .inl ⟨e1, e2⟩
    · rw [List.getElem?_append_right (by omega)] at e1 e2
      rw [List.getElem?_drop, hl] at e2
      have q1 : (μa ++ μr)[μa.length + (k - μ'.length)]? = some (some m) := by
        rw [List.getElem?_append_right (by omega), show μa.length + (k - μ'.length) - μa.length = k - μ'.length by omega]
        exact e1
      exact .inr ⟨by omega, q1, e2, by rw [S.sF]; exact .inr ⟨_, m, by omega, q1, e2⟩⟩
  refine ⟨⟨?_, fun i j mi mj a e1 e2 e3 e4 => ?_, fun n m a e1 e2 => ?_, fun n m a e1 e2 f => ?_, fun a f => ?_⟩, ⟨kp.keep, kp.num, rfl, fun a o f h => S.frm a o (.inl f) h⟩, lx⟩
  · show (w1.ι ++ w.ι.drop μa.length).length = _
    rw [List.length_append, List.length_drop, List.length_append]
    omega
  · rcases split e1 e3 with ⟨a1, a2⟩ | ⟨a0, a1, a2, a3⟩
    · rcases split e2 e4 with ⟨b1, b2⟩ | ⟨b0, b1, b2, b3⟩
      · exact M1.inj i j mi mj a a1 b1 a2 b2
      · exact (M1.nF i mi a a1 a2 b3).elim
    · rcases split e2 e4 with ⟨b1, b2⟩ | ⟨b0, b1, b2, b3⟩
      · exact (M1.nF j mj a b1 b2 a3).elim
      · have := M.inj _ _ mi mj a a1 b1 a2 b2
        omega
  · rcases split e1 e2 with ⟨a1, a2⟩ | ⟨a0, a1, a2, a3⟩
    · have h := M1.holds n m a a1 a2
      cases m with
      | lst xs => obtain ⟨us, e, r⟩ := h; exact ⟨us, e, Paired.mapP r fun x v q => lx x v q⟩
      | ins C fs xs => obtain ⟨dx, gs, e, f, r⟩ := h; exact ⟨dx, gs, e, f, Paired.mapP r fun x v q => lx x v q⟩
    · have h := M.holds _ m a a1 a2
      have k : ∀ o, H a = some o → H' a = some o := fun o e => S.frm a o (by rw [← S.sF]; exact a3) e
      cases m with
      | lst xs => obtain ⟨us, e, r⟩ := h; exact ⟨us, k _ e, Paired.mapP r fun x v q => q.kp kp⟩
      | ins C fs xs => obtain ⟨dx, gs, e, f, r⟩ := h; exact ⟨dx, gs, k _ e, f, Paired.mapP r fun x v q => q.kp kp⟩
  · rcases split e1 e2 with ⟨a1, a2⟩ | ⟨a0, a1, a2, a3⟩
    · exact M1.nF n m a a1 a2 (by rw [S.sF]; exact .inl f)
    · exact M.nF _ m a a1 a2 f
  · exact M1.fr a (by rw [S.sF]; exact .inl f)
theorem XRep.whole {d : Option Addr} {fl : List (Str × D)} (L : ∀ a, Live (μ' ++ μr) (w1.whole w μa.length) a ↔ Live μ' w1 a) (h : XRep K μ' H' w1 d fl) : XRep K (μ' ++ μr) H' (w1.whole w μa.length) d fl := by
  cases d with
  | none => exact h
  | some a =>
    obtain ⟨nl, gs, e, f, r⟩ := h
    exact ⟨fun q => nl ((L a).mp q), gs, e, f, Reps.mono (fun b o hb n => ⟨hb, fun q => n ((L b).mp q)⟩) _ _ r⟩
end
/-- a def of the contract c is called with these, here -/
def Calls (c : Con) (xs : List XV) (μ : Mem) (Q : XV → Mem → Prop) (E : Addr → List (Str × D) → Mem → Prop) : Prop :=
  ∃ (a : c.α) (μr : Mem), c.pre a ∧ c.args a = xs ∧ μ = c.mem a ++ μr ∧ ∀ o, c.out a o → (o.mem.length = (c.mem a).length ∨ μr = []) ∧
    match o with
    | .ret x μ' => Q x (μ' ++ μr)
    | .exc Cl fl μ' => E Cl fl (μ' ++ μr)
theorem Calls.sp {c : Con} (wf : c.Wf) {xs : List XV} {μ : Mem} {Q : XV → Mem → Prop} {E : Addr → List (Str × D) → Mem → Prop} (h : Calls c xs μ Q E) {K : PySem.W.Frag} {H : Hp} {w : IA} {vs : List V} (M : MOk K μ H w) (rs : RepXs K μ H w xs vs)
    {Qv : VK} {Ev : XK} (k1 : ∀ v H', lift K Q μ H w v H' → Qv v H') (k2 : ∀ Cl fl d H' μ' w', XRep K μ' H' w' d fl → MOk K μ' H' w' → Stp μ H w μ' H' w' → E Cl fl μ' → Ev (.ref Cl) d H') : toSp K c vs H Qv Ev := by
  obtain ⟨a, μr, hp, rfl, rfl, hq⟩ := h
  refine ⟨a, w.part (c.mem a) μr, hp, repXs_part (wf.args a hp) rs, mok_part M (wf.mem a hp), fun x μ' e v H' w1 r M1 S => ?_, fun Cl fl μ' e d H' w1 r M1 S => ?_⟩
  · obtain ⟨hc, q⟩ := hq _ e
    obtain ⟨M2, S2, lx⟩ := whole_ok M M1 S hc
    exact k1 v H' ⟨x, μ' ++ μr, _, lx x v r, M2, S2, q⟩
  · obtain ⟨hc, q⟩ := hq _ e
    obtain ⟨M2, S2, lx⟩ := whole_ok M M1 S hc
    exact k2 Cl fl d H' _ _ (XRep.whole (live_whole M1.len M.len S.sF) r) M2 S2 q
/-- a def that keeps its promise, called where (if g) no repr is under way -/
structure FnG (P : Program) (wd : World) (K : PySem.W.Frag) (mg : Str → Option Value) (base : Heap) (g : Bool) (k : Nat) (f : Addr) (fd : FuncData) (ps : List Str) (sp : Sp) : Prop where
  len : ∀ vs H Q E, sp vs H Q E → vs.length = ps.length
  run : ∀ (A : Around) (outer : List PySem.Env) (s : Shared) (H : Hp) (args : Args) (us : List Value) (vs : List V) (Q : VK) (E : XK), (g = true → A.guards = some []) → Room k A → Env0 P wd K mg base A outer s H → BindsTo s fd args (ps.zip us) → Vals vs us → sp vs H Q E →
    codeAny (model P wd) A (.call (.ref f) args) (CR (L2.CX P wd) outer P wd H s Q E) s
theorem FnG.fnok {P : Program} {wd : World} {K : PySem.W.Frag} {mg : Str → Option Value} {base : Heap} {k : Nat} {f : Addr} {fd : FuncData} {ps : List Str} {sp : Sp} (F : FnG P wd K mg base false k f fd ps sp) : FnOk P wd K mg base (L2.CX P wd) k f fd ps sp :=
  ⟨F.len, fun A outer s H args us vs Q E => F.run A outer s H args us vs Q E fun z => nomatch z⟩
theorem Fun.okG {P : Program} {wd : World} {K : PySem.W.Frag} {mg : Str → Option Value} {base : Heap} {g : Bool} {x qual : Str} {st : Stmt} {f : Addr} {fd : FuncData} {N ps : List Str} {k : Nat} {sp : Sp} (F : Fun K x qual st f fd) (S : FnScope N ps (defScope st)) (len : ∀ vs H Q E, sp vs H Q E → vs.length = ps.length)
    (hbody : ∀ (cdv : Value) (A : Around) (outer : List PySem.Env) (s : Shared) (H : Hp) (vs : List V) (Q : VK) (E : XK), (g = true → A.guards = some []) → Room k (A.deeper (envOfC qual (defScope st) s.heap.objs.size f cdv)) → sp vs H Q E →
      ∃ t, PSs (cxOf (L2.CX P wd) P wd K mg base N qual (defScope st) f cdv A outer s H E) (defBody st) t ∧ t { nx := fun _ H' => Q .non H', rt := Q } (L2.start N vs) H) : FnG P wd K mg base g (k + 1) f fd ps sp := by
  obtain ⟨oc, od, kV, doc, pm, an, cdv, ct, osl, rfl, look, code⟩ := F.ex
  refine ⟨len, fun A outer s H args us vs Q E hg hr e0 hb r hsp => ?_⟩
  have old : ∀ b o, base.get? b = some o → s.heap.get? b = some o := fun b o e => (e0.bs b o e).1
  have inK : K.In s.heap := e0.mod.kin.keeps old
  have par : ∀ q ∈ ps.zip us, (defScope st).names.lookup q.1 = some .local ∨ ((defScope st).names.lookup q.1 = some .cell ∧ ((cellsFrom (s.heap.objs.size + 1) (defScope st).names []).lookup q.1).isSome = true) := by
    rintro ⟨n, v⟩ hy
    exact (S.par n (List.of_mem_zip hy).1).imp id fun q => ⟨q, PySem.W.cellsFrom_some _ _ _ (.inl q)⟩
  refine codeAny_call_function hr.depth (inK _ _ look) rfl S.co S.gen rfl (PySem.W.codeRec_of inK code) (hb _ _ _ _ ?_)
  refine wpAny_newFunctionEnv_cells S.kind par fun env he s1 x => ?_
  cases he
  refine ⟨(e0.mod.nolimit.keeps old).keeps x.toInCall.keep, codeAny_func ?_⟩
  obtain ⟨t, ht, hq⟩ := hbody cdv A outer s H vs Q E hg (hr.deeper _) hsp
  refine wpAny_mono (ht.run [] s1 (L2.start N vs) H _ (inv_start S hr.hd e0 (len _ _ _ _ hsp) r x) hq) (fun fl s' hs => ?_) fun _ _ hs => hs
  match fl, hs with
  | .ret u, ⟨v, _, H', J, rv, q⟩ => exact ⟨v, H', J.os, J.bare, J.base, J.hok, rv, q⟩
  | .next, ⟨_, H', J, q⟩ => exact ⟨V.non, H', J.os, J.bare, J.base, J.hok, rfl, q⟩
  | .brk, ⟨_, _, _, q⟩ => exact q.elim
  | .cont, ⟨_, _, _, q⟩ => exact q.elim
/-! ### defs of the module -/
structure FnD (C : SC) (k : Nat) (x : Str) (ps : List Str) (c : Con) : Prop where
  ex : ∃ (f : Addr) (fd : FuncData), FnG C.P C.wd C.K C.mg C.base C.g k f fd ps (toSp C.K c) ∧ C.mg x = some (.ref f) ∧ PySem.W.keepIn C.K (.ref f) = true ∧ Binds C.K fd ps []
  wf : c.Wf
section
variable {C : SC} {E : EPost} {ρ : Env} {μ : Mem} {Q : XV → Mem → Prop} {e : Expr} {es : List Expr} {p pos : Pos} {x : Str} {k : Nat} {ps : List Str} {c : Con} {X : Cx}
theorem FnD.at_ (F : FnD C k x ps c) (h : C.Has X) : ∃ (f : Addr) (fd : FuncData), FnG X.prog X.w X.K X.mg X.base C.g k f fd ps (toSp C.K c) ∧ X.mg x = some (.ref f) ∧ PySem.W.keepIn X.K (.ref f) = true ∧ Binds X.K fd ps [] := by
  obtain ⟨f, fd, h1, h2, h3, h4⟩ := F.ex
  refine ⟨f, fd, ?_, ?_, ?_, ?_⟩
  · rw [h.P, h.wd, h.K, h.mg, h.base]; exact h1
  · rw [h.mg]; exact h2
  · rw [h.K]; exact h3
  · rw [h.K]; exact h4
/-- the wish about a callee's exceptions, at the names as they stand -/
def xkOf (K : PySem.W.Frag) (E : EPost) (ρ : Env) (μ : Mem) (H : Hp) (w : IA) : XK := fun cls d H' => ∃ Cl fl μ' w', cls = .ref Cl ∧ XRep K μ' H' w' d fl ∧ MOk K μ' H' w' ∧ Stp μ H w μ' H' w' ∧ E Cl fl ρ μ'
theorem passes_at {H : Hp} {w : IA} {σ : L2.St} (A : At C X E ρ μ σ H w) {pins : List (Addr × Obj)} {H1 : Hp} {s : Shared} {u : Value} {s' : Shared} (I : Inv X pins σ H1 s) (h : L2.CX X.prog X.w X.stack H1 s (xkOf C.K E ρ μ H w) u s') : X.xe u s' := by
  refine A.T u s' (XE.of_call I (E := xkOf C.K E ρ μ H w) (fun cls d H' q => ?_) h)
  obtain ⟨Cl, fl, μ', w', h1, h2, h3, h4, h5⟩ := q
  exact ⟨Cl, fl, ρ, μ', w', h1, h2, h3, A.R.stp h4, h4, h5⟩
theorem run_at {H : Hp} {w : IA} {σ : L2.St} {f : Addr} {fd : FuncData} {pins : List (Addr × Obj)} {s : Shared} {Qv : VK} {us : List Value} {vs : List V} {sp : Sp} (A : At C X E ρ μ σ H w) (F : FnG X.prog X.w X.K X.mg X.base C.g k f fd ps sp) (hk : k ≤ C.room) (hb : Binds X.K fd ps [])
    (I : Inv X pins σ H s) (r : Vals vs us) (h : sp vs H Qv (xkOf C.K E ρ μ H w)) : wpAny (model X.prog X.w) X.A (call (.ref f) us) (EP X pins σ Qv) X.xe s := by
  have hl : (us ++ []).length = ps.length := by rw [List.append_nil, ← r.length]; exact F.len _ _ _ _ h
  have hb' := hb s us I.kIn hl
  rw [List.append_nil] at hb'
  refine PySem.wpAny_call (PySem.codeAny_mono (F.run X.A X.stack s H ⟨us, []⟩ us vs Qv (xkOf C.K E ρ μ H w) A.has.gd (A.has.room.mono hk) I.env0 hb' r h) fun r s' hq => ?_)
  cases r with
  | error e => exact passes_at A I hq
  | ok fl =>
    cases fl with
    | ret u => exact I.after hq
    | next => exact False.elim hq
    | brk => exact False.elim hq
    | cont => exact False.elim hq
/-- f(e, ..) -/
theorem we_call (F : FnD C k x ps c) (hk : k ≤ C.room) (hg : C.Glob x) (h : WA C (e :: es) ρ μ E fun xs μ1 => Calls c xs μ1 Q fun Cl fl μ2 => E Cl fl ρ μ2) (hdb : (x == ("__debug__" : Str)) = false := by decide)
    (he : ∀ env, starEach (e :: es) env = (false, eval e env) :: starEach es env := by intro _; rfl) (hpl : ∀ env, (backTo pos (starEach es env)).any (·.1) = false := by intro _; rfl) : WE C (.Call (.Name x p) (e :: es) [] pos) ρ μ E Q := fun X σ H w A pins s I => by
  obtain ⟨f, fd, F1, hm, kp, hb⟩ := F.at_ A.has
  refine wpAny_Call_Name_kw (ld_glob I (by show X.env.scope.names.lookup x = _; rw [A.has.sc]; exact hg) hm ?_ hdb)
  have ha : tA X (e :: es) σ H fun vs H1 => ∃ xs μ1 w1, RepXs C.K μ1 H1 w1 xs vs ∧ At C X E ρ μ1 σ H1 w1 ∧ Stp μ H w μ1 H1 w1 ∧ Calls c xs μ1 Q fun Cl fl μ2 => E Cl fl ρ μ2 := h.go A fun vs H1 xs μ1 w1 rs A1 S1 q => ⟨xs, μ1, w1, rs, A1, S1, q⟩
  refine PySem.W.callWith_K (h₀ := X.base) I.ok.mod.kin kp (thn (ha pos pins s I) fun us s1 ⟨vs, H1, I1, r, xs, μ1, w1, rs, A1, S1, q⟩ => ⟨I1.kIn, ?_⟩) (he _) (hpl _)
  exact EP_from S1 (run_at A1 F1 hk hb I1 r (Calls.sp F.wf q A1.M rs (fun v H' h => h) fun Cl fl d H' μ' w' h1 h2 h3 h4 => ⟨Cl, fl, μ', w', rfl, h1, h2, h3, h4⟩))
theorem we_call0 (F : FnD C k x ps c) (hk : k ≤ C.room) (hg : C.Glob x) (h : Calls c [] μ Q fun Cl fl μ2 => E Cl fl ρ μ2) (hdb : (x == ("__debug__" : Str)) = false := by decide) : WE C (.Call (.Name x p) [] [] pos) ρ μ E Q := fun X σ H w A pins s I => by
  obtain ⟨f, fd, F1, hm, kp, hb⟩ := F.at_ A.has
  refine wpAny_Call_Name_kw (ld_glob I (by show X.env.scope.names.lookup x = _; rw [A.has.sc]; exact hg) hm ?_ hdb)
  exact PySem.W.callWith_K0 I.kIn kp (run_at A F1 hk hb I .nil (Calls.sp F.wf h A.M .nil (fun v H' h => h) fun Cl fl d H' μ' w' h1 h2 h3 h4 => ⟨Cl, fl, μ', w', rfl, h1, h2, h3, h4⟩))
/-! ### a def's body keeps its contract -/
def startE (N : List Str) (xs : List XV) : Env := xs.map some ++ List.replicate (N.length - xs.length) none
/-- what is handed back fits the contract -/
def Fits (o : Out → Prop) (x : XV) (μ2 : Mem) : Prop := ∃ μ', o (.ret x μ') ∧ (∃ r, μ2 = μ' ++ r) ∧ x.below μ'.length ∧ ∀ m, some m ∈ μ' → m.below μ'.length
def FitsX (o : Out → Prop) (Cl : Addr) (fl : List (Str × D)) (μ2 : Mem) : Prop := ∃ μ', o (.exc Cl fl μ') ∧ (∃ r, μ2 = μ' ++ r) ∧ ∀ m, some m ∈ μ' → m.below μ'.length
/-- a def's own context -/
def SC.defC (C : SC) (N : List Str) (sc : Scope) (k : Nat) : SC := { C with N := N, sc := sc, own := fun _ => true, room := k }
theorem rok_start {K : PySem.W.Frag} {H : Hp} {w : IA} {N : List Str} {xs : List XV} {vs : List V} (rs : RepXs K μ H w xs vs) : ROk K μ H w (startE N xs) (L2.start N vs) := by
  have hl := rs.length
  refine ⟨by unfold startE L2.start; simp [hl], fun i x e => ?_⟩
  unfold startE at e
  by_cases hi : i < xs.length
  · rw [List.getElem?_append_left (by simpa using hi), List.getElem?_map] at e
    cases ex : xs[i]? with
    | none => rw [ex] at e; cases e
    | some y =>
      rw [ex] at e
      cases e
      obtain ⟨v, hv, r⟩ := paired_get rs ex
      refine ⟨v, ?_, r⟩
      unfold L2.start
      rw [List.getElem?_append_left (by rw [List.length_map]; exact (List.getElem?_eq_some_iff.mp hv).1), List.getElem?_map, hv]
      rfl
  · rw [List.getElem?_append_right (by simpa using hi), List.getElem?_replicate] at e
    split at e <;> cases e
theorem XRep.cut {K : PySem.W.Frag} {H : Hp} {w : IA} {d : Option Addr} {fl : List (Str × D)} {n : Nat} (h : XRep K μ H w d fl) : XRep K (μ.take n) H (w.cut n) d fl := by
  cases d with
  | none => exact h
  | some a =>
    obtain ⟨nl, gs, e, f, r⟩ := h
    exact ⟨fun q => nl (live_cut q), gs, e, f, Reps.mono (fun b o hb n => ⟨hb, fun q => n (live_cut q)⟩) _ _ r⟩
theorem Con.fnok {x qual : Str} {st : Stmt} {f : Addr} {fd : FuncData} {N : List Str} (F : Fun C.K x qual st f fd) (S : FnScope N ps (defScope st)) (wf : c.Wf) (len : ∀ a, c.pre a → (c.args a).length = ps.length)
    (body : ∀ a, c.pre a → WS (C.defC N (defScope st) k) (defBody st) (startE N (c.args a)) (c.mem a) (fun Cl fl _ μ2 => FitsX (c.out a) Cl fl μ2) { nx := fun _ μ2 => Fits (c.out a) (.d .non) μ2, rt := fun z μ2 => Fits (c.out a) z μ2 }) :
    FnG C.P C.wd C.K C.mg C.base C.g (k + 1) f fd ps (toSp C.K c) := by
  refine Fun.okG F S (fun vs H Q E h => ?_) (fun cdv A outer s H vs Q E hgd hr h => ?_)
  · obtain ⟨a, w, hp, rs, _⟩ := h
    rw [← rs.length]
    exact len a hp
  · obtain ⟨a, w, hp, rs, M, hret, hexc⟩ := h
    refine ⟨_, ps_tS, ?_⟩
    generalize hX : cxOf (L2.CX C.P C.wd) C.P C.wd C.K C.mg C.base N qual (defScope st) f cdv A outer s H E = X
    have hx : C.defC N (defScope st) k |>.Has X := by
      subst hX
      exact ⟨rfl, rfl, rfl, rfl, rfl, rfl, rfl, fun _ _ => .inl rfl, hr, rfl, passes_of rfl, hgd⟩
    have cutR : ∀ {z : XV} {μ2 : Mem} {v : V} {H2 : Hp} {w2 : IA}, Fits (c.out a) z μ2 → RepX C.K μ2 H2 w2 z v → MOk C.K μ2 H2 w2 → Stp (c.mem a) H w μ2 H2 w2 → Q v H2 := by
      rintro z μ2 v H2 w2 ⟨μ', e, ⟨r, rfl⟩, hb, hm⟩ rz M2 S2
      have hn : (c.mem a).length ≤ μ'.length := wf.out a _ hp e
      have et : (μ' ++ r).take μ'.length = μ' := List.take_left
      have r1 := RepX.cut (n := μ'.length) hb rz
      have M1 := M2.cut μ'.length (by rw [et]; exact hm)
      have S1 := S2.cut M hn
      rw [et] at r1 M1 S1
      exact hret z μ' e v H2 _ r1 M1 S1
    have T : Takes X (liftE C.K (fun Cl fl _ μ2 => FitsX (c.out a) Cl fl μ2) (c.mem a) H w) := by
      have T0 : Takes X (fun cls d _ H' => E cls d H') := by subst hX; exact takes_of rfl rfl rfl rfl
      refine T0.imp ?_
      rintro cls d σ' H2 ⟨Cl, fl, ρ2, μ2, w2, rfl, hxr, M2, _, S2, μ', e, ⟨r, rfl⟩, hm⟩
      have hn : (c.mem a).length ≤ μ'.length := wf.out a _ hp e
      have et : (μ' ++ r).take μ'.length = μ' := List.take_left
      have r1 := hxr.cut (n := μ'.length)
      have M1 := M2.cut μ'.length (by rw [et]; exact hm)
      have S1 := S2.cut M hn
      rw [et] at r1 M1 S1
      exact hexc Cl fl μ' e d H2 _ r1 M1 S1
    have AT : At (C.defC N (defScope st) k) X (fun Cl fl _ μ2 => FitsX (c.out a) Cl fl μ2) (startE N (c.args a)) (c.mem a) (L2.start N vs) H w := ⟨hx, M, rok_start rs, T⟩
    refine tS_mono (body a hp X (L2.start N vs) H w AT) (fun σ' H' ⟨ρ', μ', w', R', M', S', q⟩ => ?_) (fun v H' ⟨z, μ', w', r', M', S', q⟩ => cutR q r' M' S') (fun _ _ ⟨_, _, _, _, _, _, q⟩ => q) (fun _ _ ⟨_, _, _, _, _, _, q⟩ => q)
    exact cutR (v := .non) q rfl M' S'
theorem FnD.mk' {st : Stmt} {f : Addr} {fd : FuncData} {N : List Str} (F : Fun C.K x x st f fd) (hm : C.mg x = some (.ref f)) (hb : Binds C.K fd ps []) (S : FnScope N ps (defScope st)) (wf : c.Wf) (len : ∀ a, c.pre a → (c.args a).length = ps.length)
    (body : ∀ a, c.pre a → WS (C.defC N (defScope st) k) (defBody st) (startE N (c.args a)) (c.mem a) (fun Cl fl _ μ2 => FitsX (c.out a) Cl fl μ2) { nx := fun _ μ2 => Fits (c.out a) (.d .non) μ2, rt := fun z μ2 => Fits (c.out a) z μ2 }) : FnD C (k + 1) x ps c :=
  ⟨⟨f, fd, Con.fnok F S wf len body, hm, F.kp, hb⟩, wf⟩
end
end DL
set_option maxRecDepth 100000
set_option maxHeartbeats 2000000
namespace DL
open PySem L2 PySem.Spec
/-! ### methods of built-in types -/
def TyD (T : String) : XV → Mem → Prop
  | .d (.txt _), _ => T = "str"
  | .d (.int _), _ => T = "int"
  | .d (.lst _), _ => T = "list"
  | .l n, μ => T = "list" ∧ ∃ xs, μ[n]? = some (some (.lst xs))
  | _, _ => False
section
variable {C : SC} {E : EPost} {ρ : Env} {μ : Mem} {Q : XV → Mem → Prop} {o e : Expr} {es : List Expr} {p pos apos cpos : Pos} {x m f name : Str} {k : Nat} {ps : List Str} {c : Con} {X : Cx} {T id : String}
theorem TyD.v {x : XV} {v : V} {H : Hp} {w : IA} {K : PySem.W.Frag} (t : TyD T x μ) (M : MOk K μ H w) (r : RepX K μ H w x v) : tyV K T v H := by
  match x, t with
  | .d (.txt l), t => rw [show v = V.str (SX.S l) from r]; exact t
  | .d (.int i), t => rw [show v = V.int i from r]; exact t
  | .d (.lst ds), t =>
    obtain ⟨a, xs, rfl, nl, e, _⟩ := r
    exact .inl ⟨t, xs, SqL.of e⟩
  | .l n, ⟨t, xs, hm⟩ =>
    obtain ⟨a, ha, rfl⟩ := r
    obtain ⟨vs, e, _⟩ := M.holds n _ a hm ha
    exact .inl ⟨t, vs, SqL.of e⟩
theorem we_bm (pa : PlainAttrs T) (slot : Slot T name id) (hty : typeOf (.builtin id) = pure (.type "method_descriptor")) (h : WE C o ρ μ E fun x μ1 => TyD T x μ1 ∧ WA C (e :: es) ρ μ1 E fun xs μ2 => GoM C id x xs μ2 Q)
    (hbase : ∀ env, attributeBase o name env (eval o env) = eval o env := by intro _; rfl)
    (hfew : ∀ env, ((backTo cpos (starEach (e :: es) env)).all (fun x => !x.1) && (backToKw cpos (keywordEach [] env)).all (fun x => x.1.isSome) && decide ((e :: es).length + ([] : List Keyword).length + (if ([] : List Keyword).isEmpty then 0 else 1) < 30)) = true := by intro _; rfl)
    (hline : (apos.endLine == cpos.line) = true := by rfl) (hs : ∀ env, starEach (e :: es) env = (false, eval e env) :: starEach es env := by intro _; rfl) (hplain : ∀ env, (backTo cpos (starEach es env)).any (·.1) = false := by intro _; rfl) :
    WE C (.Call (.Attribute o name apos) (e :: es) [] cpos) ρ μ E Q := fun X σ H w A =>
  tE_of (pe_bm pa slot hty mS_ok pe_tE pa_tA (hbase _) (hfew _) hline (hs _) (hplain _)) (h.go A fun v1 H1 x μ1 w1 r1 A1 S1 ⟨ty, h1⟩ => ⟨by rw [A.has.K]; exact ty.v A1.M r1, h1.go A1 fun vs H2 xs μ2 w2 rs A2 S2 h2 => mS.from (S1.trans S2) (h2 X A2.has H2 w2 v1 vs A2.M (r1.stp S2) rs)⟩)
theorem we_bm0 (pa : PlainAttrs T) (slot : Slot T name id) (hty : typeOf (.builtin id) = pure (.type "method_descriptor")) (h : WE C o ρ μ E fun x μ1 => TyD T x μ1 ∧ GoM C id x [] μ1 Q)
    (hbase : ∀ env, attributeBase o name env (eval o env) = eval o env := by intro _; rfl) (hline : (apos.endLine == cpos.line) = true := by rfl) : WE C (.Call (.Attribute o name apos) [] [] cpos) ρ μ E Q := fun X σ H w A =>
  tE_of (pe_bm0 pa slot hty mS_ok pe_tE (hbase _) hline) (h.go A fun v1 H1 x μ1 w1 r1 A1 S1 ⟨ty, h1⟩ => ⟨by rw [A.has.K]; exact ty.v A1.M r1, mS.from S1 (h1 X A1.has H1 w1 v1 [] A1.M r1 .nil)⟩)
theorem joinL_nil : ∀ ls : List (List Nat), TL.joinL [] ls = ls.flatten
  | [] => rfl
  | [_] => by simp [TL.joinL]
  | p :: q :: r => by
    have ih := joinL_nil (q :: r)
    show p ++ ([] ++ TL.joinL [] (q :: r)) = _
    rw [ih]
    simp
theorem gm_join {sep : List Nat} {ls : List (List Nat)} (hz : (ls.map (·.length)).sum + ls.length * sep.length ≤ 16777216) (q : Q (.d (.txt (TL.joinL sep ls))) μ) : GoM C "str.join" (.d (.txt sep)) [.d (.lst (ls.map D.txt))] μ Q := fun X hX H w vx vs M rx rs => by
  obtain ⟨v, rfl, a, xs, rfl, nl, e, r⟩ := rs.one
  rw [Reps.txts r] at e
  refine mS_of mt_join ⟨SX.S sep, a, ls.map SX.S, rx, rfl, .inl (SqL.of e), ?_, lift.now M (x := .d (.txt (TL.joinL sep ls))) (by show V.str _ = V.str _; rw [SX.join_S]) q⟩
  rw [SX.lens, List.length_map, SX.S_len]
  exact hz
/-- a cell is written -/
theorem lift.set {K : PySem.W.Frag} {H : Hp} {w : IA} {n : Nat} {m0 : MO} {a : Addr} {xs : List XV} {vs : List V} (M : MOk K μ H w) (hm : μ[n]? = some (some m0)) (ha : w.ι[n]? = some a) (r : RepXs K μ H w xs vs) {y : XV} {v : V} (ry : RepX K μ H w y v)
    (q : Q y (μ.set n (some (.lst xs)))) : lift K Q μ H w v (upd H a (.lst vs)) := by
  have k : ∀ b o, b ≠ a → H b = some o → upd H a (.lst vs) b = some o := fun b o hb e => by rw [upd_ne hb]; exact e
  have S := Stp.set (mo := some (.lst xs)) M hm ha k
  exact ⟨y, _, w, ry.stp S, MOk.set M hm ha k fun m e => by cases e; exact ⟨vs, upd_same, r.stp S⟩, S, q⟩
theorem Paired.snoc {α β : Type} {R : α → β → Prop} {a : α} {b : β} (r : R a b) : ∀ {xs : List α} {ys : List β}, Paired R xs ys → Paired R (xs ++ [a]) (ys ++ [b])
  | _, _, .nil => .cons r .nil
  | _, _, .cons q t => .cons q (Paired.snoc r t)
theorem Paired.app {α β : Type} {R : α → β → Prop} : ∀ {xs zs : List α} {ys us : List β}, Paired R xs ys → Paired R zs us → Paired R (xs ++ zs) (ys ++ us)
  | _, _, _, _, .nil, s => s
  | _, _, _, _, .cons q t, s => .cons q (Paired.app t s)
theorem Paired.erase {α β : Type} {R : α → β → Prop} : ∀ {xs : List α} {ys : List β} (i : Nat), Paired R xs ys → Paired R (xs.eraseIdx i) (ys.eraseIdx i)
  | _, _, _, .nil => .nil
  | _, _, 0, .cons _ t => t
  | _, _, i + 1, .cons r t => .cons r (Paired.erase i t)
theorem Paired.setP {α β : Type} {R : α → β → Prop} {a : α} {b : β} (r : R a b) : ∀ {xs : List α} {ys : List β} (i : Nat), Paired R xs ys → Paired R (xs.set i a) (ys.set i b)
  | _, _, _, .nil => .nil
  | _, _, 0, .cons _ t => .cons r t
  | _, _, i + 1, .cons q t => .cons q (Paired.setP r i t)
theorem gm_append {n : Nat} {xs : List XV} {y : XV} (hm : μ[n]? = some (some (.lst xs))) (hz : xs.length < sizeLine) (q : Q (.d .non) (μ.set n (some (.lst (xs ++ [y]))))) : GoM C "list.append" (.l n) [y] μ Q := fun X hX H w vx vs M rx rs => by
  obtain ⟨v, rfl, r⟩ := rs.one
  obtain ⟨a, ha, rfl⟩ := rx
  obtain ⟨us, e, ru⟩ := M.holds n _ a hm ha
  exact mS_of mt_append ⟨a, us, v, rfl, rfl, e, by rw [← ru.length]; exact hz, lift.set (y := .d .non) M hm ha (Paired.snoc r ru) rfl q⟩
theorem gm_extend {n : Nat} {xs : List XV} {ds : List D} (hm : μ[n]? = some (some (.lst xs))) (hz : xs.length + ds.length ≤ sizeLine) (q : Q (.d .non) (μ.set n (some (.lst (xs ++ ds.map XV.d))))) : GoM C "list.extend" (.l n) [.d (.lst ds)] μ Q := fun X hX H w vx vs M rx rs => by
  obtain ⟨v, rfl, b, ys, rfl, nl, eb, r⟩ := rs.one
  obtain ⟨a, ha, rfl⟩ := rx
  obtain ⟨us, e, ru⟩ := M.holds n _ a hm ha
  exact mS_of mt_extend ⟨a, b, us, ys, rfl, rfl, e, eb, by rw [← ru.length, r.len]; exact hz, lift.set (y := .d .non) M hm ha (Paired.app ru (Reps.xs r)) rfl q⟩
theorem gm_clear {n : Nat} {xs : List XV} (hm : μ[n]? = some (some (.lst xs))) (q : Q (.d .non) (μ.set n (some (.lst [])))) : GoM C "list.clear" (.l n) [] μ Q := fun X hX H w vx vs M rx rs => by
  cases rs
  obtain ⟨a, ha, rfl⟩ := rx
  obtain ⟨us, e, ru⟩ := M.holds n _ a hm ha
  exact mS_of mt_clear ⟨a, us, rfl, rfl, e, lift.set (y := .d .non) M hm ha .nil rfl q⟩
theorem gm_popAt {n j : Nat} {xs : List XV} {i : Int} {y : XV} (hm : μ[n]? = some (some (.lst xs))) (h1 : -(2 ^ 63) ≤ i) (h2 : i < 2 ^ 63) (hj : seqIndex? i xs.length = some j) (hy : xs[j]? = some y) (q : Q y (μ.set n (some (.lst (xs.eraseIdx j))))) : GoM C "list.pop" (.l n) [.d (.int i)] μ Q := fun X hX H w vx vs M rx rs => by
  obtain ⟨v, rfl, r⟩ := rs.one
  obtain ⟨a, ha, rfl⟩ := rx
  obtain ⟨us, e, ru⟩ := M.holds n _ a hm ha
  obtain ⟨u, hu, ry⟩ := paired_get ru hy
  exact mS_of mt_popAt ⟨a, us, i, j, u, rfl, by rw [show v = V.int i from r], e, h1, h2, by rw [← ru.length]; exact hj, hu, lift.set M hm ha (Paired.erase j ru) ry q⟩
/-- o[i] = e, a cell's item -/
theorem w1_setIx {D : DEnds} {i : Expr} {ipos : Pos} (h : WE C e ρ μ E fun y μ1 => WE C o ρ μ1 E fun x μ2 => WE C i ρ μ2 E fun z μ3 => ∃ n xs k j, x = .l n ∧ z = .d (.int k) ∧ μ3[n]? = some (some (.lst xs)) ∧ ixN xs.length k = some j ∧ D.nx ρ (μ3.set n (some (.lst (xs.set j y)))))
    (hs : ∀ env, swapsWithSole [.Subscript o i ipos] e pos.line env = pure false := by intro _; rfl) (hw : ∀ env, swappedStores [.Subscript o i ipos] e env = pure none := by intro _; rfl) (h1 : ∀ env, (assignEach [.Subscript o i ipos] env).map (·.2) = [assign (.Subscript o i ipos) env] := by intro _; rfl)
    (ha : ∀ env v, assign (.Subscript o i ipos) env v = (do let ov ← holding [v] (eval o env); let iv ← holding [v, ov] (eval i env); standAt ipos; holding [v, ov, iv] (setItem ov iv v); release [v, ov, iv] []) := by intro _ _; rfl) :
    WS1 C (.Assign [.Subscript o i ipos] e pos) ρ μ E D := fun X σ H w A =>
  tS1_of (ps_asg pe_tE (pg_sub pe_tE pe_tE set_list (ha _)) (hs _) (hw _) (h1 _)) (h.go A fun v1 H1 y μ1 w1 r1 A1 S1 q1 => q1.go A1 fun v2 H2 x μ2 w2 r2 A2 S2 q2 => q2.go A2 fun v3 H3 z μ3 w3 r3 A3 S3 ⟨n, xs, k, j, ex, ez, hm, hj, q⟩ => by
    subst ex ez
    obtain ⟨a, ha, rfl⟩ := r2.stp S3
    obtain ⟨us, eu, ru⟩ := A3.M.holds n _ a hm ha
    have kk : ∀ b o, b ≠ a → H3 b = some o → upd H3 a (.lst (us.set j v1)) b = some o := fun b o hb e => by rw [upd_ne hb]; exact e
    have S := Stp.set (mo := some (.lst (xs.set j y))) A3.M hm ha kk
    have ry : RepX C.K μ3 H3 w3 y v1 := (r1.stp S2).stp S3
    refine ⟨a, us, k, j, rfl, r3, eu, by rw [← ru.length]; exact hj, ρ, _, w3, (A3.R.stp S), MOk.set A3.M hm ha kk fun m e => by cases e; exact ⟨_, upd_same, RepXs.stp S (Paired.setP ry j ru)⟩, ((S1.trans S2).trans S3).trans S, q⟩)
/-! ### attributes of own instances -/
def fldD {α : Type} : List Str → List α → Str → Option α
  | g :: gs, d :: ds, f => if f = g then some d else fldD gs ds f
  | _, _, _ => none
theorem fld_rep {K : PySem.W.Frag} {L : Addr → Prop} {H : Hp} : ∀ {fs : List Str} {ds : List D} {gs : List (Str × V)} {f : Str} {d : D}, gs.map (·.1) = fs → Reps K L H ds (gs.map (·.2)) → fldD fs ds f = some d → ∃ v, gs.lookup f = some v ∧ Rep K L H d v
  | [], [], _, _, _, _, _, h => by unfold fldD at h; cases h
  | _ :: _, [], _, _, _, _, _, h => by unfold fldD at h; cases h
  | [], _ :: _, _, _, _, _, _, h => by unfold fldD at h; cases h
  | g :: fs, d :: ds, [], _, _, e, _, _ => by cases e
  | g :: fs, d :: ds, (g', v) :: gs, f, d', e, r, h => by
    injection e with e1 e2
    obtain ⟨x, rr, e3, r1, r2⟩ := r
    injection e3 with e3 e4
    subst e3 e4
    have e1 : g' = g := e1
    subst e1
    unfold fldD at h
    by_cases q : f = g'
    · rw [if_pos q] at h
      cases h
      subst q
      exact ⟨v, by rw [List.lookup_cons_self], r1⟩
    · rw [if_neg q] at h
      obtain ⟨u, hu, ru⟩ := fld_rep (gs := gs) e2 r2 h
      refine ⟨u, ?_, ru⟩
      rw [List.lookup_cons]
      have : (f == g') = false := beq_eq_false_iff_ne.mpr q
      rw [this]
      exact hu
theorem lookup_noneOf {f : Str} : ∀ {gs : List (Str × V)}, f ∉ gs.map (·.1) → gs.lookup f = none
  | [], _ => rfl
  | (g, v) :: gs, h => by
    simp only [List.map_cons, List.mem_cons, not_or] at h
    rw [List.lookup_cons, show (f == g) = false from beq_eq_false_iff_ne.mpr h.1]
    exact lookup_noneOf h.2
/-- what the written part has of an own class -/
structure ClsD (C : SC) (Cl : Addr) : Prop where
  cls : Cls C.K Cl
theorem we_fld {Cl : Addr} (hc : Cls C.K Cl) (hn : NoAttr C.K Cl f) (h : WE C e ρ μ E fun x μ1 => ∃ fs ds d, x = .d (.ins Cl fs ds) ∧ fldD fs ds f = some d ∧ Q (.d d) μ1) (hb : ∀ env, attributeBase e f env (eval e env) = eval e env := by intro _; rfl) : WE C (.Attribute e f pos) ρ μ E Q := fun X σ H w A =>
  tE_of (pe_fld pe_tE (hb _)) (h.go A fun v H1 x μ1 w1 r1 A1 S1 ⟨fs, ds, d, ex, hf, q⟩ => by
    subst ex
    obtain ⟨a, dx, gs, rfl, nl, e, g, r⟩ := r1
    obtain ⟨u, hu, ru⟩ := fld_rep g r hf
    exact ⟨a, Cl, dx, gs, u, rfl, e, by rw [A.has.K]; exact hc, by rw [A.has.K]; exact hn, hu, .d d, μ1, w1, ru, A1.M, S1, q⟩)
/-- self.f = e: a field that a new instance does not have yet -/
theorem w1_newFld {D : DEnds} {Cl : Addr} {apos : Pos} (hc : Cls C.K Cl) (hn : NoAttr C.K Cl f) (h : WE C e ρ μ E fun y μ1 => WE C o ρ μ1 E fun x μ2 => ∃ n fs xs, x = .l n ∧ μ2[n]? = some (some (.ins Cl fs xs)) ∧ f ∉ fs ∧ fs.length < 1000 ∧ D.nx ρ (μ2.set n (some (.ins Cl (fs ++ [f]) (xs ++ [y])))))
    (hs : ∀ env, swapsWith e (some (.Attribute o f apos)) pos.line env = pure false := by intro _; rfl) : WS1 C (.Assign [.Attribute o f apos] e pos) ρ μ E D := fun X σ H w A =>
  tS1_of (ps_fld pe_tE pe_tE (hs _)) (h.go A fun v1 H1 y μ1 w1 r1 A1 S1 q1 => q1.go A1 fun v2 H2 x μ2 w2 r2 A2 S2 ⟨n, fs, xs, ex, hm, hf, hl, q⟩ => by
    subst ex
    obtain ⟨a, ha, rfl⟩ := r2
    obtain ⟨dx, gs, eg, fe, rg⟩ := A2.M.holds n _ a hm ha
    have ep : ∀ {gs : List (Str × V)}, f ∉ gs.map (·.1) → putF f v1 gs = gs ++ [(f, v1)] := by
      intro gs
      induction gs with
      | nil => intro _; rfl
      | cons g gs ih =>
        intro h
        simp only [List.map_cons, List.mem_cons, not_or] at h
        obtain ⟨g1, g2⟩ := g
        show (if g1 = f then _ else _) = _
        rw [if_neg (fun e => h.1 e.symm), ih h.2]
        rfl
    have ep' := ep (gs := gs) (by rw [fe]; exact hf)
    have k : ∀ b o, b ≠ a → H2 b = some o → upd H2 a (.ins Cl dx (putF f v1 gs)) b = some o := fun b o hb e => by rw [upd_ne hb]; exact e
    have S := Stp.set (mo := some (.ins Cl (fs ++ [f]) (xs ++ [y]))) A2.M hm ha k
    have ry : RepX C.K μ2 H2 w2 y v1 := r1.stp S2
    refine ⟨a, Cl, dx, gs, rfl, eg, by rw [A.has.K]; exact hc, by rw [A.has.K]; exact hn, by rw [← List.length_map (f := (·.1)), fe]; exact hl, ρ, _, w2, A2.R.stp S, MOk.set A2.M hm ha k fun m e => ?_, (S1.trans S2).trans S, q⟩
    cases e
    refine ⟨dx, putF f v1 gs, upd_same, by rw [ep', List.map_append, fe]; rfl, ?_⟩
    have e2 : (putF f v1 gs).map (·.2) = gs.map (·.2) ++ [v1] := by rw [ep', List.map_append]; rfl
    rw [e2]
    exact RepXs.stp S (Paired.snoc ry rg))
/-! ### own methods, own classes called -/
structure MtD (C : SC) (k : Nat) (Cl : Addr) (m : Str) (ps : List Str) (c : Con) : Prop where
  ex : ∃ (f : Addr) (fd : FuncData), FnG C.P C.wd C.K C.mg C.base C.g k f fd ps (toSp C.K c) ∧ Meth C.K Cl m f ∧ Binds C.K fd ps []
  cls : Cls C.K Cl
  wf : c.Wf
structure MkD (C : SC) (k : Nat) (x : Str) (Cl : Addr) (ps : List Str) (c : Con) : Prop where
  ex : ∃ (f : Addr) (fd : FuncData), FnG C.P C.wd C.K C.mg C.base C.g k f fd ps (toSp C.K c) ∧ Mk C.K Cl f ∧ C.mg x = some (.ref Cl) ∧ Binds C.K fd ps []
  wf : c.Wf
theorem MtD.at_ {Cl : Addr} (F : MtD C k Cl m ps c) (h : C.Has X) : ∃ (f : Addr) (fd : FuncData), FnG X.prog X.w X.K X.mg X.base C.g k f fd ps (toSp C.K c) ∧ Meth X.K Cl m f ∧ Binds X.K fd ps [] := by
  obtain ⟨f, fd, h1, h2, h3⟩ := F.ex
  refine ⟨f, fd, ?_, ?_, ?_⟩
  · rw [h.P, h.wd, h.K, h.mg, h.base]; exact h1
  · rw [h.K]; exact h2
  · rw [h.K]; exact h3
theorem MkD.at_ {Cl : Addr} (F : MkD C k x Cl ps c) (h : C.Has X) : ∃ (f : Addr) (fd : FuncData), FnG X.prog X.w X.K X.mg X.base C.g k f fd ps (toSp C.K c) ∧ Mk X.K Cl f ∧ X.mg x = some (.ref Cl) ∧ Binds X.K fd ps [] := by
  obtain ⟨f, fd, h1, h2, h3, h4⟩ := F.ex
  refine ⟨f, fd, ?_, ?_, ?_, ?_⟩
  · rw [h.P, h.wd, h.K, h.mg, h.base]; exact h1
  · rw [h.K]; exact h2
  · rw [h.mg]; exact h3
  · rw [h.K]; exact h4
/-- the text of a plain method call -/
abbrev MethForm (o : Expr) (m : Str) (es : List Expr) (kws : List Keyword) (apos cpos : Pos) (pl : Sem Bool) (env : PySem.Env) : Prop := eval (.Call (.Attribute o m apos) es kws cpos) env = (do
  let ov ← eval o env
  standAt apos.atName
  let (f, first) ← holding [ov] (getMethod ov m pl)
  callWith cpos f first (backTo cpos (starEach es env)) (backToKw cpos (keywordEach kws env)))
theorem we_meth {Cl : Addr} {pl : PySem.Env → Sem Bool} (F : MtD C k Cl m ps c) (hk : k ≤ C.room) (h : WE C o ρ μ E fun x μ1 => ∃ fs ds, x = .d (.ins Cl fs ds) ∧ m ∉ fs ∧ WA C (e :: es) ρ μ1 E fun xs μ2 => Calls c (.d (.ins Cl fs ds) :: xs) μ2 Q fun C2 fl μ3 => E C2 fl ρ μ3)
    (ht : ∀ env, MethForm o m (e :: es) [] apos cpos (pl env) env := by intro _; rfl) (hs : ∀ env, starEach (e :: es) env = (false, eval e env) :: starEach es env := by intro _; rfl) (hpl : ∀ env, (backTo cpos (starEach es env)).any (·.1) = false := by intro _; rfl) :
    WE C (.Call (.Attribute o m apos) (e :: es) [] cpos) ρ μ E Q := fun X σ H w A pins s I => by
  obtain ⟨f, fd, F1, hm, hb⟩ := F.at_ A.has
  have ho : tE X o σ H fun v H1 => ∃ x μ1 w1, RepX C.K μ1 H1 w1 x v ∧ At C X E ρ μ1 σ H1 w1 ∧ Stp μ H w μ1 H1 w1 ∧ ∃ fs ds, x = .d (.ins Cl fs ds) ∧ m ∉ fs ∧ WA C (e :: es) ρ μ1 E fun xs μ2 => Calls c (.d (.ins Cl fs ds) :: xs) μ2 Q fun C2 fl μ3 => E C2 fl ρ μ3 := h.go A fun v H1 x μ1 w1 r1 A1 S1 q => ⟨x, μ1, w1, r1, A1, S1, q⟩
  refine PySem.W.methodCall_KW (pl := pl X.env) (thn (ho pins s I) fun u s1 ⟨v, H1, I1, rx, x, μ1, w1, r1, A1, S1, fs, ds, ex, hf, q⟩ => ?_) (ht X.env)
  subst ex
  obtain ⟨a, dx, gs, rfl, nl, e1, g1, rr⟩ := id r1
  obtain rfl : u = Value.ref a := rx
  refine getmeth_ok I1 e1 (by rw [A.has.K]; exact F.cls) hm (lookup_noneOf (by rw [g1]; exact hf)) ?_
  have ha : tA X (e :: es) σ H1 fun vs H2 => ∃ xs μ2 w2, RepXs C.K μ2 H2 w2 xs vs ∧ At C X E ρ μ2 σ H2 w2 ∧ Stp μ1 H1 w1 μ2 H2 w2 ∧ Calls c (.d (.ins Cl fs ds) :: xs) μ2 Q fun C2 fl μ3 => E C2 fl ρ μ3 := q.go A1 fun vs H2 xs μ2 w2 rs A2 S2 q => ⟨xs, μ2, w2, rs, A2, S2, q⟩
  refine PySem.W.callWith_K (first := [.ref a]) (h₀ := X.base) I.ok.mod.kin hm.kp (thn (ha cpos pins s1 I1) fun us s2 ⟨vs, H2, I2, rv, xs, μ2, w2, rs, A2, S2, q2⟩ => ⟨I2.kIn, ?_⟩) (hs _) (hpl _)
  exact EP_from (S1.trans S2) (run_at A2 F1 hk hb I2 (us := .ref a :: us) (vs := .ref a :: vs) (.cons rfl rv) (Calls.sp F.wf q2 A2.M (.cons (r1.stp S2) rs) (fun v H' h => h) fun Cl fl d H' μ' w' h1 h2 h3 h4 => ⟨Cl, fl, μ', w', rfl, h1, h2, h3, h4⟩))
theorem we_meth0 {Cl : Addr} {pl : PySem.Env → Sem Bool} (F : MtD C k Cl m ps c) (hk : k ≤ C.room) (h : WE C o ρ μ E fun x μ1 => ∃ fs ds, x = .d (.ins Cl fs ds) ∧ m ∉ fs ∧ Calls c [.d (.ins Cl fs ds)] μ1 Q fun C2 fl μ3 => E C2 fl ρ μ3)
    (ht : ∀ env, MethForm o m [] [] apos cpos (pl env) env := by intro _; rfl) : WE C (.Call (.Attribute o m apos) [] [] cpos) ρ μ E Q := fun X σ H w A pins s I => by
  obtain ⟨f, fd, F1, hm, hb⟩ := F.at_ A.has
  have ho : tE X o σ H fun v H1 => ∃ x μ1 w1, RepX C.K μ1 H1 w1 x v ∧ At C X E ρ μ1 σ H1 w1 ∧ Stp μ H w μ1 H1 w1 ∧ ∃ fs ds, x = .d (.ins Cl fs ds) ∧ m ∉ fs ∧ Calls c [.d (.ins Cl fs ds)] μ1 Q fun C2 fl μ3 => E C2 fl ρ μ3 := h.go A fun v H1 x μ1 w1 r1 A1 S1 q => ⟨x, μ1, w1, r1, A1, S1, q⟩
  refine PySem.W.methodCall_KW (pl := pl X.env) (thn (ho pins s I) fun u s1 ⟨v, H1, I1, rx, x, μ1, w1, r1, A1, S1, fs, ds, ex, hf, q⟩ => ?_) (ht X.env)
  subst ex
  obtain ⟨a, dx, gs, rfl, nl, e1, g1, rr⟩ := id r1
  obtain rfl : u = Value.ref a := rx
  refine getmeth_ok I1 e1 (by rw [A.has.K]; exact F.cls) hm (lookup_noneOf (by rw [g1]; exact hf)) ?_
  exact PySem.W.callWith_K0 (first := [.ref a]) I1.kIn hm.kp (EP_from S1 (run_at A1 F1 hk hb I1 (us := [.ref a]) (vs := [.ref a]) (.cons rfl .nil) (Calls.sp F.wf q A1.M (.cons r1 .nil) (fun v H' h => h) fun Cl fl d H' μ' w' h1 h2 h3 h4 => ⟨Cl, fl, μ', w', rfl, h1, h2, h3, h4⟩)))
end
end DL
set_option maxRecDepth 100000
set_option maxHeartbeats 2000000
namespace DL
open PySem L2 PySem.Spec
/-! ### keywords -/
def perm {α : Type} (ix : List Nat) (us ws : List α) : List α := ix.filterMap fun i => (us ++ ws)[i]?
theorem perm_pairs {α β : Type} {R : α → β → Prop} {xs : List α} {ys : List β} (h : Paired R xs ys) : ∀ ix : List Nat, Paired R (ix.filterMap fun i => xs[i]?) (ix.filterMap fun i => ys[i]?)
  | [] => .nil
  | i :: ix => by
    rw [List.filterMap_cons, List.filterMap_cons]
    cases e : xs[i]? with
    | none =>
      have : ys[i]? = none := by
        rw [List.getElem?_eq_none_iff] at e ⊢
        rw [← h.length]
        exact e
      rw [this]
      exact perm_pairs h ix
    | some x =>
      obtain ⟨y, hy, r⟩ := paired_get h e
      rw [hy]
      exact .cons r (perm_pairs h ix)
theorem perm_rel {α β : Type} {R : α → β → Prop} {xs zs : List α} {ys us : List β} (h : Paired R xs ys) (k : Paired R zs us) (ix : List Nat) : Paired R (perm ix xs zs) (perm ix ys us) := perm_pairs (Paired.app h k) ix
theorem kbn_of {K : PySem.W.Frag} {fd : FuncData} {ps ks : List Str} {n : Nat} {ix : List Nat} (h : ∀ us ws : List Value, us.length = n → ws.length = ks.length → bindArgs fd ⟨us, ks.zip ws⟩ = pure (ps.zip (perm ix us ws))) : KBn K fd ps n ks (perm ix) (perm ix) :=
  ⟨fun s us ws _ l1 l2 => .of_eq (h us ws l1 l2), fun r1 r2 => perm_rel r1 r2 ix⟩
def tK (X : Cx) (kws : List Keyword) : TA := fun σ H Q => ∀ pos pins s, Inv X pins σ H s → wpAny (model X.prog X.w) X.A (evalAll ((backToKw pos (keywordEach kws X.env)).map (·.2))) (AP X pins σ Q) X.xe s
theorem pk_tK {X : Cx} {kws : List Keyword} : PK X kws (tK X kws) := ⟨fun pos pins s _ _ _ I h => h pos pins s I⟩
theorem tK_of {X : Cx} {kws : List Keyword} {t : TA} (h : PK X kws t) {σ : L2.St} {H : Hp} {Q : List V → Hp → Prop} (q : t σ H Q) : tK X kws σ H Q := fun pos pins s I => h.run pos pins s σ H Q I q
theorem tK_mono {X : Cx} {kws : List Keyword} {σ : L2.St} {H : Hp} {Q Q' : List V → Hp → Prop} (h : tK X kws σ H Q) (k : ∀ vs H', Q vs H' → Q' vs H') : tK X kws σ H Q' := fun pos pins s I =>
  thn (h pos pins s I) fun _ _ ⟨vs, H', I', r, q⟩ => ⟨vs, H', I', r, k vs H' q⟩
def WK (C : SC) (kws : List Keyword) (ρ : Env) (μ : Mem) (E : EPost) (Q : List XV → Mem → Prop) : Prop := ∀ X σ H w, At C X E ρ μ σ H w → tK X kws σ H (liftA C.K Q μ H w)
section
variable {C : SC} {X : Cx} {E : EPost} {ρ : Env} {μ μ' : Mem} {σ : L2.St} {H H' : Hp} {w w' : IA} {e o : Expr} {es : List Expr} {kws : List Keyword} {Q : XV → Mem → Prop} {QA : List XV → Mem → Prop} {nm : Option Str} {p pos kpos apos cpos : Pos} {x m : Str} {k n : Nat} {ps ks : List Str} {c : Con} {ix : List Nat} {Cl : Addr}
theorem WK.go (h : WK C kws ρ μ E QA) (A : At C X E ρ μ σ H w) {P : List V → Hp → Prop} (f : ∀ vs H1 xs μ1 w1, RepXs C.K μ1 H1 w1 xs vs → At C X E ρ μ1 σ H1 w1 → Stp μ H w μ1 H1 w1 → QA xs μ1 → P vs H1) : tK X kws σ H P :=
  tK_mono (h X σ H w A) fun v H1 ⟨x, μ1, w1, r, M, S, q⟩ => f v H1 x μ1 w1 r (A.step S M) S q
theorem wk_nil (q : QA [] μ) : WK C [] ρ μ E QA := fun X σ H w A => tK_of pk_nil ⟨[], μ, w, .nil, A.M, Stp.refl, q⟩
theorem wk_cons (h : WE C e ρ μ E fun x μ1 => WK C kws ρ μ1 E fun xs μ2 => QA (x :: xs) μ2) : WK C (⟨nm, e, kpos⟩ :: kws) ρ μ E QA := fun X σ H w A =>
  tK_of (pk_cons pe_tE pk_tK) (h.go A fun v H1 x μ1 w1 r A1 S1 h1 => h1.go A1 fun vs H2 xs μ2 w2 rs A2 S2 q => ⟨x :: xs, μ2, w2, .cons (r.stp S2) rs, A2.M, S1.trans S2, q⟩)
/-- how keywords come to parameters: n values by place, these names, in this order -/
structure FnK (C : SC) (k : Nat) (x : Str) (ps : List Str) (c : Con) (n : Nat) (ks : List Str) (ix : List Nat) : Prop where
  ex : ∃ (f : Addr) (fd : FuncData), FnG C.P C.wd C.K C.mg C.base C.g k f fd ps (toSp C.K c) ∧ C.mg x = some (.ref f) ∧ PySem.W.keepIn C.K (.ref f) = true ∧ KBn C.K fd ps n ks (perm ix) (perm ix)
  wf : c.Wf
structure MtK (C : SC) (k : Nat) (Cl : Addr) (m : Str) (ps : List Str) (c : Con) (n : Nat) (ks : List Str) (ix : List Nat) : Prop where
  ex : ∃ (f : Addr) (fd : FuncData), FnG C.P C.wd C.K C.mg C.base C.g k f fd ps (toSp C.K c) ∧ Meth C.K Cl m f ∧ KBn C.K fd ps n ks (perm ix) (perm ix)
  cls : Cls C.K Cl
  wf : c.Wf
structure MkK (C : SC) (k : Nat) (x : Str) (Cl : Addr) (ps : List Str) (c : Con) (n : Nat) (ks : List Str) (ix : List Nat) : Prop where
  ex : ∃ (f : Addr) (fd : FuncData), FnG C.P C.wd C.K C.mg C.base C.g k f fd ps (toSp C.K c) ∧ Mk C.K Cl f ∧ C.mg x = some (.ref Cl) ∧ KBn C.K fd ps (n + 1) ks (perm (0 :: ix.map (· + 1))) (perm (0 :: ix.map (· + 1)))
  wf : c.Wf
theorem FnK.at_ (F : FnK C k x ps c n ks ix) (h : C.Has X) : ∃ (f : Addr) (fd : FuncData), FnG X.prog X.w X.K X.mg X.base C.g k f fd ps (toSp C.K c) ∧ X.mg x = some (.ref f) ∧ PySem.W.keepIn X.K (.ref f) = true ∧ KBn X.K fd ps n ks (perm ix) (perm ix) := by
  rw [h.P, h.wd, h.K, h.mg, h.base]
  exact F.ex
theorem MtK.at_ (F : MtK C k Cl m ps c n ks ix) (h : C.Has X) : ∃ (f : Addr) (fd : FuncData), FnG X.prog X.w X.K X.mg X.base C.g k f fd ps (toSp C.K c) ∧ Meth X.K Cl m f ∧ KBn X.K fd ps n ks (perm ix) (perm ix) := by
  rw [h.P, h.wd, h.K, h.mg, h.base]
  exact F.ex
theorem MkK.at_ (F : MkK C k x Cl ps c n ks ix) (h : C.Has X) : ∃ (f : Addr) (fd : FuncData), FnG X.prog X.w X.K X.mg X.base C.g k f fd ps (toSp C.K c) ∧ Mk X.K Cl f ∧ X.mg x = some (.ref Cl) ∧ KBn X.K fd ps (n + 1) ks (perm (0 :: ix.map (· + 1))) (perm (0 :: ix.map (· + 1))) := by
  rw [h.P, h.wd, h.K, h.mg, h.base]
  exact F.ex
theorem run_atK {f : Addr} {fd : FuncData} {pins : List (Addr × Obj)} {s : Shared} {Qv : VK} {us ws : List Value} {vs zs : List V} {sp : Sp} (A : At C X E ρ μ σ H w) (F : FnG X.prog X.w X.K X.mg X.base C.g k f fd ps sp) (hk : k ≤ C.room) (hb : KBn X.K fd ps n ks (perm ix) (perm ix))
    (I : Inv X pins σ H s) (r : Vals vs us) (rz : Vals zs ws) (l1 : vs.length = n) (l2 : zs.length = ks.length) (h : sp (perm ix vs zs) H Qv (xkOf C.K E ρ μ H w)) : wpAny (model X.prog X.w) X.A (call (.ref f) us (ks.zip ws)) (EP X pins σ Qv) X.xe s := by
  have b := hb.to s us ws I.kIn (r.length.symm.trans l1) (rz.length.symm.trans l2)
  refine PySem.wpAny_call (PySem.codeAny_mono (F.run X.A X.stack s H ⟨us, ks.zip ws⟩ (perm ix us ws) (perm ix vs zs) Qv (xkOf C.K E ρ μ H w) A.has.gd (A.has.room.mono hk) I.env0 b (perm_rel r rz ix) h) fun r s' hq => ?_)
  cases r with
  | error e => exact passes_at A I hq
  | ok fl =>
    cases fl with
    | ret u => exact I.after hq
    | next => exact False.elim hq
    | brk => exact False.elim hq
    | cont => exact False.elim hq
abbrev KwAll (kws : List Keyword) (pos : Pos) (ks : List Str) : Prop := ∀ env, (backToKw pos (keywordEach kws env)).all (·.1.isSome) = true ∧ (backToKw pos (keywordEach kws env)).filterMap (·.1) = ks ∧ (backToKw pos (keywordEach kws env)).any (·.1.isNone) = false
/-- f(k = v, ..) -/
theorem we_callK0 (F : FnK C k x ps c 0 ks ix) (hk : k ≤ C.room) (hg : C.Glob x) (h : WK C kws ρ μ E fun zs μ1 => zs.length = ks.length ∧ Calls c (perm ix [] zs) μ1 Q fun Cl fl μ2 => E Cl fl ρ μ2) (hdb : (x == ("__debug__" : Str)) = false := by decide)
    (hall : KwAll kws pos ks := by intro _; exact ⟨rfl, rfl, rfl⟩) : WE C (.Call (.Name x p) [] kws pos) ρ μ E Q := fun X σ H w A pins s I => by
  obtain ⟨f, fd, F1, hm, kp, hb⟩ := F.at_ A.has
  refine wpAny_Call_Name_kw (ld_glob I (by show X.env.scope.names.lookup x = _; rw [A.has.sc]; exact hg) hm ?_ hdb)
  obtain ⟨k1, k2, k3⟩ := hall X.env
  have hz : tK X kws σ H fun vs H1 => ∃ xs μ1 w1, RepXs C.K μ1 H1 w1 xs vs ∧ At C X E ρ μ1 σ H1 w1 ∧ Stp μ H w μ1 H1 w1 ∧ xs.length = ks.length ∧ Calls c (perm ix [] xs) μ1 Q fun Cl fl μ2 => E Cl fl ρ μ2 := h.go A fun vs H1 xs μ1 w1 rs A1 S1 q => ⟨xs, μ1, w1, rs, A1, S1, q⟩
  refine PySem.W.callWith_KW0 (h₀ := X.base) I.ok.mod.kin kp k1 (thn (hz pos pins s I) fun ws s1 ⟨zs, H1, I1, rz, xs, μ1, w1, rs, A1, S1, l1, q⟩ => ⟨I1.kIn, ?_⟩) (by rw [k3]; rfl)
  rw [k2]
  exact EP_from S1 (run_atK A1 F1 hk hb I1 .nil rz rfl (rs.length.symm.trans l1) (Calls.sp F.wf q A1.M (perm_rel .nil rs ix) (fun v H' h => h) fun Cl fl d H' μ' w' h1 h2 h3 h4 => ⟨Cl, fl, μ', w', rfl, h1, h2, h3, h4⟩))
/-- f(e, .., k = v, ..) -/
theorem we_callK (F : FnK C k x ps c n ks ix) (hk : k ≤ C.room) (hg : C.Glob x) (h : WA C (e :: es) ρ μ E fun xs μ0 => WK C kws ρ μ0 E fun zs μ1 => xs.length = n ∧ zs.length = ks.length ∧ Calls c (perm ix xs zs) μ1 Q fun Cl fl μ2 => E Cl fl ρ μ2) (hdb : (x == ("__debug__" : Str)) = false := by decide)
    (hall : KwAll kws pos ks := by intro _; exact ⟨rfl, rfl, rfl⟩) (he : ∀ env, starEach (e :: es) env = (false, eval e env) :: starEach es env := by intro _; rfl) (hpl : ∀ env, (backTo pos (starEach (e :: es) env)).any (·.1) = false := by intro _; rfl) :
    WE C (.Call (.Name x p) (e :: es) kws pos) ρ μ E Q := fun X σ H w A pins s I => by
  obtain ⟨f, fd, F1, hm, kp, hb⟩ := F.at_ A.has
  refine wpAny_Call_Name_kw (ld_glob I (by show X.env.scope.names.lookup x = _; rw [A.has.sc]; exact hg) hm ?_ hdb)
  obtain ⟨k1, k2, k3⟩ := hall X.env
  have ha : tA X (e :: es) σ H fun vs H1 => ∃ xs μ1 w1, RepXs C.K μ1 H1 w1 xs vs ∧ At C X E ρ μ1 σ H1 w1 ∧ Stp μ H w μ1 H1 w1 ∧ WK C kws ρ μ1 E fun zs μ1 => xs.length = n ∧ zs.length = ks.length ∧ Calls c (perm ix xs zs) μ1 Q fun Cl fl μ2 => E Cl fl ρ μ2 :=
    h.go A fun vs H1 xs μ1 w1 rs A1 S1 q => ⟨xs, μ1, w1, rs, A1, S1, q⟩
  refine PySem.W.callWith_KW (h₀ := X.base) I.ok.mod.kin kp k1 (thn (ha pos pins s I) fun us s1 ⟨vs, H1, I1, r, xs, μ1, w1, rs, A1, S1, q⟩ => ?_) (by rw [hpl, k3]; rfl) (he _)
  have hz : tK X kws σ H1 fun zs H2 => ∃ ys μ2 w2, RepXs C.K μ2 H2 w2 ys zs ∧ At C X E ρ μ2 σ H2 w2 ∧ Stp μ1 H1 w1 μ2 H2 w2 ∧ xs.length = n ∧ ys.length = ks.length ∧ Calls c (perm ix xs ys) μ2 Q fun Cl fl μ2 => E Cl fl ρ μ2 := q.go A1 fun zs H2 ys μ2 w2 rs A2 S2 q => ⟨ys, μ2, w2, rs, A2, S2, q⟩
  refine thn (hz pos pins s1 I1) fun ws s2 ⟨zs, H2, I2, rz, ys, μ2, w2, rs2, A2, S2, l1, l2, q2⟩ => ⟨I2.kIn, ?_⟩
  rw [k2]
  exact EP_from (S1.trans S2) (run_atK A2 F1 hk hb I2 r rz (rs.length.symm.trans l1) (rs2.length.symm.trans l2) (Calls.sp F.wf q2 A2.M (perm_rel (RepXs.stp S2 rs) rs2 ix) (fun v H' h => h) fun Cl fl d H' μ' w' h1 h2 h3 h4 => ⟨Cl, fl, μ', w', rfl, h1, h2, h3, h4⟩))
/-! ### new instances -/
/-- C(..): the __init__ of the contract c writes the new instance, then it is data -/
def MakeG (c : Con) (Cl : Addr) (xs : List XV) (μ : Mem) (Q : XV → Mem → Prop) (E : Addr → List (Str × D) → Mem → Prop) : Prop :=
  ∃ ds, allD xs = some ds ∧ ∃ a : c.α, c.pre a ∧ c.mem a = [some (.ins Cl [] [])] ∧ c.args a = .l 0 :: ds.map XV.d ∧
    ∀ o, c.out a o → match o with
    | .ret z μ' => z = .d .non ∧ ∃ fs es, μ' = [some (.ins Cl fs (es.map XV.d))] ∧ Q (.d (.ins Cl fs es)) μ
    | .exc C2 fl _ => E C2 fl μ
theorem MakeG.sp {K : PySem.W.Frag} {xs : List XV} {EX : Addr → List (Str × D) → Mem → Prop} {vs : List V} (h : MakeG c Cl xs μ Q EX) (M : MOk K μ H w) (rs : RepXs K μ H w xs vs) {Qv : VK} {Ev : XK} (k1 : ∀ v H', lift K Q μ H w v H' → Qv v H')
    (k2 : ∀ C2 fl d H' μ' w', XRep K μ' H' w' d fl → MOk K μ' H' w' → Stp μ H w μ' H' w' → EX C2 fl μ' → Ev (.ref C2) d H') {a dx : Addr} (ha : H a = none) (hdx : H dx = none) (hne : dx ≠ a) :
    toSp K c (.ref a :: vs) (upd (upd H dx (.own a)) a (.ins Cl dx [])) (fun v H2 => v = .non ∧ Qv (.ref a) H2) Ev := by
  obtain ⟨ds, e, b, hp, hm, hargs, hout⟩ := h
  rw [allD_eq e] at rs
  have rr := RepXs.reps rs
  let wc : IA := ⟨[a], Live μ w⟩
  let H1 : Hp := upd (upd H dx (.own a)) a (.ins Cl dx [])
  let μc : Mem := [some (.ins Cl [] [])]
  have na : ¬ Live μ w a := fun l => M.no_live ha l
  have up : ∀ b o, H b = some o → H1 b = some o := fun b o hb => by
    show upd (upd H dx _) a _ b = _
    rw [upd_ne (ne_of_none hb ha), upd_ne (ne_of_none hb hdx)]
    exact hb
  have lc : ∀ b, Live μc wc b ↔ (Live μ w b ∨ b = a) := fun b => by
    constructor
    · rintro (f | ⟨n, m, e1, e2⟩)
      · exact .inl f
      · have : n < 1 := (List.getElem?_eq_some_iff.mp e2).1
        obtain rfl : n = 0 := by omega
        cases e2
        exact .inr rfl
    · rintro (l | rfl)
      · exact .inl l
      · exact .inr ⟨0, _, rfl, rfl⟩
  have kp : ∀ b o, H b = some o → ¬ Live μ w b → H1 b = some o ∧ ¬ Live μc wc b := fun b o hb nl => ⟨up b o hb, fun q => ((lc b).mp q).elim nl fun e => ne_of_none hb ha e⟩
  have Mc : MOk K μc H1 wc := by
    refine ⟨rfl, fun i j mi mj c e1 e2 e3 e4 => ?_, fun n m c e1 e2 => ?_, fun n m c e1 e2 f => ?_, fun c f => ?_⟩
    · have h1 : i < 1 := (List.getElem?_eq_some_iff.mp e1).1
      have h2 : j < 1 := (List.getElem?_eq_some_iff.mp e2).1
      omega
    · have h1 : n < 1 := (List.getElem?_eq_some_iff.mp e1).1
      obtain rfl : n = 0 := by omega
      cases e1
      cases e2
      exact ⟨dx, [], upd_same, rfl, .nil⟩
    · have h1 : n < 1 := (List.getElem?_eq_some_iff.mp e1).1
      obtain rfl : n = 0 := by omega
      cases e2
      exact na f
    · obtain ⟨o, ho⟩ := M.live_there f
      exact ⟨o, up c o ho⟩
  -- behind the run: all as it was, and the new one
  have back : ∀ {μ' : Mem} {H2 : Hp} {w1 : IA}, Stp μc H1 wc μ' H2 w1 → (∀ b, Live μ w b → Live μ' w1 b) ∧ Stp μ H w μ H2 w ∧ MOk K μ H2 w := fun {μ' H2 w1} S => by
    have lv : ∀ b, Live μ w b → Live μ' w1 b := fun b l => .inl (by rw [S.sF]; exact l)
    have S' : Stp μ H w μ H2 w := by
      refine ⟨fun b o hb nl => ?_, fun _ _ h => h, rfl, fun b o f hb => S.frm b o (.inl f) (up b o hb)⟩
      obtain ⟨q1, q2⟩ := kp b o hb nl
      exact ⟨(S.keep b o q1 q2).1, nl⟩
    refine ⟨lv, S', M.len, M.inj, fun n m c e1 e2 => ?_, M.nF, fun c f => ?_⟩
    · exact Holds.stp S' (fun o hb => S.frm c o (.inr ⟨n, m, e1, e2⟩) (up c o hb)) (M.holds n m c e1 e2)
    · obtain ⟨o, ho⟩ := M.fr c f
      exact ⟨o, S.frm c o (.inl f) (up c o ho)⟩
  refine ⟨b, wc, hp, ?_, ?_, fun z μ' eo v H2 w1 rz M2 S2 => ?_, fun C2 fl μ' eo d H2 w1 rx M2 S2 => ?_⟩
  · rw [hm, hargs]
    exact .cons ⟨a, rfl, rfl⟩ (Reps.xs (Reps.mono kp _ _ rr))
  · rw [hm]; exact Mc
  · rw [hm] at S2
    obtain ⟨rfl, fs, es, rfl, q⟩ := hout _ eo
    obtain ⟨lv, S', M'⟩ := back S2
    refine ⟨rz, k1 _ _ ⟨.d (.ins Cl fs es), μ, w, ?_, M', S', q⟩⟩
    have hι : w1.ι[0]? = some a := S2.num 0 a rfl
    obtain ⟨dx2, gs, e1, e2, e3⟩ := M2.holds 0 _ a rfl hι
    exact ⟨a, dx2, gs, rfl, na, e1, e2, Reps.mono (fun b o hb nl => ⟨hb, fun l => nl (lv b l)⟩) _ _ (RepXs.reps e3)⟩
  · rw [hm] at S2
    have hout := hout _ eo
    obtain ⟨lv, S', M'⟩ := back S2
    refine k2 C2 fl d H2 μ w ?_ M' S' hout
    cases d with
    | none => exact rx
    | some u =>
      obtain ⟨nl, gs, e1, e2, e3⟩ := rx
      exact ⟨fun q => nl (lv u q), gs, e1, e2, Reps.mono (fun b o hb nl => ⟨hb, fun l => nl (lv b l)⟩) _ _ e3⟩
theorem gd_make {A : Around} {us : List Value} {kw : List (Str × Value)} (h : A.guards = some []) : (A.under (.builtin "type.__call__" ⟨.ref Cl :: us, kw⟩)).guards = some [] := by
  show pushGuards (Code.guards (.builtin "type.__call__" ⟨.ref Cl :: us, kw⟩)) A.guards = some []
  rw [h]
  have : Code.isGuard (.builtin "type.__call__" ⟨.ref Cl :: us, kw⟩) = false := by show guardIds.contains "type.__call__" = false; decide
  unfold Code.guards
  rw [this]
  rfl
theorem run_mk {f : Addr} {fd : FuncData} {pins : List (Addr × Obj)} {s : Shared} {Qv : VK} {us us2 : List Value} {vs : List V} {kw : List (Str × Value)} {sp : Sp} (A : At C X E ρ μ σ H w) (MK : Mk X.K Cl f) (F : FnG X.prog X.w X.K X.mg X.base C.g k f fd ps sp) (hk : k + 1 ≤ C.room)
    (hb : ∀ (s : Shared) (u : Value), X.K.In s.heap → BindsTo s fd ⟨u :: us, kw⟩ (ps.zip (u :: us2))) (I : Inv X pins σ H s) (r : Vals vs us2)
    (h : ∀ a dx, H a = none → H dx = none → dx ≠ a → sp (.ref a :: vs) (upd (upd H dx (.own a)) a (.ins Cl dx [])) (fun v H2 => v = .non ∧ Qv (.ref a) H2) (xkOf C.K E ρ μ H w))
    (hx : ∀ {a dx : Addr} {u : Value} {s1 s' : Shared}, Inv X pins σ (upd (upd H dx (.own a)) a (.ins Cl dx [])) s1 → L2.CX X.prog X.w X.stack (upd (upd H dx (.own a)) a (.ins Cl dx [])) s1 (xkOf C.K E ρ μ H w) u s' → X.xe u s') :
    wpAny (model X.prog X.w) X.A (call (.ref Cl) us kw) (EP X pins σ Qv) X.xe s := by
  have q := h (s.heap.objs.size + 1) s.heap.objs.size (I.hok.fresh (Nat.le_succ _)) (I.hok.fresh (Nat.le_refl _)) (Nat.ne_of_lt (Nat.lt_succ_self _))
  have J := Inv.made (C := Cl) I
  have rm : Room (k + 1) X.A := A.has.room.mono hk
  have rv : Vals (V.ref (s.heap.objs.size + 1) :: vs) (Value.ref (s.heap.objs.size + 1) :: us2) := .cons rfl r
  refine PySem.wpAny_call (make_map (f := f) I.kIn MK.makes MK.init (beq_iff_eq.mp MK.fn) (PySem.codeAny_mono (F.run _ X.stack _ _ ⟨.ref (s.heap.objs.size + 1) :: us, kw⟩ (.ref (s.heap.objs.size + 1) :: us2) _ _ (xkOf C.K E ρ μ H w) (fun q => gd_make (A.has.gd q)) (rm.make Cl us kw)
    (J.env0.make Cl us kw) (hb _ _ J.kIn) rv q) fun r s' hq => ?_))
  cases r with
  | error e => exact hx J hq
  | ok fl =>
    cases fl with
    | ret u =>
      obtain ⟨v, H', I3, rv, ev, q3⟩ := J.after hq
      subst ev
      exact ⟨rv, V.ref (s.heap.objs.size + 1), H', I3, rfl, q3⟩
    | next => exact False.elim hq
    | brk => exact False.elim hq
    | cont => exact False.elim hq
theorem xe_at (A : At C X E ρ μ σ H w) {pins : List (Addr × Obj)} {H1 : Hp} {s : Shared} {u : Value} {s' : Shared} (I : Inv X pins σ H1 s) (h : L2.CX X.prog X.w X.stack H1 s (xkOf C.K E ρ μ H w) u s') : X.xe u s' := passes_at A I h
theorem we_make (F : MkD C k x Cl ps c) (hk : k + 1 ≤ C.room) (hg : C.Glob x) (hl : ps.length = (e :: es).length + 1) (h : WA C (e :: es) ρ μ E fun xs μ1 => xs.length = (e :: es).length ∧ MakeG c Cl xs μ1 Q fun C2 fl μ2 => E C2 fl ρ μ2) (hdb : (x == ("__debug__" : Str)) = false := by decide)
    (he : ∀ env, starEach (e :: es) env = (false, eval e env) :: starEach es env := by intro _; rfl) (hpl : ∀ env, (backTo pos (starEach es env)).any (·.1) = false := by intro _; rfl) : WE C (.Call (.Name x p) (e :: es) [] pos) ρ μ E Q := fun X σ H w A pins s I => by
  obtain ⟨f, fd, F1, MK, hm, hb⟩ := F.at_ A.has
  refine wpAny_Call_Name_kw (ld_glob I (by show X.env.scope.names.lookup x = _; rw [A.has.sc]; exact hg) hm ?_ hdb)
  have ha : tA X (e :: es) σ H fun vs H1 => ∃ xs μ1 w1, RepXs C.K μ1 H1 w1 xs vs ∧ At C X E ρ μ1 σ H1 w1 ∧ Stp μ H w μ1 H1 w1 ∧ xs.length = (e :: es).length ∧ MakeG c Cl xs μ1 Q fun Cl fl μ2 => E Cl fl ρ μ2 := h.go A fun vs H1 xs μ1 w1 rs A1 S1 q => ⟨xs, μ1, w1, rs, A1, S1, q⟩
  refine PySem.W.callWith_K (h₀ := X.base) I.ok.mod.kin MK.kp (thn (ha pos pins s I) fun us s1 ⟨vs, H1, I1, r, xs, μ1, w1, rs, A1, S1, l1, q⟩ => ⟨I1.kIn, ?_⟩) (he _) (hpl _)
  have l2 : us.length = (e :: es).length := by rw [← r.length, ← rs.length]; exact l1
  refine EP_from S1 (run_mk A1 MK F1 hk (us2 := us) (fun s u ki => ?_) I1 r (fun a dx h1 h2 h3 => MakeG.sp q A1.M rs (fun v H' h => h) (fun Cl fl d H' μ' w' h1 h2 h3 h4 => ⟨Cl, fl, μ', w', rfl, h1, h2, h3, h4⟩) h1 h2 h3) (fun J hq => xe_at A1 J hq))
  have b := hb s (u :: us) ki (by rw [List.append_nil, List.length_cons, l2, hl])
  rw [List.append_nil] at b
  exact b
theorem perm_self {α : Type} (ix : List Nat) (u : α) (us ws : List α) : perm (0 :: ix.map (· + 1)) (u :: us) ws = u :: perm ix us ws := by
  unfold perm
  rw [List.filterMap_cons]
  show u :: _ = _
  rw [List.filterMap_map]
  rfl
/-- C(k = v, ..) -/
theorem we_makeK0 (F : MkK C k x Cl ps c 0 ks ix) (hk : k + 1 ≤ C.room) (hg : C.Glob x) (h : WK C kws ρ μ E fun zs μ1 => zs.length = ks.length ∧ MakeG c Cl (perm ix [] zs) μ1 Q fun Cl fl μ2 => E Cl fl ρ μ2) (hdb : (x == ("__debug__" : Str)) = false := by decide)
    (hall : KwAll kws pos ks := by intro _; exact ⟨rfl, rfl, rfl⟩) : WE C (.Call (.Name x p) [] kws pos) ρ μ E Q := fun X σ H w A pins s I => by
  obtain ⟨f, fd, F1, MK, hm, hb⟩ := F.at_ A.has
  refine wpAny_Call_Name_kw (ld_glob I (by show X.env.scope.names.lookup x = _; rw [A.has.sc]; exact hg) hm ?_ hdb)
  obtain ⟨k1, k2, k3⟩ := hall X.env
  have hz : tK X kws σ H fun vs H1 => ∃ xs μ1 w1, RepXs C.K μ1 H1 w1 xs vs ∧ At C X E ρ μ1 σ H1 w1 ∧ Stp μ H w μ1 H1 w1 ∧ xs.length = ks.length ∧ MakeG c Cl (perm ix [] xs) μ1 Q fun Cl fl μ2 => E Cl fl ρ μ2 := h.go A fun vs H1 xs μ1 w1 rs A1 S1 q => ⟨xs, μ1, w1, rs, A1, S1, q⟩
  refine PySem.W.callWith_KW0 (h₀ := X.base) I.ok.mod.kin MK.kp k1 (thn (hz pos pins s I) fun ws s1 ⟨zs, H1, I1, rz, xs, μ1, w1, rs, A1, S1, l1, q⟩ => ⟨I1.kIn, ?_⟩) (by rw [k3]; rfl)
  rw [k2]
  have l2 : ws.length = ks.length := by rw [← rz.length, ← rs.length]; exact l1
  refine EP_from S1 (run_mk A1 MK F1 hk (us2 := perm ix [] ws) (fun s u ki => ?_) I1 (perm_rel .nil rz ix) (fun a dx h1 h2 h3 => MakeG.sp q A1.M (perm_rel .nil rs ix) (fun v H' h => h) (fun Cl fl d H' μ' w' h1 h2 h3 h4 => ⟨Cl, fl, μ', w', rfl, h1, h2, h3, h4⟩) h1 h2 h3) (fun J hq => xe_at A1 J hq))
  have b := hb.to s [u] ws ki rfl l2
  rw [perm_self] at b
  exact b
/-- o.m(k = v, ..) -/
theorem we_methK0 {pl : PySem.Env → Sem Bool} (F : MtK C k Cl m ps c 1 ks (0 :: ix.map (· + 1))) (hk : k ≤ C.room) (h : WE C o ρ μ E fun x μ1 => ∃ fs ds, x = .d (.ins Cl fs ds) ∧ m ∉ fs ∧ WK C kws ρ μ1 E fun zs μ2 => zs.length = ks.length ∧ Calls c (.d (.ins Cl fs ds) :: perm ix [] zs) μ2 Q fun C2 fl μ3 => E C2 fl ρ μ3)
    (hall : KwAll kws cpos ks := by intro _; exact ⟨rfl, rfl, rfl⟩) (ht : ∀ env, MethForm o m [] kws apos cpos (pl env) env := by intro _; rfl) : WE C (.Call (.Attribute o m apos) [] kws cpos) ρ μ E Q := fun X σ H w A pins s I => by
  obtain ⟨f, fd, F1, hm, hb⟩ := F.at_ A.has
  have ho : tE X o σ H fun v H1 => ∃ x μ1 w1, RepX C.K μ1 H1 w1 x v ∧ At C X E ρ μ1 σ H1 w1 ∧ Stp μ H w μ1 H1 w1 ∧ ∃ fs ds, x = .d (.ins Cl fs ds) ∧ m ∉ fs ∧ WK C kws ρ μ1 E fun zs μ2 => zs.length = ks.length ∧ Calls c (.d (.ins Cl fs ds) :: perm ix [] zs) μ2 Q fun C2 fl μ3 => E C2 fl ρ μ3 := h.go A fun v H1 x μ1 w1 r1 A1 S1 q => ⟨x, μ1, w1, r1, A1, S1, q⟩
  refine PySem.W.methodCall_KW (pl := pl X.env) (thn (ho pins s I) fun u s1 ⟨v, H1, I1, rx, x, μ1, w1, r1, A1, S1, fs, ds, ex, hf, q⟩ => ?_) (ht X.env)
  subst ex
  obtain ⟨a, dx, gs, rfl, nl, e1, g1, rr⟩ := id r1
  obtain rfl : u = Value.ref a := rx
  refine getmeth_ok I1 e1 (by rw [A.has.K]; exact F.cls) hm (lookup_noneOf (by rw [g1]; exact hf)) ?_
  obtain ⟨k1, k2, k3⟩ := hall X.env
  have hz : tK X kws σ H1 fun vs H2 => ∃ xs μ2 w2, RepXs C.K μ2 H2 w2 xs vs ∧ At C X E ρ μ2 σ H2 w2 ∧ Stp μ1 H1 w1 μ2 H2 w2 ∧ xs.length = ks.length ∧ Calls c (.d (.ins Cl fs ds) :: perm ix [] xs) μ2 Q fun C2 fl μ3 => E C2 fl ρ μ3 := q.go A1 fun vs H2 xs μ2 w2 rs A2 S2 q => ⟨xs, μ2, w2, rs, A2, S2, q⟩
  refine PySem.W.callWith_KW0 (first := [.ref a]) (h₀ := X.base) I.ok.mod.kin hm.kp k1 (thn (hz cpos pins s1 I1) fun ws s2 ⟨zs, H2, I2, rz, xs, μ2, w2, rs, A2, S2, l1, q2⟩ => ⟨I2.kIn, ?_⟩) (by rw [k3]; rfl)
  rw [k2]
  refine EP_from (S1.trans S2) (run_atK (us := [.ref a]) (vs := [.ref a]) A2 F1 hk hb I2 (.cons rfl .nil) rz rfl (rs.length.symm.trans l1) ?_)
  rw [perm_self]
  exact Calls.sp F.wf q2 A2.M (.cons (r1.stp S2) (perm_rel .nil rs ix)) (fun v H' h => h) fun Cl fl d H' μ' w' h1 h2 h3 h4 => ⟨Cl, fl, μ', w', rfl, h1, h2, h3, h4⟩
end
/-! ### isinstance -/
section
variable {C : SC} {E : EPost} {ρ : Env} {μ : Mem} {Q : XV → Mem → Prop} {x : Str} {pos : Pos}
theorem we_bty {T : String} (hg : C.Glob x) (hm : C.mg x = none) (hv : bootBuiltins x = some (.type T)) (q : Q (.d (.ty T)) μ) (hn : x ≠ "__name__" := by decide) (hd : (x == ("__debug__" : Str)) = false := by decide) : WE C (.Name x pos) ρ μ E Q := fun X σ H w A =>
  tE_of (pe_bltn (v := .ty T) (by show X.env.scope.names.lookup x = _; rw [A.has.sc]; exact hg) (by rw [A.has.mg]; exact hm) hv rfl hn hd) (lift.now A.M (x := .d (.ty T)) rfl q)
/-- an own class, as isinstance takes it -/
structure IsiC (K : PySem.W.Frag) (Cl : Addr) : Prop where
  cl : Cls K Cl
  ha : PySem.W.findIn K (.ref Cl) "__class__" = some (some (.builtin "object.__class__"))
  hn : PySem.W.specialIn K (.builtin "object.__class__") "__get__" = some (some (.builtin "getset_descriptor.__get__"))
  htk : PySem.W.takesIn K (.builtin "object.__class__") = some true
  hm : PySem.W.mroIn K Cl (.type "object") = some true
inductive TyD2 (K : PySem.W.Frag) : XV → Value → Prop where
  | non : TyD2 K (.d .non) (.type "NoneType")
  | bl (b : Bool) : TyD2 K (.d (.bl b)) (.type "bool")
  | int (i : Int) : TyD2 K (.d (.int i)) (.type "int")
  | txt (l : List Nat) : TyD2 K (.d (.txt l)) (.type "str")
  | lst (ds : List D) : TyD2 K (.d (.lst ds)) (.type "list")
  | tup (ds : List D) : TyD2 K (.d (.tup ds)) (.type "tuple")
  | ins {Cl : Addr} (fs : List Str) (ds : List D) : IsiC K Cl → TyD2 K (.d (.ins Cl fs ds)) (.ref Cl)
theorem TyD2.tx {K : PySem.W.Frag} {H : Hp} {w : IA} {y : XV} {v : V} {t : Value} (h : TyD2 K y t) (r : RepX K μ H w y v) : TyX K H v t := by
  cases h with
  | non => rw [show v = V.non from r]; exact .base .non
  | bl b => rw [show v = V.bl b from r]; exact .base (.bl b)
  | int i => rw [show v = V.int i from r]; exact .base (.int i)
  | txt l => rw [show v = V.str (SX.S l) from r]; exact .base (.str _)
  | lst ds => obtain ⟨a, xs, rfl, _, e, _⟩ := r; exact .base (.lst e)
  | tup ds => obtain ⟨a, xs, rfl, _, e, _⟩ := r; exact .base (.tup e)
  | ins fs ds q => obtain ⟨a, dx, gs, rfl, _, e, _⟩ := r; exact .base (.ins e q.cl q.ha q.hn q.htk q.hm)
theorem gc_isi {y : XV} {T : String} {t : Value} {b : Bool} (ty : TyD2 C.K y t) (hk : PySem.W.kitOne C.K t (.type T) = some b) (q : Q (.d (.bl b)) μ) : GoC C (.builtin "isinstance") [y, .d (.ty T)] μ Q := fun X hX H w vs M rs => by
  obtain ⟨v, u, rfl, r, r2⟩ := rs.two
  exact cS_of call_isi ⟨v, u, t, .type T, b, rfl, by rw [show u = V.ty T from r2]; exact .ty T, by rw [hX.K]; exact ty.tx r, by rw [hX.K]; exact hk, lift.now M (x := .d (.bl b)) rfl q⟩
theorem gc_isiC {y : XV} {Cl : Addr} {t : Value} {b : Bool} (ty : TyD2 C.K y t) (hk : PySem.W.kitOne C.K t (.ref Cl) = some b) (q : Q (.d (.bl b)) μ) : GoC C (.builtin "isinstance") [y, .d (.ref Cl)] μ Q := fun X hX H w vs M rs => by
  obtain ⟨v, u, rfl, r, r2⟩ := rs.two
  exact cS_of call_isi ⟨v, u, t, .ref Cl, b, rfl, by rw [show u = V.ref Cl from r2]; exact .own Cl, by rw [hX.K]; exact ty.tx r, by rw [hX.K]; exact hk, lift.now M (x := .d (.bl b)) rfl q⟩
/-! ### repr -/
theorem call_repr_dp {X : Cx} (hg : X.A.guards = some []) (hu : X.A.units + 65 < cLine) : CallR X (.builtin "repr") (fun xs H Q => ∃ (a : Addr) (d : PyData), xs = [.ref a] ∧ Dp X.K H (.ref a) d ∧ SeqAt.shaped d = true ∧ d.showable = true ∧ d.shown.length ≤ sizeLine ∧ Q (.str d.shown) H) := by
  intro pins s σ H xs us Q I r h
  obtain ⟨a, d, rfl, dp, sh, hs, hz, q⟩ := h
  obtain ⟨u, rfl, r1⟩ : ∃ u, us = [u] ∧ RelV (.ref a) u := by
    cases r with
    | cons r t => cases t; exact ⟨_, rfl, r⟩
  obtain rfl : u = Value.ref a := r1
  obtain ⟨as, rd⟩ := Dp.reads I d (.ref a) (.ref a) dp rfl
  unfold SeqAt.shaped at sh
  rw [Bool.and_eq_true] at sh
  refine PySem.repr_of_reads' rd hs (PyData.noDict_hsm (PyData.hasDict_of_canLay d sh.1)) hg (by have := of_decide_eq_true sh.2; omega) (fun _ _ e => e) (fun h' u tk hk => ⟨.str d.shown, H, I.kept hk, ⟨u, rfl⟩, q⟩) hz
def D.isSeq : D → Prop
  | .lst _ => True
  | .tup _ => True
  | _ => False
theorem gc_repr {x : D} (hg : C.g = true) (hx : x.okEq) (hd : x.isSeq) (hs : x.py.showable = true) (hz : x.py.shown.length ≤ sizeLine) (q : Q (.d (.txt x.py.shown.cps.toList)) μ) : GoC C (.builtin "repr") [.d x] μ Q := fun X hX H w vs M rs => by
  obtain ⟨v, rfl, r⟩ := rs.one
  have dp := Rep.dp x v hx.1 r
  obtain ⟨a, rfl⟩ : ∃ a, v = .ref a := by
    cases x <;> first | exact hd.elim | (obtain ⟨a, _, e, _⟩ := r; exact ⟨a, e⟩)
  exact cS_of (call_repr_dp (hX.gd hg) (by have := hX.room.un; omega)) ⟨a, x.py, rfl, by rw [hX.K]; exact dp, hx.shaped, hs, hz, lift.now M (x := .d (.txt _)) (by show V.str _ = V.str (SX.S _); rw [SX.S_tl]) q⟩
end
end DL
set_option maxRecDepth 100000
set_option maxHeartbeats 2000000
namespace DL
open PySem L2 PySem.Spec PyProof.Rows
/-! ### comprehensions that change nothing -/
section
variable {C : SC} {E : EPost} {ρ : Env} {μ : Mem} {Q : XV → Mem → Prop} {scope : Scope} {t : Tg} {elt c : Expr} {vs : List Nat} {items : List XV} {G : Mem → Prop}
theorem lc_map (g : XV → D) (hz : items.length ≤ sizeLine) (hG : G μ) (h : ∀ x ∈ items, ∃ ρ', t.put x (wipeE ρ vs) ρ' ∧ WE (C.blk scope) elt ρ' μ noE fun y μ3 => y = .d (g x) ∧ μ3 = μ) (q : Q (.d (.lst (items.map g))) μ) : LcI C scope t [] elt vs ρ Q items G μ := by
  refine ⟨hz, fun i acc μ' => acc = (items.take i).map g ∧ μ' = μ, ⟨by simp, rfl⟩, fun i acc μ' _ hp => by rw [hp.2]; exact hG, fun i x acc μ' hx hp => ?_, fun acc μ' hp => ?_⟩
  · obtain ⟨rfl, rfl⟩ := hp
    obtain ⟨ρ', h1, h2⟩ := h x (List.mem_of_getElem? hx)
    refine ⟨ρ', h1, ⟨fun _ => h2.cont fun y μ3 hy => ⟨g x, hy.1, ?_, hy.2⟩, fun z => nomatch z⟩⟩
    rw [List.take_succ, hx]
    simp
  · obtain ⟨rfl, rfl⟩ := hp
    rw [List.take_length]
    exact q
theorem lc_filter (g : XV → D) (p : XV → Bool) (hz : items.length ≤ sizeLine) (hG : G μ) (h : ∀ x ∈ items, ∃ ρ', t.put x (wipeE ρ vs) ρ' ∧ WT (C.blk scope) c ρ' μ noE (fun k μ2 => k = p x ∧ μ2 = μ) ∧ (p x = true → WE (C.blk scope) elt ρ' μ noE fun y μ3 => y = .d (g x) ∧ μ3 = μ)) (q : Q (.d (.lst ((items.filter p).map g))) μ) : LcI C scope t [c] elt vs ρ Q items G μ := by
  refine ⟨hz, fun i acc μ' => acc = ((items.take i).filter p).map g ∧ μ' = μ, ⟨by simp, rfl⟩, fun i acc μ' _ hp => by rw [hp.2]; exact hG, fun i x acc μ' hx hp => ?_, fun acc μ' hp => ?_⟩
  · obtain ⟨rfl, rfl⟩ := hp
    obtain ⟨ρ', h1, h2, h3⟩ := h x (List.mem_of_getElem? hx)
    refine ⟨ρ', h1, ?_⟩
    show WT _ _ _ _ _ _
    refine h2.cont fun k μ2 hk => ?_
    obtain ⟨rfl, rfl⟩ := hk
    refine ⟨fun hp => (h3 hp).cont fun y μ3 hy => ⟨g x, hy.1, ?_, hy.2⟩, fun hp => ⟨?_, rfl⟩⟩
    · rw [List.take_succ, hx, List.filter_append]
      simp [hp]
    · rw [List.take_succ, hx, List.filter_append]
      simp [hp]
  · obtain ⟨rfl, rfl⟩ := hp
    rw [List.take_length]
    exact q
/-- by an invariant over the cells; the turn's place is known -/
theorem lc_inv (P : Nat → List D → Mem → Prop) (hz : items.length ≤ sizeLine) (h0 : P 0 [] μ) (hG : ∀ i acc μ', i ≤ items.length → P i acc μ' → G μ') (h : ∀ (i : Nat) x acc μ', items[i]? = some x → P i acc μ' → ∃ ρ', t.put x (wipeE ρ vs) ρ' ∧ WE (C.blk scope) elt ρ' μ' noE fun y μ3 => ∃ d, y = .d d ∧ P (i + 1) (acc ++ [d]) μ3)
    (q : ∀ acc μ', P items.length acc μ' → Q (.d (.lst acc)) μ') : LcI C scope t [] elt vs ρ Q items G μ :=
  ⟨hz, P, h0, hG, fun i x acc μ' hx hp => by obtain ⟨ρ', h1, h2⟩ := h i x acc μ' hx hp; exact ⟨ρ', h1, fun _ => h2, fun z => nomatch z⟩, q⟩
end
theorem rng_len (lo : Int) (n : Nat) : (rng lo n).length = n := by unfold rng; simp
theorem rng_get {lo : Int} {n i : Nat} {x : XV} (h : (rng lo n)[i]? = some x) : i < n ∧ x = .d (.int (lo + (i : Nat))) := by
  have hi := (List.getElem?_eq_some_iff.mp h).1
  rw [rng_len] at hi
  unfold rng at h
  rw [List.getElem?_map, List.getElem?_range hi] at h
  cases h
  exact ⟨hi, rfl⟩
theorem rng_mem {lo : Int} {n : Nat} {x : XV} (h : x ∈ rng lo n) : ∃ i : Nat, i < n ∧ x = .d (.int (lo + (i : Nat))) := by
  obtain ⟨i, hi, e⟩ := List.mem_iff_getElem.mp h
  exact ⟨i, by rw [rng_len] at hi; exact hi, (rng_get (List.getElem?_eq_some_iff.mpr ⟨hi, e⟩)).2⟩
/-! ### the end: a law -/
theorem ints_vals : ∀ {vs : List Value} {ns : List Int}, IntsAre vs ns → Vals (ns.map V.int) vs
  | _, _, .nil => .nil
  | _, _, .cons _ t h => .cons ⟨t, rfl⟩ (ints_vals h)
theorem law_run {P : Program} {wd : World} {K : PySem.W.Frag} {mg mb : Str → Option Value} {k : Nat} {fa a : Addr} {fd : FuncData} {x : Str} {sp : Sp} {s1 : Shared} {vs : List Value} {ns : List Int}
    (KX : K.In s1.heap) (nm : s1.heap.Ns mainGlobals mg) (nb : s1.heap.Ns builtinsNs mb) (boot : ∀ x : Str, x ≠ "__name__" → mb x = bootBuiltins x) (noL : s1.heap.NoLimit) (noG : s1.gens = #[])
    (ga : s1.heap.get? a = some { cls := .type "list", data := .seq vs.toArray }) (iv : IntsAre vs ns) (len : ns.length ≤ sizeLine) (room : Room k callerA)
    (F : ∀ base : Heap, K.In base → base.Ns mainGlobals mg → FnG P wd K mg base true k fa fd [x] sp) (bind : ∀ (s : Shared) (u : Value), BindsTo s fd ⟨[u], []⟩ [(x, u)])
    (ask : ∀ H : Hp, Only H → SqL K H a (ns.map V.int) → sp [.ref a] H (fun v _ => v = .bl true) fun _ _ _ => False) (noX : ∀ H e s', L2.CX P wd [] H s1 (fun _ _ _ => False) e s' → False) :
    codeAny (model P wd) callerA (.call (.ref fa) ⟨[.ref a], []⟩) (fun r s' => r = .ok (.ret (.bool true)) ∧ OldK s1.heap s'.heap ∧ s'.os = s1.os ∧ AllBare s'.gens) s1 := by
  have rv := ints_vals iv
  -- over a tracked heap that knows of the script at most
  suffices main : ∀ T : Hp, Only T → SqL K T a (ns.map V.int) → HOk P wd T s1.heap → (∀ b, T b ≠ none → b = a) → (T a ≠ none → K.lookup a = none) →
      codeAny (model P wd) callerA (.call (.ref fa) ⟨[.ref a], []⟩) (fun r s' => r = .ok (.ret (.bool true)) ∧ OldK s1.heap s'.heap ∧ s'.os = s1.os ∧ AllBare s'.gens) s1 by
    cases inK : K.lookup a with
    | some o =>
      have same := KX a o inK
      rw [ga] at same
      injection same with same
      subst same
      have lv : vs.toArray.size ≤ sizeLine := by rw [List.size_toArray, iv.length]; exact len
      exact main (fun _ => none) (fun _ => Or.inl rfl) (Or.inr ⟨_, vs.toArray, _, inK, rfl, rfl, rfl, lv, by simpa using rv⟩) (fun b u z => nomatch z) (fun b z => (z rfl).elim) fun z => (z rfl).elim
    | none =>
      let T : Hp := fun b => if b = a then some (.frz { cls := .type "list", data := .seq vs.toArray } (.lst (ns.map V.int))) else none
      have Ta : T a = some (.frz { cls := .type "list", data := .seq vs.toArray } (.lst (ns.map V.int))) := if_pos rfl
      have To : ∀ {b : Addr}, b ≠ a → T b = none := fun h => if_neg h
      have Tn : ∀ b, T b ≠ none → b = a := fun b z => Classical.byContradiction fun h => z (To h)
      refine main T (fun b => ?_) (Or.inl (Or.inr ⟨_, Ta⟩)) (fun b u z => ?_) Tn fun _ => inK
      · rcases Classical.em (b = a) with rfl | h
        · exact Or.inr ⟨_, _, Ta⟩
        · exact Or.inl (To h)
      · obtain rfl := Tn b (by rw [z]; simp)
        rw [Ta] at z
        injection z with z
        subst z
        exact ⟨ga, by rw [List.length_map]; exact len, vs, _, rv, ga⟩
  intro T only sq hok onlyA notK
  have keepB : ∀ {b : Addr} {o : Obj}, s1.heap.get? b = some o → T b = none → (hidT s1.heap T).get? b = some o := fun e n => hidT_get e n
  have noDict : ∀ {b : Addr} {o : Obj} {es : Array DictEntry} {ep : Nat}, s1.heap.get? b = some o → o.data = .dict es ep → T b = none := fun {b o es ep} e d => by
    refine Classical.byContradiction fun h => ?_
    obtain rfl := onlyA b h
    rw [ga] at e
    injection e with e
    subst e
    exact nomatch d
  have nsB : ∀ {b : Addr} {m : Str → Option Value}, s1.heap.Ns b m → (hidT s1.heap T).Ns b m := fun {b m} ⟨o, es, ep, e, d, r⟩ => ⟨o, es, ep, keepB e (noDict e d), d, r⟩
  have KB : K.In (hidT s1.heap T) := fun b o e => keepB (KX b o e) (Classical.byContradiction fun h => by
    obtain rfl := onlyA b h
    rw [notK h] at e
    exact nomatch e)
  obtain ⟨mc, lim1, lim2⟩ := noL
  have md : Mod K mg (hidT s1.heap T) := ⟨KB, nsB nm, ⟨mb, nsB nb, boot⟩, ⟨mc, nsB lim1, lim2⟩⟩
  have e0 : Env0 P wd K mg (hidT s1.heap T) callerA [] s1 T := ⟨rfl, md, fun b o e => of_hidT e, Nat.le_of_eq (hidT_size _ _), trivial, fun b hb => (List.not_mem_nil hb).elim, hok, .of_eq noG⟩
  have run := (F _ KB (nsB nm)).run callerA [] s1 T ⟨[.ref a], []⟩ [.ref a] [.ref a] _ _ (fun _ => rfl) room e0 (bind s1 (.ref a)) (.cons rfl .nil) (ask T only sq)
  refine codeAny_mono run fun r s' q => ?_
  match r, q with
  | .error e, q => exact (noX T e s' q).elim
  | .ok (.ret u), ⟨v, T', os, bare, un, hok', rel, hv⟩ =>
    subst hv
    obtain rfl : u = Value.bool true := rel
    refine ⟨rfl, OldK.of_keep fun b o e => ?_, os, bare⟩
    rcases only b with z | ⟨ob, xs, z⟩
    · exact un.keep b o e z (fun h => List.not_mem_nil h) (fun h => List.not_mem_nil h)
    · obtain ⟨e1, _⟩ := hok b _ z
      obtain ⟨e2, _⟩ := hok' b _ (un.frzs b ob _ z)
      rw [e] at e1
      rw [e1]
      exact e2
  | .ok .next, q => exact q.elim
  | .ok .brk, q => exact q.elim
  | .ok .cont, q => exact q.elim
/-- what a law's contract is: a script comes in, True comes out -/
def cLaw (most : Nat) : Con where
  α := List Int
  args := fun ns => [.d (.scr ns)]
  mem := fun _ => []
  pre := fun ns => ns.length ≤ most
  out := fun _ o => o = .ret (.d (.bl true)) []
theorem wf_cLaw (most : Nat) : (cLaw most).Wf := by
  refine ⟨fun a _ x hx => ?_, fun a _ m hm => (List.not_mem_nil hm).elim, fun a o _ ho => by cases ho; exact Nat.le_refl _⟩
  have hx' : x ∈ [XV.d (.scr a)] := hx
  simp only [List.mem_cons, List.not_mem_nil, or_false] at hx'
  subst hx'
  trivial
theorem mok_nil {K : PySem.W.Frag} {H : Hp} : MOk K [] H ⟨[], fun _ => False⟩ :=
  ⟨rfl, fun i j mi mj b e => by simp at e, fun n m b e => by simp at e, fun n m b e => by simp at e, fun b f => f.elim⟩
theorem no_live_nil {F : Addr → Prop} {b : Addr} (hF : ¬ F b) : ¬ Live [] ⟨[], F⟩ b := by
  rintro (f | ⟨n, m, e, _⟩)
  · exact hF f
  · simp at e
theorem law_sp {K : PySem.W.Frag} {H : Hp} {a : Addr} {ns : List Int} {most : Nat} (hl : ns.length ≤ most) (hS : SqL K H a (ns.map V.int)) : toSp K (cLaw most) [.ref a] H (fun v _ => v = .bl true) fun _ _ _ => False := by
  refine ⟨ns, ⟨[], fun _ => False⟩, hl, .cons ⟨a, rfl, ?_⟩ .nil, mok_nil, fun x μ' e v H' w' r _ _ => ?_, fun Cl fl μ' e => nomatch e⟩
  · rcases hS with h | h
    · exact .inl ⟨no_live_nil id, h⟩
    · exact .inr h
  · injection e with e1 e2
    subst e1
    exact r
theorem walk_dl {l : PySem.W.OpenLaw} {n k : Nat} {q : Program} {loose : List Str} {XP : (Str → Option Value) → Heap → Prop} {YP : World → Heap → Prop} {d : DefRec} {K : Params → PySem.W.Frag} {x : Str}
    (most : l.most = some n) (small : n ≤ sizeLine) (noDef : d.params.defaults = []) (room : Room k callerA) (inK : ∀ (w : World) (h : Heap), YP w h → (K w.params).In h)
    (F : ∀ (w : World) (mg : Str → Option Value) (fa : Addr) (h : Heap), (K w.params).In h → h.Ns mainGlobals mg → mg d.name = some (.ref fa) →
      ∃ fd : FuncData, (∀ (s : Shared) (u : Value), BindsTo s fd ⟨[u], []⟩ [(x, u)]) ∧ ∀ base : Heap, (K w.params).In base → base.Ns mainGlobals mg → FnG l.prog w (K w.params) mg base true k fa fd [x] (toSp (K w.params) (cLaw n))) :
    PySem.W.WalkO q loose XP YP l.row.toRowW d [] (fun f vs => PySem.call f vs) := by
  refine Att.attach_call most noDef fun w s₀ s₁ mg mb fa o pm cd doc a vs ns G Y ho hd hcd hmg hobj hints hlen hg => ?_
  have KX := inK w _ Y
  obtain ⟨fd, hb, hF⟩ := F w mg fa _ KX G.T.g hmg
  refine law_run KX G.T.g G.T.b G.T.builtins G.T.nolimit hg hobj hints (Nat.le_trans hlen small) room hF hb (fun H _ hS => law_sp hlen hS) fun H e s' ⟨_, _, _, _, _, _, _, _, _, _, _, _, hE⟩ => hE
end DL
set_option maxRecDepth 100000
set_option maxHeartbeats 2000000
namespace DL
open PySem L2 PySem.Spec PyProof.Rows
/-! ### what code gives that changes nothing -/
def PV (C : SC) (e : Expr) (ρ : Env) (μ : Mem) (E : EPost) (x : XV) : Prop := ∀ Q : XV → Mem → Prop, Q x μ → WE C e ρ μ E Q
def PB (C : SC) (e : Expr) (ρ : Env) (μ : Mem) (E : EPost) (b : Bool) : Prop := ∀ Q : Bool → Mem → Prop, Q b μ → WT C e ρ μ E Q
def PW (C : SC) (e : Expr) (ρ : Env) (μ : Mem) (E : EPost) (b : Bool) : Prop := ∀ Q : Bool → Mem → Prop, Q b μ → WW C e ρ μ E Q
def PA (C : SC) (es : List Expr) (ρ : Env) (μ : Mem) (E : EPost) (xs : List XV) : Prop := ∀ Q : List XV → Mem → Prop, Q xs μ → WA C es ρ μ E Q
def PK (C : SC) (kws : List Keyword) (ρ : Env) (μ : Mem) (E : EPost) (xs : List XV) : Prop := ∀ Q : List XV → Mem → Prop, Q xs μ → WK C kws ρ μ E Q
def PO (C : SC) (e : Option Expr) (ρ : Env) (μ : Mem) (E : EPost) (o : Option Int) : Prop := ∀ Q : Option Int → Mem → Prop, Q o μ → WO C e ρ μ E Q
section
variable {C : SC} {E : EPost} {ρ : Env} {μ : Mem} {a b c e : Expr} {es rest : List Expr} {kws : List Keyword} {pos p p2 apos cpos kpos : Pos} {x : Str} {Q : XV → Mem → Prop} {QT : Bool → Mem → Prop} {v : XV} {j : Nat}
theorem PV.go (h : PV C e ρ μ E v) (q : Q v μ) : WE C e ρ μ E Q := h Q q
theorem PB.go {k : Bool} (h : PB C e ρ μ E k) (q : QT k μ) : WT C e ρ μ E QT := h QT q
theorem PB.ite {k : Bool} {body orelse : List Stmt} {D : DEnds} (h : PB C c ρ μ E k) (h1 : k = true → WS C body ρ μ E D) (h2 : k = false → WS C orelse ρ μ E D) : WS1 C (.If c body orelse pos) ρ μ E D := w1_if (h.go ⟨h1, h2⟩)
theorem PV.eq {v' : XV} (h : PV C e ρ μ E v) (e1 : v = v') : PV C e ρ μ E v' := e1 ▸ h
theorem PB.eq {k k' : Bool} (h : PB C e ρ μ E k) (e1 : k = k') : PB C e ρ μ E k' := e1 ▸ h
theorem p_var (i : Nat) (hN : C.N[i]? = some x) (hv : C.Vis x) (h : ρ[i]? = some (some v)) (hd : (x == ("__debug__" : Str)) = false := by decide) (hcd : (x == ("__classdict__" : Str)) = false := by decide) : PV C (.Name x pos) ρ μ E v := fun _ q => we_var i hN hv h q hd hcd
theorem p_int {i : Int} : PV C (.Constant (.int i) j pos) ρ μ E (.d (.int i)) := fun _ q => we_int q
theorem p_bl {i : Bool} : PV C (.Constant (.bool i) j pos) ρ μ E (.d (.bl i)) := fun _ q => we_bl q
theorem p_non : PV C (.Constant .none j pos) ρ μ E (.d .non) := fun _ q => we_non q
theorem p_txt {s : Str} {l : List Nat} (hs : s.cps.toList = l) : PV C (.Constant (.str s) j pos) ρ μ E (.d (.txt l)) := fun _ q => we_txt hs q
theorem p_globT {s : Str} {t : Tok} {l : List Nat} (hg : C.Glob x) (hm : C.mg x = some (.str s t)) (hs : s.cps.toList = l) (hd : (x == ("__debug__" : Str)) = false := by decide) : PV C (.Name x pos) ρ μ E (.d (.txt l)) := fun _ q => we_globT hg hm hs q hd
theorem p_globI {i : Int} {t : Tok} (hg : C.Glob x) (hm : C.mg x = some (.int i t)) (hd : (x == ("__debug__" : Str)) = false := by decide) : PV C (.Name x pos) ρ μ E (.d (.int i)) := fun _ q => we_globI hg hm q hd
theorem p_globR {f : Addr} (hg : C.Glob x) (hm : C.mg x = some (.ref f)) (hd : (x == ("__debug__" : Str)) = false := by decide) : PV C (.Name x pos) ρ μ E (.d (.ref f)) := fun _ q => we_globR hg hm q hd
theorem p_bty {T : String} (hg : C.Glob x) (hm : C.mg x = none) (hv : bootBuiltins x = some (.type T)) (hn : x ≠ "__name__" := by decide) (hd : (x == ("__debug__" : Str)) = false := by decide) : PV C (.Name x pos) ρ μ E (.d (.ty T)) := fun _ q => we_bty hg hm hv q hn hd
theorem pa_nl : PA C [] ρ μ E [] := fun _ q => wa_nil q
theorem pa_cs {xs : List XV} (h : PV C e ρ μ E v) (k : PA C es ρ μ E xs) (hs : ∀ env, starEach (e :: es) env = (false, eval e env) :: starEach es env := by intro _; rfl) : PA C (e :: es) ρ μ E (v :: xs) := fun _ q => wa_cons (h.go (k _ q)) hs
theorem pk_nl : PK C [] ρ μ E [] := fun _ q => wk_nil q
theorem pk_cs {xs : List XV} {nm : Option Str} (h : PV C e ρ μ E v) (k : PK C kws ρ μ E xs) : PK C (⟨nm, e, kpos⟩ :: kws) ρ μ E (v :: xs) := fun _ q => wk_cons (h.go (k _ q))
section
variable {i k : Int} {s t : List Nat} {ds es' : List D} {op : Operator} {x1 x2 : XV}
theorem p_bin {z : XV} (h1 : PV C a ρ μ E x1) (h2 : PV C b ρ μ E x2) (h : ∀ Q : XV → Mem → Prop, Q z μ → Go2 C (binaryOp op) x1 x2 μ Q) : PV C (.BinOp a op b pos) ρ μ E z := fun Q q => we_bin (h1 _ (h2 _ (h Q q)))
theorem p_addI (h1 : PV C a ρ μ E (.d (.int i))) (h2 : PV C b ρ μ E (.d (.int k))) : PV C (.BinOp a .Add b pos) ρ μ E (.d (.int (i + k))) := p_bin h1 h2 fun _ q => go_add_int q
theorem p_subI (h1 : PV C a ρ μ E (.d (.int i))) (h2 : PV C b ρ μ E (.d (.int k))) : PV C (.BinOp a .Sub b pos) ρ μ E (.d (.int (i - k))) := p_bin h1 h2 fun _ q => go_sub_int q
theorem p_mulI (h1 : PV C a ρ μ E (.d (.int i))) (h2 : PV C b ρ μ E (.d (.int k))) (hc : CMul i k) : PV C (.BinOp a .Mult b pos) ρ μ E (.d (.int (i * k))) := p_bin h1 h2 fun _ q => go_mul_int hc q
theorem p_fdivI (h1 : PV C a ρ μ E (.d (.int i))) (h2 : PV C b ρ μ E (.d (.int k))) (hc : CDiv i k) : PV C (.BinOp a .FloorDiv b pos) ρ μ E (.d (.int (i / k))) := p_bin h1 h2 fun _ q => go_fdiv_int hc q
theorem p_modI (h1 : PV C a ρ μ E (.d (.int i))) (h2 : PV C b ρ μ E (.d (.int k))) (hc : 0 < k) : PV C (.BinOp a .Mod b pos) ρ μ E (.d (.int (i % k))) := p_bin h1 h2 fun _ q => go_mod_int hc q
theorem p_powI (h1 : PV C a ρ μ E (.d (.int i))) (h2 : PV C b ρ μ E (.d (.int k))) (hc : CPow i k) : PV C (.BinOp a .Pow b pos) ρ μ E (.d (.int (i ^ k.toNat))) := p_bin h1 h2 fun _ q => go_pow_int hc q
theorem p_negI (h1 : PV C a ρ μ E (.d (.int i))) : PV C (.UnaryOp .USub a pos) ρ μ E (.d (.int (-i))) := fun _ q => we_un (h1 _ (go_neg q))
theorem p_addT (h1 : PV C a ρ μ E (.d (.txt s))) (h2 : PV C b ρ μ E (.d (.txt t))) (hz : s.length + t.length ≤ sizeLine) : PV C (.BinOp a .Add b pos) ρ μ E (.d (.txt (s ++ t))) := p_bin h1 h2 fun _ q => go_add_txt hz q
theorem p_mulT (h1 : PV C a ρ μ E (.d (.txt s))) (h2 : PV C b ρ μ E (.d (.int k))) (hb : -(2 ^ 30) < k ∧ k < 2 ^ 30) (hz : s.length * k.toNat ≤ sizeLine) : PV C (.BinOp a .Mult b pos) ρ μ E (.d (.txt (repT s k))) := p_bin h1 h2 fun _ q => go_mul_txt hb.2 hb.1 hz q
theorem p_addL (h1 : PV C a ρ μ E (.d (.lst ds))) (h2 : PV C b ρ μ E (.d (.lst es'))) (hz : ds.length + es'.length ≤ sizeLine) : PV C (.BinOp a .Add b pos) ρ μ E (.d (.lst (ds ++ es'))) := p_bin h1 h2 fun _ q => go_add_lst hz q
theorem p_mulL (h1 : PV C a ρ μ E (.d (.lst ds))) (h2 : PV C b ρ μ E (.d (.int k))) (hb : -(2 ^ 63) ≤ k ∧ k < 2 ^ 63) (hz : ds.length * k.toNat ≤ sizeLine) : PV C (.BinOp a .Mult b pos) ρ μ E (.d (.lst (List.replicate k.toNat ds).flatten)) := p_bin h1 h2 fun _ q => go_mul_lst hb.1 hb.2 hz q
/-! comparisons: as values and as tests -/
theorem p_cmp {op : CmpOp} {r : Bool} (h1 : PV C a ρ μ E x1) (h2 : PV C b ρ μ E x2) (h : ∀ Q : XV → Mem → Prop, Q (.d (.bl r)) μ → Go2 C (compareOp op) x1 x2 μ Q) (hm : behindInMarks op b = false := by first | rfl | exact nobehind _ (by decide) (by decide)) : PV C (.Compare a [op] [b] pos) ρ μ E (.d (.bl r)) := fun Q q => we_cmp (h1 _ (h2 _ (h Q q))) hm
theorem b_cmp {op : CmpOp} {r : Bool} (h1 : PV C a ρ μ E x1) (h2 : PV C b ρ μ E x2) (h : ∀ Q : XV → Mem → Prop, Q (.d (.bl r)) μ → Go2 C (compareOp op) x1 x2 μ Q) (hm : behindInMarks op b = false := by first | rfl | exact nobehind _ (by decide) (by decide)) : PB C (.Compare a [op] [b] pos) ρ μ E r := fun Q q => wt_cmp (h1 _ (h2 _ (h _ ⟨r, rfl, q⟩))) hm
/-- what an operator answers about two values -/
def OpB (C : SC) (op : CmpOp) (x1 x2 : XV) (μ : Mem) (r : Bool) : Prop := ∀ Q : XV → Mem → Prop, Q (.d (.bl r)) μ → Go2 C (compareOp op) x1 x2 μ Q
theorem o_lt : OpB C .Lt (.d (.int i)) (.d (.int k)) μ (decide (i < k)) := fun _ q => go_lt q
theorem o_le : OpB C .LtE (.d (.int i)) (.d (.int k)) μ (decide (i ≤ k)) := fun _ q => go_le q
theorem o_gt : OpB C .Gt (.d (.int i)) (.d (.int k)) μ (decide (k < i)) := fun _ q => go_gt q
theorem o_ge : OpB C .GtE (.d (.int i)) (.d (.int k)) μ (decide (k ≤ i)) := fun _ q => go_ge q
theorem o_ltT : OpB C .Lt (.d (.txt s)) (.d (.txt t)) μ (decide (s < t)) := fun _ q => go_lt_txt q
theorem o_eqI : OpB C .Eq (.d (.int i)) (.d (.int k)) μ (decide (i = k)) := fun _ q => go_eq_int q
theorem o_neI : OpB C .NotEq (.d (.int i)) (.d (.int k)) μ (!decide (i = k)) := fun _ q => go_ne_int q
theorem o_eqB {r1 r2 : Bool} : OpB C .Eq (.d (.bl r1)) (.d (.bl r2)) μ (decide (r1 = r2)) := fun _ q => go_eq_bl q
theorem o_neB {r1 r2 : Bool} : OpB C .NotEq (.d (.bl r1)) (.d (.bl r2)) μ (!decide (r1 = r2)) := fun _ q => go_ne_bl q
theorem o_eqT : OpB C .Eq (.d (.txt s)) (.d (.txt t)) μ (decide (s = t)) := fun _ q => go_eq_txt q
theorem o_neT : OpB C .NotEq (.d (.txt s)) (.d (.txt t)) μ (!decide (s = t)) := fun _ q => go_ne_txt q
theorem o_in {n : Nat} : OpB C .In (.d (.txt [n])) (.d (.txt t)) μ (decide (n ∈ t)) := fun _ q => go_in_sign q
theorem o_nin {n : Nat} : OpB C .NotIn (.d (.txt [n])) (.d (.txt t)) μ (!decide (n ∈ t)) := fun _ q => go_nin_sign q
theorem o_eqD {d1 d2 : D} (h1 : d1.okEq) (h2 : d2.okEq) : OpB C .Eq (.d d1) (.d d2) μ (PyData.eqv d1.py d2.py) := fun _ q => go_eq_d h1 h2 q
theorem o_neD {d1 d2 : D} (h1 : d1.okEq) (h2 : d2.okEq) : OpB C .NotEq (.d d1) (.d d2) μ (!PyData.eqv d1.py d2.py) := fun _ q => go_ne_d h1 h2 q
theorem o_isN {d : D} : OpB C .Is (.d d) (.d .non) μ (match d with | .non => true | _ => false) := fun _ q => go_is_non q
theorem o_isnotN {d : D} : OpB C .IsNot (.d d) (.d .non) μ (match d with | .non => false | _ => true) := fun _ q => go_isnot_non q
/-- a < b < c -/
theorem p_chain {op op' : CmpOp} {x3 : XV} {r1 r2 : Bool} (h1 : PV C a ρ μ E x1) (h2 : PV C b ρ μ E x2) (o1 : OpB C op x1 x2 μ r1) (h3 : PV C c ρ μ E x3) (o2 : OpB C op' x2 x3 μ r2) (hm : lastMarks [op, op'] [b, c] = false := by with_unfolding_all rfl) : PV C (.Compare a [op, op'] [b, c] pos) ρ μ E (.d (.bl (r1 && r2))) := fun Q q =>
  we_chain (h1 _ (h2 _ (o1 _ ⟨r1, rfl, fun e => h3 _ (o2 _ (by subst e; exact q)), fun e => by subst e; exact q⟩))) hm
theorem b_chain {op op' : CmpOp} {x3 : XV} {r1 r2 : Bool} (h1 : PV C a ρ μ E x1) (h2 : PV C b ρ μ E x2) (o1 : OpB C op x1 x2 μ r1) (h3 : PV C c ρ μ E x3) (o2 : OpB C op' x2 x3 μ r2) (hm : lastMarks [op, op'] [b, c] = false := by with_unfolding_all rfl) : PB C (.Compare a [op, op'] [b, c] pos) ρ μ E (r1 && r2) := fun Q q =>
  wt_chain (h1 _ (h2 _ (o1 _ ⟨r1, rfl, fun e => h3 _ (o2 _ ⟨r2, rfl, by subst e; exact q⟩), fun e => by subst e; exact q⟩))) hm
end
/-! and, or, not -/
theorem b_val {r : Bool} (h : PV C e ρ μ E (.d (.bl r))) (he : ∀ env whole, isTrue e env whole = (do let v ← whole; standAt e.pos; holding [v] (truthy v)) := by intro _ _; rfl) : PB C e ρ μ E r := fun Q q => wt_val (h _ ⟨r, rfl, q⟩) he
theorem b_not {r : Bool} (h : PB C a ρ μ E r) : PB C (.UnaryOp .Not a pos) ρ μ E (!r) := fun Q q => wt_not (h _ q)
theorem w_and1 {r : Bool} (h : PB C a ρ μ E r) : PW C (.BoolOp .And [a] pos) ρ μ E r := fun Q q => ww_and1 (h _ q)
theorem w_or1 {r : Bool} (h : PB C a ρ μ E r) : PW C (.BoolOp .Or [a] pos) ρ μ E r := fun Q q => ww_or1 (h _ q)
theorem w_and {r1 r2 : Bool} (h : PB C a ρ μ E r1) (k : r1 = true → PW C (.BoolOp .And (b :: rest) pos) ρ μ E r2) : PW C (.BoolOp .And (a :: b :: rest) pos) ρ μ E (r1 && r2) := fun Q q =>
  ww_and (h _ ⟨fun e => k e _ (by subst e; exact q), fun e => by subst e; exact q⟩)
theorem w_or {r1 r2 : Bool} (h : PB C a ρ μ E r1) (k : r1 = false → PW C (.BoolOp .Or (b :: rest) pos) ρ μ E r2) : PW C (.BoolOp .Or (a :: b :: rest) pos) ρ μ E (r1 || r2) := fun Q q =>
  ww_or (h _ ⟨fun e => k e _ (by subst e; exact q), fun e => by subst e; exact q⟩)
theorem b_bool {op : BoolOp} {r : Bool} (h : PW C (.BoolOp op es pos) ρ μ E r) : PB C (.BoolOp op es pos) ρ μ E r := fun Q q => wt_bool (h _ q)
theorem p_one {op : BoolOp} (h : PV C a ρ μ E v) : PV C (.BoolOp op [a] pos) ρ μ E v := fun Q q => we_one (h _ q)
theorem p_and {r1 r2 : Bool} (h : PV C a ρ μ E (.d (.bl r1))) (k : r1 = true → PV C (.BoolOp .And (b :: rest) pos) ρ μ E (.d (.bl r2))) : PV C (.BoolOp .And (a :: b :: rest) pos) ρ μ E (.d (.bl (r1 && r2))) := fun Q q =>
  we_and (h _ ⟨r1, rfl, fun e => k e _ (by subst e; exact q), fun e => by subst e; exact q⟩)
theorem p_or {r1 r2 : Bool} (h : PV C a ρ μ E (.d (.bl r1))) (k : r1 = false → PV C (.BoolOp .Or (b :: rest) pos) ρ μ E (.d (.bl r2))) : PV C (.BoolOp .Or (a :: b :: rest) pos) ρ μ E (.d (.bl (r1 || r2))) := fun Q q =>
  we_or (h _ ⟨r1, rfl, fun e => k e _ (by subst e; exact q), fun e => by subst e; exact q⟩)
theorem p_not {r : Bool} (h : PV C a ρ μ E (.d (.bl r))) : PV C (.UnaryOp .Not a pos) ρ μ E (.d (.bl (!r))) := fun Q q => we_not (h _ ⟨r, rfl, q⟩)
theorem p_if {r : Bool} {d1 d2 : D} (h : PB C c ρ μ E r) (h1 : r = true → PV C a ρ μ E (.d d1)) (h2 : r = false → PV C b ρ μ E (.d d2)) : PV C (.IfExp c a b pos) ρ μ E (.d (if r then d1 else d2)) := fun Q q =>
  we_if (h _ ⟨fun e => h1 e _ (by subst e; exact q), fun e => h2 e _ (by subst e; exact q)⟩)
theorem p_ifT {r : Bool} {l1 l2 : List Nat} (h : PB C c ρ μ E r) (h1 : r = true → PV C a ρ μ E (.d (.txt l1))) (h2 : r = false → PV C b ρ μ E (.d (.txt l2))) : PV C (.IfExp c a b pos) ρ μ E (.d (.txt (if r then l1 else l2))) := fun Q q =>
  we_if (h _ ⟨fun e => h1 e _ (by subst e; exact q), fun e => h2 e _ (by subst e; exact q)⟩)
theorem p_ifI {r : Bool} {l1 l2 : Int} (h : PB C c ρ μ E r) (h1 : r = true → PV C a ρ μ E (.d (.int l1))) (h2 : r = false → PV C b ρ μ E (.d (.int l2))) : PV C (.IfExp c a b pos) ρ μ E (.d (.int (if r then l1 else l2))) := fun Q q =>
  we_if (h _ ⟨fun e => h1 e _ (by subst e; exact q), fun e => h2 e _ (by subst e; exact q)⟩)
/-! displays -/
theorem allD_map : ∀ ds : List D, allD (ds.map XV.d) = some ds
  | [] => rfl
  | d :: ds => by show (allD (ds.map XV.d)).map _ = _; rw [allD_map ds]; rfl
theorem p_tup {k : Nat} {xs : List XV} {ds : List D} (h : PA C es ρ μ E xs) (hd : allD xs = some ds) (hz : ds.length ≤ sizeLine := by first | decide | (simp only [List.length_cons, List.length_nil]; decide)) : PV C (.Tuple es k pos) ρ μ E (.d (.tup ds)) := fun Q q => we_tup (h _ ⟨ds, hd, hz, q⟩)
theorem p_lst {xs : List XV} {ds : List D} (h : PA C es ρ μ E xs) (hd : allD xs = some ds) (hz : ds.length ≤ sizeLine := by first | decide | (simp only [List.length_cons, List.length_nil]; decide)) : PV C (.List es pos) ρ μ E (.d (.lst ds)) := fun Q q => we_lst (h _ ⟨ds, hd, hz, q⟩)
/-! items, slices -/
theorem p_ix {x1 x2 z : XV} (h1 : PV C a ρ μ E x1) (h2 : PV C b ρ μ E x2) (h : ∀ Q : XV → Mem → Prop, Q z μ → GoI C x1 x2 μ Q) (hs : PlainIx b := by exact fun _ _ => rfl) : PV C (.Subscript a b pos) ρ μ E z := fun Q q => we_ix (h1 _ (h2 _ (h Q q))) hs
theorem p_ixT {l : List Nat} {i : Int} {n : Nat} (h1 : PV C a ρ μ E (.d (.txt l))) (h2 : PV C b ρ μ E (.d (.int i))) (hz : l.length ≤ sizeLine) (h : atI l i = some n) (hs : PlainIx b := by exact fun _ _ => rfl) : PV C (.Subscript a b pos) ρ μ E (.d (.txt [n])) := p_ix h1 h2 (fun _ q => gi_txt hz h q) hs
theorem p_ixL {l : List D} {i : Int} {n : D} (h1 : PV C a ρ μ E (.d (.lst l))) (h2 : PV C b ρ μ E (.d (.int i))) (h : atI l i = some n) (hs : PlainIx b := by exact fun _ _ => rfl) : PV C (.Subscript a b pos) ρ μ E (.d n) := p_ix h1 h2 (fun _ q => gi_lst h q) hs
theorem p_ixU {l : List D} {i : Int} {n : D} (h1 : PV C a ρ μ E (.d (.tup l))) (h2 : PV C b ρ μ E (.d (.int i))) (h : atI l i = some n) (hs : PlainIx b := by exact fun _ _ => rfl) : PV C (.Subscript a b pos) ρ μ E (.d n) := p_ix h1 h2 (fun _ q => gi_tup h q) hs
theorem p_ixC {m : Nat} {l : List XV} {i : Int} {n : XV} (h1 : PV C a ρ μ E (.l m)) (hm : μ[m]? = some (some (.lst l))) (h2 : PV C b ρ μ E (.d (.int i))) (h : atI l i = some n) (hs : PlainIx b := by exact fun _ _ => rfl) : PV C (.Subscript a b pos) ρ μ E n := p_ix h1 h2 (fun _ q => gi_cell hm h q) hs
theorem o_none : PO C none ρ μ E none := fun _ q => wo_none q
theorem o_some {i : Int} (h : PV C e ρ μ E (.d (.int i))) : PO C (some e) ρ μ E (some i) := fun _ q => wo_some (h _ ⟨i, rfl, q⟩)
theorem p_slT {lo hi : Option Expr} {l : List Nat} {i k : Option Int} (h : PV C e ρ μ E (.d (.txt l))) (h1 : PO C lo ρ μ E i) (h2 : PO C hi ρ μ E k) (hz : l.length ≤ sizeLine) : PV C (.Subscript e (.Slice lo hi none p2) pos) ρ μ E (.d (.txt (cut l i k))) := fun Q q => we_sl (h _ (h1 _ (h2 _ (gs_txt hz q))))
theorem p_slL {lo hi : Option Expr} {l : List D} {i k : Option Int} (h : PV C e ρ μ E (.d (.lst l))) (h1 : PO C lo ρ μ E i) (h2 : PO C hi ρ μ E k) : PV C (.Subscript e (.Slice lo hi none p2) pos) ρ μ E (.d (.lst (cut l i k))) := fun Q q => we_sl (h _ (h1 _ (h2 _ (gs_lst q))))
/-! built-in calls -/
theorem p_blt {f : Value} {xs : List XV} {z : XV} (hg : C.Glob x) (hm : C.mg x = none) (hv : bootBuiltins x = some f) (hf : (∃ id, f = .builtin id) ∨ ∃ T, f = .type T) (h : PA C (e :: es) ρ μ E xs) (hc : ∀ Q : XV → Mem → Prop, Q z μ → GoC C f xs μ Q) (hn : x ≠ "__name__" := by decide) (hdb : (x == ("__debug__" : Str)) = false := by decide)
    (he : ∀ env, starEach (e :: es) env = (false, eval e env) :: starEach es env := by intro _; rfl) (hpl : ∀ env, (backTo pos (starEach es env)).any (·.1) = false := by intro _; rfl) : PV C (.Call (.Name x p) (e :: es) [] pos) ρ μ E z := fun Q q => we_callB hg hm hv hf (h _ (hc Q q)) hn hdb he hpl
section
variable (hlen : C.mg "len" = none)
theorem p_lenT {l : List Nat} (hlen : C.mg "len" = none) (hg : C.Glob "len") (h : PV C e ρ μ E (.d (.txt l))) (hz : l.length ≤ sizeLine) (he : ∀ env, starEach [e] env = (false, eval e env) :: starEach [] env := by intro _; rfl) : PV C (.Call (.Name "len" p) [e] [] pos) ρ μ E (.d (.int (l.length : Int))) := p_blt hg hlen PySem.boot_len (.inl ⟨_, rfl⟩) (pa_cs h pa_nl he) (fun _ q => gc_len_txt hz q) (by decide) (by decide) he
theorem p_lenL {l : List D} (hlen : C.mg "len" = none) (hg : C.Glob "len") (h : PV C e ρ μ E (.d (.lst l))) (he : ∀ env, starEach [e] env = (false, eval e env) :: starEach [] env := by intro _; rfl) : PV C (.Call (.Name "len" p) [e] [] pos) ρ μ E (.d (.int (l.length : Int))) := p_blt hg hlen PySem.boot_len (.inl ⟨_, rfl⟩) (pa_cs h pa_nl he) (fun _ q => gc_len_lst q) (by decide) (by decide) he
theorem p_lenU {l : List D} (hlen : C.mg "len" = none) (hg : C.Glob "len") (h : PV C e ρ μ E (.d (.tup l))) (he : ∀ env, starEach [e] env = (false, eval e env) :: starEach [] env := by intro _; rfl) : PV C (.Call (.Name "len" p) [e] [] pos) ρ μ E (.d (.int (l.length : Int))) := p_blt hg hlen PySem.boot_len (.inl ⟨_, rfl⟩) (pa_cs h pa_nl he) (fun _ q => gc_len_tup q) (by decide) (by decide) he
theorem p_lenS {l : List Int} (hlen : C.mg "len" = none) (hg : C.Glob "len") (h : PV C e ρ μ E (.d (.scr l))) (he : ∀ env, starEach [e] env = (false, eval e env) :: starEach [] env := by intro _; rfl) : PV C (.Call (.Name "len" p) [e] [] pos) ρ μ E (.d (.int (l.length : Int))) := p_blt hg hlen PySem.boot_len (.inl ⟨_, rfl⟩) (pa_cs h pa_nl he) (fun _ q => gc_len_scr q) (by decide) (by decide) he
theorem p_lenC {m : Nat} {l : List XV} (hlen : C.mg "len" = none) (hg : C.Glob "len") (h : PV C e ρ μ E (.l m)) (hm : μ[m]? = some (some (.lst l))) (he : ∀ env, starEach [e] env = (false, eval e env) :: starEach [] env := by intro _; rfl) : PV C (.Call (.Name "len" p) [e] [] pos) ρ μ E (.d (.int (l.length : Int))) := p_blt hg hlen PySem.boot_len (.inl ⟨_, rfl⟩) (pa_cs h pa_nl he) (fun _ q => gc_len_cell hm q) (by decide) (by decide) he
end
/-! comprehensions -/
section
variable {tg elt iter : Expr} {scope : Scope} {own : List (Str × Nat)} {n : Nat}
theorem p_lcT {l : List Nat} {g : Nat → D} (ht : TgOk (C.blk scope) tg (.nm n)) (nd : C.N.Nodup) (ok : BlkOk C.N C.sc scope own) (hsl : n ∈ own.map (·.2)) (hi : PV C iter ρ μ E (.d (.txt l))) (h : ∀ c, c ∈ l → PV (C.blk scope) elt ((wipeE ρ (own.map (·.2))).set n (some (.d (.txt [c])))) μ noE (.d (g c))) (hz : l.length ≤ sizeLine)
    (hs : ∀ env x, foldedSetIterable iter env x = pure x := by intro _ _; rfl) : PV C (.ListComp elt [⟨tg, iter, [], 0⟩] scope pos) ρ μ E (.d (.lst (l.map g))) := fun Q q =>
  we_lc ht nd ok (by intro j hj; simp only [Tg.slots, List.mem_singleton] at hj; subst hj; exact hsl) (wi_txt (hi _ ⟨l, rfl, by
    refine lc_map (fun x => match x with | .d (.txt [c]) => g c | _ => .non) (by simpa using hz) trivial (fun x hx => ?_) ?_
    · obtain ⟨c, hc, rfl⟩ := List.mem_map.mp hx
      exact ⟨_, rfl, h c hc _ ⟨rfl, rfl⟩⟩
    · rw [List.map_map]; exact q⟩)) hs
theorem p_lcL {l : List D} {g : D → D} (ht : TgOk (C.blk scope) tg (.nm n)) (nd : C.N.Nodup) (ok : BlkOk C.N C.sc scope own) (hsl : n ∈ own.map (·.2)) (hi : PV C iter ρ μ E (.d (.lst l))) (h : ∀ c, c ∈ l → PV (C.blk scope) elt ((wipeE ρ (own.map (·.2))).set n (some (.d c))) μ noE (.d (g c))) (hz : l.length ≤ sizeLine)
    (hs : ∀ env x, foldedSetIterable iter env x = pure x := by intro _ _; rfl) : PV C (.ListComp elt [⟨tg, iter, [], 0⟩] scope pos) ρ μ E (.d (.lst (l.map g))) := fun Q q =>
  we_lc ht nd ok (by intro j hj; simp only [Tg.slots, List.mem_singleton] at hj; subst hj; exact hsl) (wi_lst (hi _ ⟨l, rfl, by
    refine lc_map (fun x => match x with | .d c => g c | _ => .non) (by simpa using hz) trivial (fun x hx => ?_) ?_
    · obtain ⟨c, hc, rfl⟩ := List.mem_map.mp hx
      exact ⟨_, rfl, h c hc _ ⟨rfl, rfl⟩⟩
    · rw [List.map_map]; exact q⟩)) hs
/-- over range(a, b) -/
def upto (lo hi : Int) : List Int := (List.range (hi - lo).toNat).map fun i => lo + (i : Nat)
theorem upto_mem {lo hi i : Int} : i ∈ upto lo hi ↔ lo ≤ i ∧ i < hi := by
  unfold upto
  rw [List.mem_map]
  constructor
  · rintro ⟨k, hk, rfl⟩
    rw [List.mem_range] at hk
    omega
  · rintro ⟨h1, h2⟩
    exact ⟨(i - lo).toNat, List.mem_range.mpr (by omega), by omega⟩
theorem upto_len (lo hi : Int) : (upto lo hi).length = (hi - lo).toNat := by unfold upto; simp
theorem rng_upto (lo hi : Int) : rng lo (hi - lo).toNat = (upto lo hi).map fun i => XV.d (.int i) := by unfold rng upto; rw [List.map_map]; rfl
theorem p_lcR {lo hi : Int} {g : Int → D} (hr : C.mg "range" = none) (hg : C.Glob "range") (ht : TgOk (C.blk scope) tg (.nm n)) (nd : C.N.Nodup) (ok : BlkOk C.N C.sc scope own) (hsl : n ∈ own.map (·.2)) (ha : PV C a ρ μ E (.d (.int lo))) (hb : PV C b ρ μ E (.d (.int hi)))
    (h : ∀ i, lo ≤ i → i < hi → PV (C.blk scope) elt ((wipeE ρ (own.map (·.2))).set n (some (.d (.int i)))) μ noE (.d (g i))) (hz : (-(2 ^ 62) ≤ lo ∧ lo < 2 ^ 62 ∧ -(2 ^ 62) ≤ hi ∧ hi < 2 ^ 62) ∧ (hi - lo).toNat ≤ sizeLine)
    (hs : ∀ env x, foldedSetIterable (.Call (.Name "range" p) [a, b] [] p2) env x = pure x := by intro _ _; rfl) (hs1 : ∀ env, starEach [a, b] env = [(false, eval a env), (false, eval b env)] := by intro _; rfl) (hs2 : ∀ env, starEach [b] env = [(false, eval b env)] := by intro _; rfl) :
    PV C (.ListComp elt [⟨tg, .Call (.Name "range" p) [a, b] [] p2, [], 0⟩] scope pos) ρ μ E (.d (.lst ((upto lo hi).map g))) := fun Q q =>
  we_lc ht nd ok (by intro j hj; simp only [Tg.slots, List.mem_singleton] at hj; subst hj; exact hsl) (wi_range2 hg hr (ha _ (hb _ ⟨lo, hi, rfl, rfl, hz.1, by
    rw [rng_upto]
    refine lc_map (fun x => match x with | .d (.int i) => g i | _ => .non) (by rw [List.length_map, upto_len]; exact hz.2) trivial (fun x hx => ?_) ?_
    · obtain ⟨i, hi, rfl⟩ := List.mem_map.mp hx
      obtain ⟨h1, h2⟩ := upto_mem.mp hi
      exact ⟨_, rfl, h i h1 h2 _ ⟨rfl, rfl⟩⟩
    · rw [List.map_map]; exact q⟩)) hs1 hs2) hs
end
/-! methods, attributes -/
theorem p_join {sep : List Nat} {ls : List (List Nat)} {o : Expr} (ho : PV C o ρ μ E (.d (.txt sep))) (h : PV C e ρ μ E (.d (.lst (ls.map D.txt)))) (hz : (ls.map (·.length)).sum + ls.length * sep.length ≤ 16777216) (hbase : ∀ env, attributeBase o "join" env (eval o env) = eval o env := by intro _; rfl)
    (hfew : ∀ env, ((backTo cpos (starEach [e] env)).all (fun x => !x.1) && (backToKw cpos (keywordEach [] env)).all (fun x => x.1.isSome) && decide ([e].length + ([] : List Keyword).length + (if ([] : List Keyword).isEmpty then 0 else 1) < 30)) = true := by intro _; rfl)
    (hline : (apos.endLine == cpos.line) = true := by rfl) (hs : ∀ env, starEach [e] env = (false, eval e env) :: starEach [] env := by intro _; rfl) : PV C (.Call (.Attribute o "join" apos) [e] [] cpos) ρ μ E (.d (.txt (TL.joinL sep ls))) := fun Q q =>
  we_bm PySem.F.plainAttrs_str PySem.F.slot_str_join PySem.F.type_str_join (ho _ ⟨rfl, (pa_cs h pa_nl hs) _ (gm_join hz q)⟩) hbase hfew hline hs
theorem p_fld {Cl : Addr} {f : Str} {fs : List Str} {ds : List D} {d : D} (hc : Cls C.K Cl) (hn : NoAttr C.K Cl f) (h : PV C e ρ μ E (.d (.ins Cl fs ds))) (hf : fldD fs ds f = some d) (hb : ∀ env, attributeBase e f env (eval e env) = eval e env := by intro _; rfl) : PV C (.Attribute e f pos) ρ μ E (.d d) := fun Q q => we_fld hc hn (h _ ⟨fs, ds, d, rfl, hf, q⟩) hb
end
end DL
set_option maxRecDepth 100000
set_option maxHeartbeats 2000000
namespace DL
open PySem L2 PySem.Spec PyProof.Rows
/-! ### defs, methods and classes as the top has made them -/
def Dn (C : SC) (x : Str) (st : Stmt) (ps : List Str) : Prop := ∃ (f : Addr) (fd : FuncData), Fun C.K x x st f fd ∧ C.mg x = some (.ref f) ∧ Binds C.K fd ps []
def Dk (C : SC) (x : Str) (st : Stmt) (ps : List Str) (n : Nat) (ks : List Str) (ix : List Nat) : Prop := ∃ (f : Addr) (fd : FuncData), Fun C.K x x st f fd ∧ C.mg x = some (.ref f) ∧ KBn C.K fd ps n ks (perm ix) (perm ix)
def Mn (C : SC) (Cl : Addr) (m qual : Str) (st : Stmt) (ps : List Str) : Prop := ∃ (f : Addr) (fd : FuncData), Fun C.K m qual st f fd ∧ Meth C.K Cl m f ∧ Binds C.K fd ps []
def Mq (C : SC) (Cl : Addr) (m qual : Str) (st : Stmt) (ps : List Str) (n : Nat) (ks : List Str) (ix : List Nat) : Prop := ∃ (f : Addr) (fd : FuncData), Fun C.K m qual st f fd ∧ Meth C.K Cl m f ∧ KBn C.K fd ps n ks (perm ix) (perm ix)
def In0 (C : SC) (x : Str) (Cl : Addr) (qual : Str) (st : Stmt) (ps : List Str) : Prop := ∃ (f : Addr) (fd : FuncData), Fun C.K "__init__" qual st f fd ∧ Mk C.K Cl f ∧ C.mg x = some (.ref Cl) ∧ Binds C.K fd ps []
def InK (C : SC) (x : Str) (Cl : Addr) (qual : Str) (st : Stmt) (ps : List Str) (n : Nat) (ks : List Str) (ix : List Nat) : Prop := ∃ (f : Addr) (fd : FuncData), Fun C.K "__init__" qual st f fd ∧ Mk C.K Cl f ∧ C.mg x = some (.ref Cl) ∧ KBn C.K fd ps (n + 1) ks (perm (0 :: ix.map (· + 1))) (perm (0 :: ix.map (· + 1)))
/-- what a def's body is to do -/
def Body (C : SC) (c : Con) (N : List Str) (st : Stmt) (k : Nat) : Prop := ∀ a, c.pre a → WS (C.defC N (defScope st) k) (defBody st) (startE N (c.args a)) (c.mem a) (fun Cl fl _ μ2 => FitsX (c.out a) Cl fl μ2) { nx := fun _ μ2 => Fits (c.out a) (.d .non) μ2, rt := fun z μ2 => Fits (c.out a) z μ2 }
section
variable {C : SC} {x m qual : Str} {st : Stmt} {ps N ks : List Str} {c : Con} {k n : Nat} {ix : List Nat} {Cl : Addr}
theorem Dn.fnd (h : Dn C x st ps) (S : FnScope N ps (defScope st)) (wf : c.Wf) (len : ∀ a, c.pre a → (c.args a).length = ps.length) (body : Body C c N st k) : FnD C (k + 1) x ps c := by
  obtain ⟨f, fd, F, hm, hb⟩ := h
  exact ⟨⟨f, fd, Con.fnok F S wf len body, hm, F.kp, hb⟩, wf⟩
theorem Dk.fnk (h : Dk C x st ps n ks ix) (S : FnScope N ps (defScope st)) (wf : c.Wf) (len : ∀ a, c.pre a → (c.args a).length = ps.length) (body : Body C c N st k) : FnK C (k + 1) x ps c n ks ix := by
  obtain ⟨f, fd, F, hm, hb⟩ := h
  exact ⟨⟨f, fd, Con.fnok F S wf len body, hm, F.kp, hb⟩, wf⟩
theorem Mn.mtd (h : Mn C Cl m qual st ps) (hc : Cls C.K Cl) (S : FnScope N ps (defScope st)) (wf : c.Wf) (len : ∀ a, c.pre a → (c.args a).length = ps.length) (body : Body C c N st k) : MtD C (k + 1) Cl m ps c := by
  obtain ⟨f, fd, F, hm, hb⟩ := h
  exact ⟨⟨f, fd, Con.fnok F S wf len body, hm, hb⟩, hc, wf⟩
theorem Mq.mtk (h : Mq C Cl m qual st ps n ks ix) (hc : Cls C.K Cl) (S : FnScope N ps (defScope st)) (wf : c.Wf) (len : ∀ a, c.pre a → (c.args a).length = ps.length) (body : Body C c N st k) : MtK C (k + 1) Cl m ps c n ks ix := by
  obtain ⟨f, fd, F, hm, hb⟩ := h
  exact ⟨⟨f, fd, Con.fnok F S wf len body, hm, hb⟩, hc, wf⟩
theorem In0.mkd (h : In0 C x Cl qual st ps) (S : FnScope N ps (defScope st)) (wf : c.Wf) (len : ∀ a, c.pre a → (c.args a).length = ps.length) (body : Body C c N st k) : MkD C (k + 1) x Cl ps c := by
  obtain ⟨f, fd, F, hm, hg, hb⟩ := h
  exact ⟨⟨f, fd, Con.fnok F S wf len body, hm, hg, hb⟩, wf⟩
theorem InK.mkk (h : InK C x Cl qual st ps n ks ix) (S : FnScope N ps (defScope st)) (wf : c.Wf) (len : ∀ a, c.pre a → (c.args a).length = ps.length) (body : Body C c N st k) : MkK C (k + 1) x Cl ps c n ks ix := by
  obtain ⟨f, fd, F, hm, hg, hb⟩ := h
  exact ⟨⟨f, fd, Con.fnok F S wf len body, hm, hg, hb⟩, wf⟩
end
theorem FnD.to {C : SC} {k : Nat} {x : Str} {ps : List Str} {c : Con} (F : FnD C k x ps c) {N : List Str} {sc : Scope} {r : Nat} : FnD (C.defC N sc r) k x ps c := ⟨F.ex, F.wf⟩
theorem FnD.tb {C : SC} {k : Nat} {x : Str} {ps : List Str} {c : Con} (F : FnD C k x ps c) {N : List Str} {sc s2 : Scope} {r : Nat} : FnD ((C.defC N sc r).blk s2) k x ps c := ⟨F.ex, F.wf⟩
theorem FnK.to {C : SC} {k n : Nat} {x : Str} {ps ks : List Str} {ix : List Nat} {c : Con} (F : FnK C k x ps c n ks ix) {N : List Str} {sc : Scope} {r : Nat} : FnK (C.defC N sc r) k x ps c n ks ix := ⟨F.ex, F.wf⟩
theorem MtD.to {C : SC} {k : Nat} {Cl : Addr} {m : Str} {ps : List Str} {c : Con} (F : MtD C k Cl m ps c) {N : List Str} {sc : Scope} {r : Nat} : MtD (C.defC N sc r) k Cl m ps c := ⟨F.ex, F.cls, F.wf⟩
theorem MtD.tb {C : SC} {k : Nat} {Cl : Addr} {m : Str} {ps : List Str} {c : Con} (F : MtD C k Cl m ps c) {N : List Str} {sc s2 : Scope} {r : Nat} : MtD ((C.defC N sc r).blk s2) k Cl m ps c := ⟨F.ex, F.cls, F.wf⟩
theorem MtK.to {C : SC} {k n : Nat} {Cl : Addr} {m : Str} {ps ks : List Str} {ix : List Nat} {c : Con} (F : MtK C k Cl m ps c n ks ix) {N : List Str} {sc : Scope} {r : Nat} : MtK (C.defC N sc r) k Cl m ps c n ks ix := ⟨F.ex, F.cls, F.wf⟩
theorem MkD.to {C : SC} {k : Nat} {Cl : Addr} {x : Str} {ps : List Str} {c : Con} (F : MkD C k x Cl ps c) {N : List Str} {sc : Scope} {r : Nat} : MkD (C.defC N sc r) k x Cl ps c := ⟨F.ex, F.wf⟩
theorem MkD.tb {C : SC} {k : Nat} {Cl : Addr} {x : Str} {ps : List Str} {c : Con} (F : MkD C k x Cl ps c) {N : List Str} {sc s2 : Scope} {r : Nat} : MkD ((C.defC N sc r).blk s2) k x Cl ps c := ⟨F.ex, F.wf⟩
theorem MkK.to {C : SC} {k n : Nat} {Cl : Addr} {x : Str} {ps ks : List Str} {ix : List Nat} {c : Con} (F : MkK C k x Cl ps c n ks ix) {N : List Str} {sc : Scope} {r : Nat} : MkK (C.defC N sc r) k x Cl ps c n ks ix := ⟨F.ex, F.wf⟩
/-! from the written part -/
section
variable {K : PySem.W.Frag} {h : Heap} {mg : Str → Option Value} {x m qual : Str} {st : Stmt} {ps ks : List Str} {n : Nat} {ix : List Nat} {f Cl : Addr} {oc : Value} {od an : Option Addr} {osl : Array (Option Value)} {kV doc pm cdv ct : Value}
/-- a def's object -/
abbrev FObj (K : PySem.W.Frag) (x qual : Str) (st : Stmt) (f : Addr) : Prop := ∃ (fd : FuncData), Fun K x qual st f fd
/-- the binding of all parameters by place -/
abbrev BindAll (x qual : Str) (st : Stmt) (ps : List Str) : Prop := ∀ (kV doc pm : Value) (an : Option Addr) (cdv ct : Value) (us : List Value), us.length = ps.length → bindArgs (PySem.W.fnOf x qual (defArgs st) (defBody st) (defScope st) .none kV doc pm an cdv ct) ⟨us, []⟩ = pure (ps.zip us)
abbrev BindKw (x qual : Str) (st : Stmt) (ps : List Str) (n : Nat) (ks : List Str) (ix : List Nat) : Prop := ∀ (kV doc pm : Value) (an : Option Addr) (cdv ct : Value) (us ws : List Value), us.length = n → ws.length = ks.length → bindArgs (PySem.W.fnOf x qual (defArgs st) (defBody st) (defScope st) .none kV doc pm an cdv ct) ⟨us, ks.zip ws⟩ = pure (ps.zip (perm ix us ws))
theorem bK {fd : FuncData} (F : Fun K x qual st f fd) (b : BindKw x qual st ps n ks ix) : KBn K fd ps n ks (perm ix) (perm ix) := by
  obtain ⟨oc, od, kV, doc, pm, an, cdv, ct, osl, rfl, lk, hcd⟩ := F.ex
  exact kbn_of (b kV doc pm an cdv ct)
theorem fobj (l : K.lookup f = some ⟨oc, od, .func (PySem.W.fnOf x qual (defArgs st) (defBody st) (defScope st) .none kV doc pm an cdv ct), osl⟩) (c : PySem.W.codeIn K cdv qual = true) (k : PySem.W.keepIn K (.ref f) = true) : FObj K x qual st f := ⟨_, fun_mk (st := st) l c k⟩
variable {C : SC}
theorem dn_of (hK : C.K = K) (hm : C.mg = mg) (X : K.In h) (G : h.Ns mainGlobals mg) (a : PySem.W.nsIn K mainGlobals x = some (some (.ref f))) (F : FObj K x x st f) (b : BindAll x x st ps) : Dn C x st ps := by
  subst hK hm
  obtain ⟨fd, F⟩ := F
  exact ⟨f, fd, F, PySem.W.mg_of X G a, F.binds b⟩
theorem dk_of (hK : C.K = K) (hm : C.mg = mg) (X : K.In h) (G : h.Ns mainGlobals mg) (a : PySem.W.nsIn K mainGlobals x = some (some (.ref f))) (F : FObj K x x st f) (b : BindKw x x st ps n ks ix) : Dk C x st ps n ks ix := by
  subst hK hm
  obtain ⟨fd, F⟩ := F
  exact ⟨f, fd, F, PySem.W.mg_of X G a, bK F b⟩
theorem mn_of (hK : C.K = K) (a : PySem.W.findIn K (.ref Cl) m = some (some (.ref f))) (i : PySem.W.isFn K (.ref f) = true) (F : FObj K m qual st f) (b : BindAll m qual st ps) : Mn C Cl m qual st ps := by
  subst hK
  obtain ⟨fd, F⟩ := F
  exact ⟨f, fd, F, ⟨a, i, F.kp⟩, F.binds b⟩
theorem mq_of (hK : C.K = K) (a : PySem.W.findIn K (.ref Cl) m = some (some (.ref f))) (i : PySem.W.isFn K (.ref f) = true) (F : FObj K m qual st f) (b : BindKw m qual st ps n ks ix) : Mq C Cl m qual st ps n ks ix := by
  subst hK
  obtain ⟨fd, F⟩ := F
  exact ⟨f, fd, F, ⟨a, i, F.kp⟩, bK F b⟩
theorem in_of (hK : C.K = K) (hm : C.mg = mg) (X : K.In h) (G : h.Ns mainGlobals mg) (aC : PySem.W.nsIn K mainGlobals x = some (some (.ref Cl))) (mk : PySem.W.makesIn K Cl = true) (kc : PySem.W.keepIn K (.ref Cl) = true) (a : PySem.W.findIn K (.ref Cl) "__init__" = some (some (.ref f))) (i : PySem.W.isFn K (.ref f) = true)
    (F : FObj K "__init__" qual st f) (b : BindAll "__init__" qual st ps) : In0 C x Cl qual st ps := by
  subst hK hm
  obtain ⟨fd, F⟩ := F
  exact ⟨f, fd, F, ⟨mk, a, i, kc⟩, PySem.W.mg_of X G aC, F.binds b⟩
theorem ink_of (hK : C.K = K) (hm : C.mg = mg) (X : K.In h) (G : h.Ns mainGlobals mg) (aC : PySem.W.nsIn K mainGlobals x = some (some (.ref Cl))) (mk : PySem.W.makesIn K Cl = true) (kc : PySem.W.keepIn K (.ref Cl) = true) (a : PySem.W.findIn K (.ref Cl) "__init__" = some (some (.ref f))) (i : PySem.W.isFn K (.ref f) = true)
    (F : FObj K "__init__" qual st f) (b : BindKw "__init__" qual st ps (n + 1) ks (0 :: ix.map (· + 1))) : InK C x Cl qual st ps n ks ix := by
  subst hK hm
  obtain ⟨fd, F⟩ := F
  exact ⟨f, fd, F, ⟨mk, a, i, kc⟩, PySem.W.mg_of X G aC, bK F b⟩
end
/-! ### defs that change nothing -/
def cP1 {α : Type} (ca : α → D) (pre : α → Prop) (f : α → D) : Con := ⟨α, fun a => [.d (ca a)], fun _ => [], pre, fun a o => o = .ret (.d (f a)) []⟩
def cP2 {α β : Type} (ca : α → D) (cb : β → D) (pre : α → β → Prop) (f : α → β → D) : Con := ⟨α × β, fun a => [.d (ca a.1), .d (cb a.2)], fun _ => [], fun a => pre a.1 a.2, fun a o => o = .ret (.d (f a.1 a.2)) []⟩
def cP3 {α β γ : Type} (ca : α → D) (cb : β → D) (cc : γ → D) (pre : α → β → γ → Prop) (f : α → β → γ → D) : Con := ⟨α × β × γ, fun a => [.d (ca a.1), .d (cb a.2.1), .d (cc a.2.2)], fun _ => [], fun a => pre a.1 a.2.1 a.2.2, fun a o => o = .ret (.d (f a.1 a.2.1 a.2.2)) []⟩
theorem wf_data {α : Type} {args : α → List D} {pre : α → Prop} {f : α → D} : (Con.mk α (fun a => (args a).map XV.d) (fun _ => []) pre fun a o => o = .ret (.d (f a)) []).Wf := by
  refine ⟨fun a _ x hx => ?_, fun a _ m hm => (List.not_mem_nil hm).elim, fun a o _ ho => by cases ho; exact Nat.le_refl _⟩
  obtain ⟨d, _, rfl⟩ := List.mem_map.mp hx
  trivial
theorem wf_cP1 {α : Type} {ca : α → D} {pre : α → Prop} {f : α → D} : (cP1 ca pre f).Wf := wf_data (args := fun a => [ca a]) (f := f) (pre := pre)
theorem wf_cP2 {α β : Type} {ca : α → D} {cb : β → D} {pre : α → β → Prop} {f : α → β → D} : (cP2 ca cb pre f).Wf := wf_data (args := fun a : α × β => [ca a.1, cb a.2]) (f := fun a => f a.1 a.2) (pre := fun a => pre a.1 a.2)
theorem wf_cP3 {α β γ : Type} {ca : α → D} {cb : β → D} {cc : γ → D} {pre : α → β → γ → Prop} {f : α → β → γ → D} : (cP3 ca cb cc pre f).Wf := wf_data (args := fun a : α × β × γ => [ca a.1, cb a.2.1, cc a.2.2]) (f := fun a => f a.1 a.2.1 a.2.2) (pre := fun a => pre a.1 a.2.1 a.2.2)
/-- the ends of a body that changes nothing, and raises nothing -/
def endsP (d : D) : DEnds := { nx := fun _ _ => d = .non, rt := fun z _ => z = .d d }
theorem body_P {C : SC} {c : Con} {N : List Str} {st : Stmt} {k : Nat} (f : c.α → D) (hm : ∀ a, c.mem a = []) (ho : ∀ a, c.out a = fun o => o = .ret (.d (f a)) []) (h : ∀ a, c.pre a → WS (C.defC N (defScope st) k) (defBody st) (startE N (c.args a)) [] noE (endsP (f a))) : Body C c N st k := fun a hp X σ H w A => by
  rw [hm a] at A ⊢
  have A' : At (C.defC N (defScope st) k) X noE (startE N (c.args a)) [] σ H w := ⟨A.has, A.M, A.R, A.T.imp fun cls d σ' H' h => by
    obtain ⟨_, _, _, _, _, _, _, _, _, _, z⟩ := h
    exact z.elim⟩
  refine tS_mono (h a hp X σ H w A') (fun σ' H' q => ?_) (fun v H' q => ?_) (fun _ _ q => ?_) (fun _ _ q => ?_)
  · obtain ⟨ρ', μ', w', R, M, S, q⟩ := q
    have e : f a = .non := q
    exact ⟨ρ', μ', w', R, M, S, [], by rw [ho a, e], ⟨μ', rfl⟩, trivial, fun m hm => (List.not_mem_nil hm).elim⟩
  · obtain ⟨z, μ', w', R, M, S, q⟩ := q
    have e : z = .d (f a) := q
    subst e
    exact ⟨_, μ', w', R, M, S, [], by rw [ho a], ⟨μ', rfl⟩, trivial, fun m hm => (List.not_mem_nil hm).elim⟩
  · obtain ⟨_, _, _, _, _, _, z⟩ := q; exact z.elim
  · obtain ⟨_, _, _, _, _, _, z⟩ := q; exact z.elim
section
variable {C : SC} {E : EPost} {ρ : Env} {μ : Mem} {e e1 e2 e3 : Expr} {kws : List Keyword} {pos p : Pos} {x : Str} {k n : Nat} {ps ks : List Str} {ix : List Nat} {st : Stmt} {N : List Str}
theorem Dn.p1 {α : Type} {ca : α → D} {pre : α → Prop} {f : α → D} {q : Str} (h : Dn C x st [q]) (S : FnScope N [q] (defScope st)) (b : ∀ a, pre a → WS (C.defC N (defScope st) k) (defBody st) (startE N [.d (ca a)]) [] noE (endsP (f a))) : FnD C (k + 1) x [q] (cP1 ca pre f) :=
  h.fnd S wf_cP1 (fun _ _ => rfl) (body_P (c := cP1 ca pre f) f (fun _ => rfl) (fun _ => rfl) b)
theorem Dn.p2 {α β : Type} {ca : α → D} {cb : β → D} {pre : α → β → Prop} {f : α → β → D} {q q2 : Str} (h : Dn C x st [q, q2]) (S : FnScope N [q, q2] (defScope st)) (b : ∀ a b, pre a b → WS (C.defC N (defScope st) k) (defBody st) (startE N [.d (ca a), .d (cb b)]) [] noE (endsP (f a b))) : FnD C (k + 1) x [q, q2] (cP2 ca cb pre f) :=
  h.fnd S wf_cP2 (fun _ _ => rfl) (body_P (c := cP2 ca cb pre f) (fun a => f a.1 a.2) (fun _ => rfl) (fun _ => rfl) fun a hp => b a.1 a.2 hp)
theorem Dn.p3 {α β γ : Type} {ca : α → D} {cb : β → D} {cc : γ → D} {pre : α → β → γ → Prop} {f : α → β → γ → D} {q q2 q3 : Str} (h : Dn C x st [q, q2, q3]) (S : FnScope N [q, q2, q3] (defScope st)) (b : ∀ a b c, pre a b c → WS (C.defC N (defScope st) k) (defBody st) (startE N [.d (ca a), .d (cb b), .d (cc c)]) [] noE (endsP (f a b c))) : FnD C (k + 1) x [q, q2, q3] (cP3 ca cb cc pre f) :=
  h.fnd S wf_cP3 (fun _ _ => rfl) (body_P (c := cP3 ca cb cc pre f) (fun a => f a.1 a.2.1 a.2.2) (fun _ => rfl) (fun _ => rfl) fun a hp => b a.1 a.2.1 a.2.2 hp)
theorem calls_P {c : Con} {xs : List XV} {d : D} {Q : XV → Mem → Prop} {EX : Addr → List (Str × D) → Mem → Prop} (a : c.α) (hp : c.pre a) (ha : c.args a = xs) (hm : c.mem a = []) (ho : ∀ o, c.out a o → o = .ret (.d d) []) (q : Q (.d d) μ) : Calls c xs μ Q EX :=
  ⟨a, μ, hp, ha, by rw [hm]; rfl, fun o hx => by cases ho o hx; exact ⟨.inl (by rw [hm]; rfl), q⟩⟩
theorem p_call {c : Con} {es : List Expr} {xs : List XV} {d : D} (F : FnD C k x ps c) (hk : k ≤ C.room) (hg : C.Glob x) (h : PA C (e :: es) ρ μ E xs) (a : c.α) (hp : c.pre a) (ha : c.args a = xs) (hm : c.mem a = []) (ho : ∀ o, c.out a o → o = .ret (.d d) []) (hdb : (x == ("__debug__" : Str)) = false := by decide)
    (he : ∀ env, starEach (e :: es) env = (false, eval e env) :: starEach es env := by intro _; rfl) (hpl : ∀ env, (backTo pos (starEach es env)).any (·.1) = false := by intro _; rfl) : PV C (.Call (.Name x p) (e :: es) [] pos) ρ μ E (.d d) := fun Q q =>
  we_call F hk hg (h _ (calls_P a hp ha hm ho q)) hdb he hpl
theorem p_call1 {α : Type} {ca : α → D} {pre : α → Prop} {f : α → D} {a : α} (F : FnD C k x ps (cP1 ca pre f)) (hk : k ≤ C.room) (hg : C.Glob x) (h : PV C e1 ρ μ E (.d (ca a))) (hp : pre a) (hdb : (x == ("__debug__" : Str)) = false := by decide) (he : ∀ env, starEach [e1] env = (false, eval e1 env) :: starEach [] env := by intro _; rfl) : PV C (.Call (.Name x p) [e1] [] pos) ρ μ E (.d (f a)) :=
  p_call F hk hg (pa_cs h pa_nl he) a hp rfl rfl (fun o h => h) hdb he
theorem p_call2 {α β : Type} {ca : α → D} {cb : β → D} {pre : α → β → Prop} {f : α → β → D} {a : α} {b : β} (F : FnD C k x ps (cP2 ca cb pre f)) (hk : k ≤ C.room) (hg : C.Glob x) (h : PV C e1 ρ μ E (.d (ca a))) (h2 : PV C e2 ρ μ E (.d (cb b))) (hp : pre a b) (hdb : (x == ("__debug__" : Str)) = false := by decide)
    (he : ∀ env, starEach [e1, e2] env = (false, eval e1 env) :: starEach [e2] env := by intro _; rfl) (he2 : ∀ env, starEach [e2] env = (false, eval e2 env) :: starEach [] env := by intro _; rfl) (hpl : ∀ env, (backTo pos (starEach [e2] env)).any (·.1) = false := by intro _; rfl) : PV C (.Call (.Name x p) [e1, e2] [] pos) ρ μ E (.d (f a b)) :=
  p_call F hk hg (pa_cs h (pa_cs h2 pa_nl he2) he) (a, b) hp rfl rfl (fun o h => h) hdb he hpl
theorem p_call3 {α β γ : Type} {ca : α → D} {cb : β → D} {cc : γ → D} {pre : α → β → γ → Prop} {f : α → β → γ → D} {a : α} {b : β} {c : γ} (F : FnD C k x ps (cP3 ca cb cc pre f)) (hk : k ≤ C.room) (hg : C.Glob x) (h : PV C e1 ρ μ E (.d (ca a))) (h2 : PV C e2 ρ μ E (.d (cb b))) (h3 : PV C e3 ρ μ E (.d (cc c))) (hp : pre a b c) (hdb : (x == ("__debug__" : Str)) = false := by decide)
    (he : ∀ env, starEach [e1, e2, e3] env = (false, eval e1 env) :: starEach [e2, e3] env := by intro _; rfl) (he2 : ∀ env, starEach [e2, e3] env = (false, eval e2 env) :: starEach [e3] env := by intro _; rfl) (he3 : ∀ env, starEach [e3] env = (false, eval e3 env) :: starEach [] env := by intro _; rfl) (hpl : ∀ env, (backTo pos (starEach [e2, e3] env)).any (·.1) = false := by intro _; rfl) : PV C (.Call (.Name x p) [e1, e2, e3] [] pos) ρ μ E (.d (f a b c)) :=
  p_call F hk hg (pa_cs h (pa_cs h2 (pa_cs h3 pa_nl he3) he2) he) (a, b, c) hp rfl rfl (fun o h => h) hdb he hpl
/-- return of a value that changes nothing -/
theorem w1_retP {d : D} {rest : List Stmt} (h : PV C e ρ μ E (.d d)) : WS C (.Return (some e) pos :: rest) ρ μ E (endsP d) := ws_cons (w1_ret (h.go rfl))
end
end DL
set_option maxRecDepth 100000
set_option maxHeartbeats 2000000
namespace DL
open PySem L2 PySem.Spec PyProof.Rows
/-! ### the built-in names -/
theorem bt_abs : bootBuiltins "abs" = some (.builtin "abs") := by decide +kernel
theorem bt_all : bootBuiltins "all" = some (.builtin "all") := by decide +kernel
theorem bt_any : bootBuiltins "any" = some (.builtin "any") := by decide +kernel
theorem bt_bool : bootBuiltins "bool" = some (.type "bool") := by decide +kernel
theorem bt_int : bootBuiltins "int" = some (.type "int") := by decide +kernel
theorem bt_isinstance : bootBuiltins "isinstance" = some (.builtin "isinstance") := by decide +kernel
theorem bt_list : bootBuiltins "list" = some (.type "list") := by decide +kernel
theorem bt_max : bootBuiltins "max" = some (.builtin "max") := by decide +kernel
theorem bt_min : bootBuiltins "min" = some (.builtin "min") := by decide +kernel
theorem bt_repr : bootBuiltins "repr" = some (.builtin "repr") := by decide +kernel
theorem bt_set : bootBuiltins "set" = some (.type "set") := by decide +kernel
theorem bt_sorted : bootBuiltins "sorted" = some (.builtin "sorted") := by decide +kernel
theorem bt_str : bootBuiltins "str" = some (.type "str") := by decide +kernel
theorem bt_sum : bootBuiltins "sum" = some (.builtin "sum") := by decide +kernel
theorem bt_tuple : bootBuiltins "tuple" = some (.type "tuple") := by decide +kernel
theorem bt_dict : bootBuiltins "dict" = some (.type "dict") := by decide +kernel
theorem bt_type : bootBuiltins "type" = some (.type "type") := by decide +kernel
/-- names that the module does not take -/
structure Blts (mg : Str → Option Value) : Prop where
  abs : mg "abs" = none
  all : mg "all" = none
  any : mg "any" = none
  bool : mg "bool" = none
  int : mg "int" = none
  isinstance : mg "isinstance" = none
  len : mg "len" = none
  list : mg "list" = none
  max : mg "max" = none
  min : mg "min" = none
  range : mg "range" = none
  repr : mg "repr" = none
  set : mg "set" = none
  sorted : mg "sorted" = none
  str : mg "str" = none
  sum : mg "sum" = none
  tuple : mg "tuple" = none
  zip : mg "zip" = none
  dict : mg "dict" = none
  type : mg "type" = none
  enumerate : mg "enumerate" = none
section
variable {C : SC} {E : EPost} {ρ : Env} {μ : Mem} {e e1 e2 : Expr} {pos p p2 : Pos} {x : Str} {Q : XV → Mem → Prop}
theorem p_isi {y : XV} {T : String} {t : Value} {b : Bool} (B : Blts C.mg) (hg : C.Glob "isinstance") (h : PV C e ρ μ E y) (hg2 : C.Glob x) (hm : C.mg x = none) (hv : bootBuiltins x = some (.type T)) (ty : TyD2 C.K y t) (hk : PySem.W.kitOne C.K t (.type T) = some b) (hn : x ≠ "__name__" := by decide) (hd : (x == ("__debug__" : Str)) = false := by decide)
   (he : ∀ env, starEach [e, .Name x p2] env = (false, eval e env) :: starEach [.Name x p2] env := by intro _; rfl) : PV C (.Call (.Name "isinstance" p) [e, .Name x p2] [] pos) ρ μ E (.d (.bl b)) :=
  p_blt hg B.isinstance bt_isinstance (.inl ⟨_, rfl⟩) (pa_cs h (pa_cs (p_bty hg2 hm hv hn hd) pa_nl (by intro _; rfl)) he) (fun _ q => gc_isi ty hk q) (by decide) (by decide) he (by intro _; rfl)
theorem p_isiC {y : XV} {Cl : Addr} {t : Value} {b : Bool} (B : Blts C.mg) (hg : C.Glob "isinstance") (h : PV C e ρ μ E y) (hg2 : C.Glob x) (hm : C.mg x = some (.ref Cl)) (ty : TyD2 C.K y t) (hk : PySem.W.kitOne C.K t (.ref Cl) = some b) (hd : (x == ("__debug__" : Str)) = false := by decide)
   (he : ∀ env, starEach [e, .Name x p2] env = (false, eval e env) :: starEach [.Name x p2] env := by intro _; rfl) : PV C (.Call (.Name "isinstance" p) [e, .Name x p2] [] pos) ρ μ E (.d (.bl b)) :=
  p_blt hg B.isinstance bt_isinstance (.inl ⟨_, rfl⟩) (pa_cs h (pa_cs (p_globR hg2 hm hd) pa_nl (by intro _; rfl)) he) (fun _ q => gc_isiC ty hk q) (by decide) (by decide) he (by intro _; rfl)
/-- a module's number, a module's text -/
def GI (mg : Str → Option Value) (x : Str) (i : Int) : Prop := ∃ t, mg x = some (.int i t)
def GT (mg : Str → Option Value) (x : Str) (l : List Nat) : Prop := ∃ s t, mg x = some (.str s t) ∧ s.cps.toList = l
theorem p_gI {i : Int} (hg : C.Glob x) (h : GI C.mg x i) (hd : (x == ("__debug__" : Str)) = false := by decide) : PV C (.Name x pos) ρ μ E (.d (.int i)) := by
  obtain ⟨t, h⟩ := h
  exact p_globI hg h hd
theorem p_gT {l : List Nat} (hg : C.Glob x) (h : GT C.mg x l) (hd : (x == ("__debug__" : Str)) = false := by decide) : PV C (.Name x pos) ρ μ E (.d (.txt l)) := by
  obtain ⟨s, t, h, e⟩ := h
  exact p_globT hg h e hd
/-- kit answers of two built-in types -/
theorem kit1 {K : PySem.W.Frag} {a b : String} {r : Bool} (h : kitB a b = some r) : PySem.W.kitOne K (.type a) (.type b) = some r := kit_ty h
theorem k_ii : kitB "int" "int" = some true := by decide +kernel
theorem k_ib : kitB "int" "bool" = some false := by decide +kernel
theorem k_is' : kitB "int" "str" = some false := by decide +kernel
theorem k_ss : kitB "str" "str" = some true := by decide +kernel
theorem k_ll : kitB "list" "list" = some true := by decide +kernel
theorem k_tt : kitB "tuple" "tuple" = some true := by decide +kernel
theorem p_abs {i : Int} (B : Blts C.mg) (hg : C.Glob "abs") (h : PV C e ρ μ E (.d (.int i))) (he : ∀ env, starEach [e] env = (false, eval e env) :: starEach [] env := by intro _; rfl) : PV C (.Call (.Name "abs" p) [e] [] pos) ρ μ E (.d (.int (if i < 0 then -i else i))) :=
  p_blt hg B.abs bt_abs (.inl ⟨_, rfl⟩) (pa_cs h pa_nl he) (fun _ q => gc_abs q) (by decide) (by decide) he
theorem p_max {i j : Int} (B : Blts C.mg) (hg : C.Glob "max") (h : PV C e1 ρ μ E (.d (.int i))) (h2 : PV C e2 ρ μ E (.d (.int j))) (he : ∀ env, starEach [e1, e2] env = (false, eval e1 env) :: starEach [e2] env := by intro _; rfl) (he2 : ∀ env, starEach [e2] env = (false, eval e2 env) :: starEach [] env := by intro _; rfl) (hpl : ∀ env, (backTo pos (starEach [e2] env)).any (·.1) = false := by intro _; rfl) :
    PV C (.Call (.Name "max" p) [e1, e2] [] pos) ρ μ E (.d (.int (if j > i then j else i))) := p_blt hg B.max bt_max (.inl ⟨_, rfl⟩) (pa_cs h (pa_cs h2 pa_nl he2) he) (fun _ q => gc_max2 q) (by decide) (by decide) he hpl
theorem p_min {i j : Int} (B : Blts C.mg) (hg : C.Glob "min") (h : PV C e1 ρ μ E (.d (.int i))) (h2 : PV C e2 ρ μ E (.d (.int j))) (he : ∀ env, starEach [e1, e2] env = (false, eval e1 env) :: starEach [e2] env := by intro _; rfl) (he2 : ∀ env, starEach [e2] env = (false, eval e2 env) :: starEach [] env := by intro _; rfl) (hpl : ∀ env, (backTo pos (starEach [e2] env)).any (·.1) = false := by intro _; rfl) :
    PV C (.Call (.Name "min" p) [e1, e2] [] pos) ρ μ E (.d (.int (if j < i then j else i))) := p_blt hg B.min bt_min (.inl ⟨_, rfl⟩) (pa_cs h (pa_cs h2 pa_nl he2) he) (fun _ q => gc_min2 q) (by decide) (by decide) he hpl
theorem p_intB {b : Bool} (B : Blts C.mg) (hg : C.Glob "int") (h : PV C e ρ μ E (.d (.bl b))) (he : ∀ env, starEach [e] env = (false, eval e env) :: starEach [] env := by intro _; rfl) : PV C (.Call (.Name "int" p) [e] [] pos) ρ μ E (.d (.int (if b then 1 else 0))) :=
  p_blt hg B.int bt_int (.inr ⟨_, rfl⟩) (pa_cs h pa_nl he) (fun _ q => gc_int_bl q) (by decide) (by decide) he
theorem p_all {bs : List Bool} (B : Blts C.mg) (hg : C.Glob "all") (h : PV C e ρ μ E (.d (.lst (bs.map D.bl)))) (he : ∀ env, starEach [e] env = (false, eval e env) :: starEach [] env := by intro _; rfl) : PV C (.Call (.Name "all" p) [e] [] pos) ρ μ E (.d (.bl (bs.all id))) :=
  p_blt hg B.all bt_all (.inl ⟨_, rfl⟩) (pa_cs h pa_nl he) (fun _ q => gc_all q) (by decide) (by decide) he
theorem p_any {bs : List Bool} (B : Blts C.mg) (hg : C.Glob "any") (h : PV C e ρ μ E (.d (.lst (bs.map D.bl)))) (he : ∀ env, starEach [e] env = (false, eval e env) :: starEach [] env := by intro _; rfl) : PV C (.Call (.Name "any" p) [e] [] pos) ρ μ E (.d (.bl (bs.any id))) :=
  p_blt hg B.any bt_any (.inl ⟨_, rfl⟩) (pa_cs h pa_nl he) (fun _ q => gc_any q) (by decide) (by decide) he
theorem p_sum {ns : List Int} (B : Blts C.mg) (hg : C.Glob "sum") (h : PV C e ρ μ E (.d (.lst (ns.map D.int)))) (he : ∀ env, starEach [e] env = (false, eval e env) :: starEach [] env := by intro _; rfl) : PV C (.Call (.Name "sum" p) [e] [] pos) ρ μ E (.d (.int ns.sum)) :=
  p_blt hg B.sum bt_sum (.inl ⟨_, rfl⟩) (pa_cs h pa_nl he) (fun _ q => gc_sum q) (by decide) (by decide) he
theorem p_repr {d : D} (B : Blts C.mg) (hg : C.Glob "repr") (gd : C.g = true) (h : PV C e ρ μ E (.d d)) (hx : d.okEq) (hs : d.isSeq) (hs2 : d.py.showable = true) (hz : d.py.shown.length ≤ sizeLine) (he : ∀ env, starEach [e] env = (false, eval e env) :: starEach [] env := by intro _; rfl) : PV C (.Call (.Name "repr" p) [e] [] pos) ρ μ E (.d (.txt d.py.shown.cps.toList)) :=
  p_blt hg B.repr bt_repr (.inl ⟨_, rfl⟩) (pa_cs h pa_nl he) (fun _ q => gc_repr gd hx hs hs2 hz q) (by decide) (by decide) he
theorem p_tupleL {ds : List D} (B : Blts C.mg) (hg : C.Glob "tuple") (h : PV C e ρ μ E (.d (.lst ds))) (he : ∀ env, starEach [e] env = (false, eval e env) :: starEach [] env := by intro _; rfl) : PV C (.Call (.Name "tuple" p) [e] [] pos) ρ μ E (.d (.tup ds)) :=
  p_blt hg B.tuple bt_tuple (.inr ⟨_, rfl⟩) (pa_cs h pa_nl he) (fun _ q => gc_tuple_lst q) (by decide) (by decide) he
theorem p_listL {ds : List D} (B : Blts C.mg) (hg : C.Glob "list") (h : PV C e ρ μ E (.d (.lst ds))) (he : ∀ env, starEach [e] env = (false, eval e env) :: starEach [] env := by intro _; rfl) : PV C (.Call (.Name "list" p) [e] [] pos) ρ μ E (.d (.lst ds)) :=
  p_blt hg B.list bt_list (.inr ⟨_, rfl⟩) (pa_cs h pa_nl he) (fun _ q => gc_list_lst q) (by decide) (by decide) he
theorem p_listU {ds : List D} (B : Blts C.mg) (hg : C.Glob "list") (h : PV C e ρ μ E (.d (.tup ds))) (he : ∀ env, starEach [e] env = (false, eval e env) :: starEach [] env := by intro _; rfl) : PV C (.Call (.Name "list" p) [e] [] pos) ρ μ E (.d (.lst ds)) :=
  p_blt hg B.list bt_list (.inr ⟨_, rfl⟩) (pa_cs h pa_nl he) (fun _ q => gc_list_tup q) (by decide) (by decide) he
end
/-! ### a law's store: numbers that the draws use up -/
structure DS where
  cells : List Int
  at_ : Int
  mix : Int
def DS.mem (S : DS) : Mem := [some (.lst (S.cells.map fun i => .d (.int i))), some (.lst [.l 0, .d (.int S.at_), .d (.int S.mix)])]
def DS.ok (S : DS) : Prop := S.cells ≠ [] ∧ S.cells.length ≤ 64 ∧ (∀ i ∈ S.cells, 0 ≤ i) ∧ 0 ≤ S.at_ ∧ 0 ≤ S.mix ∧ S.mix < 2147483647
theorem DS.mem_below (S : DS) : ∀ m, some m ∈ S.mem → m.below 2 := by
  intro m h
  unfold DS.mem at h
  simp only [List.mem_cons, Option.some.injEq, List.not_mem_nil, or_false] at h
  rcases h with rfl | rfl
  · intro x hx
    obtain ⟨i, _, rfl⟩ := List.mem_map.mp hx
    trivial
  · intro x hx
    simp only [List.mem_cons, List.not_mem_nil, or_false] at hx
    rcases hx with rfl | rfl | rfl
    · show 0 < 2; decide
    · trivial
    · trivial
/-- a def that takes the store, and data; it answers data, of which the law knows post -/
def cSt (α : Type) (args : α → List D) (pre : α → Prop) (post : α → D → Prop) : Con := ⟨DS × α, fun a => .l 1 :: (args a.2).map XV.d, fun a => a.1.mem, fun a => a.1.ok ∧ pre a.2, fun a o => ∃ (d : D) (S' : DS), o = .ret (.d d) (DS.mem S') ∧ S'.ok ∧ post a.2 d⟩
theorem wf_cSt {α : Type} {args : α → List D} {pre : α → Prop} {post : α → D → Prop} : (cSt α args pre post).Wf := by
  refine ⟨fun a _ x hx => ?_, fun a _ => a.1.mem_below, fun a o _ ho => ?_⟩
  · have hx' : x ∈ XV.l 1 :: (args a.2).map XV.d := hx
    rcases List.mem_cons.mp hx' with rfl | h
    · show 1 < 2; decide
    · obtain ⟨d, _, rfl⟩ := List.mem_map.mp h
      trivial
  · obtain ⟨d, S', rfl, _⟩ := ho
    exact Nat.le_refl _
/-- a call with the store -/
theorem calls_S {α : Type} {args : α → List D} {pre : α → Prop} {post : α → D → Prop} {xs : List XV} {S : DS} {μr : Mem} {Q : XV → Mem → Prop} {EX : Addr → List (Str × D) → Mem → Prop} (a : α) (hS : S.ok) (hp : pre a) (hx : xs = .l 1 :: (args a).map XV.d) (q : ∀ (d : D) (S' : DS), S'.ok → post a d → Q (.d d) (S'.mem ++ μr)) : Calls (cSt α args pre post) xs (S.mem ++ μr) Q EX :=
  ⟨(S, a), μr, ⟨hS, hp⟩, hx.symm, rfl, fun o ho => by
    obtain ⟨d, S', rfl, h1, h2⟩ := ho
    exact ⟨.inl rfl, q d S' h1 h2⟩⟩
theorem DS.mem_nil (S : DS) : S.mem = S.mem ++ [] := by simp
/-- what ends a body that has the store -/
theorem fits_S {α : Type} {args : α → List D} {pre : α → Prop} {post : α → D → Prop} {a : (cSt α args pre post).α} {S : DS} {d : D} {μr : Mem} (hS : S.ok) (hp : post a.2 d) : Fits ((cSt α args pre post).out a) (.d d) (S.mem ++ μr) :=
  ⟨S.mem, ⟨d, S, rfl, hS, hp⟩, ⟨μr, rfl⟩, trivial, S.mem_below⟩
end DL
set_option maxRecDepth 100000
set_option maxHeartbeats 2000000
namespace DL
open PySem L2 PySem.Spec PyProof.Rows
theorem SC.Nm.of {C : SC} {i : Nat} {x : Str} (nd : C.N.Nodup) (hN : C.N[i]? = some x := by rfl) (loc : Loc C.sc x := by first | exact .inl rfl | exact .inr rfl) (own : C.own x = true := by rfl) : C.Nm i x := ⟨nd, hN, loc, own⟩
section
variable {C : SC} {E : EPost} {ρ : Env} {μ : Mem} {e e1 e2 c tg iter : Expr} {pos p p2 : Pos} {x : Str} {Q : XV → Mem → Prop} {D : DEnds} {rest body : List Stmt}
theorem p_vr (i : Nat) {v : XV} (hN : C.N[i]? = some x) (h : ρ[i]? = some (some v)) (hv : C.Vis x := by first | exact .inl rfl | exact .inr (.inl rfl) | exact .inr (.inr rfl)) (hd : (x == ("__debug__" : Str)) = false := by decide) (hcd : (x == ("__classdict__" : Str)) = false := by decide) : PV C (.Name x pos) ρ μ E v := fun _ q => we_var i hN hv h q hd hcd
/-- a, b = e1, e2 and a, b, c = e1, e2, e3: plain local names -/
theorem w1_pr {i j : Nat} {a b : Expr} {y : Str} {px py pt pt2 : Pos} {kt k2 : Nat} (n : C.Nm i x) (n2 : C.Nm j y) (hij : i ≠ j) (h : WE C a ρ μ E fun u μ1 => WE C b ρ μ1 E fun v μ2 => D.nx ((ρ.set i (some u)).set j (some v)) μ2)
    (hx : C.sc.names.lookup x = some .local := by rfl) (hy : C.sc.names.lookup y = some .local := by rfl) (hw : ∀ env : PySem.Env, env.scope = C.sc → swappedStores [.Tuple [.Name x px, .Name y py] kt pt] (.Tuple [a, b] k2 pt2) env = pure (some [x, y]) := by intro env h; cases env; simp only at h; subst h; rfl)
    (hs : ∀ env, swapsWithSole [.Tuple [.Name x px, .Name y py] kt pt] (.Tuple [a, b] k2 pt2) pos.line env = pure false := by intro _; rfl)
    (h1 : ∀ env, starEach [a, b] env = (false, eval a env) :: starEach [b] env := by intro _; rfl) (h2 : ∀ env, starEach [b] env = (false, eval b env) :: starEach [] env := by intro _; rfl) :
    WS1 C (.Assign [.Tuple [.Name x px, .Name y py] kt pt] (.Tuple [a, b] k2 pt2) pos) ρ μ E D := w1_par n n2 hij hx hy h (fun X hX => hw X.env hX.sc) hs h1 h2
theorem w1_pr3 {i j l : Nat} {a b c : Expr} {y z : Str} {px py pz pt pt2 : Pos} {kt k2 : Nat} (n : C.Nm i x) (n2 : C.Nm j y) (n3 : C.Nm l z) (hij : i ≠ j ∧ i ≠ l ∧ j ≠ l) (h : WE C a ρ μ E fun u μ1 => WE C b ρ μ1 E fun v μ2 => WE C c ρ μ2 E fun w μ3 => D.nx (((ρ.set i (some u)).set j (some v)).set l (some w)) μ3)
    (hx : C.sc.names.lookup x = some .local := by rfl) (hy : C.sc.names.lookup y = some .local := by rfl) (hz : C.sc.names.lookup z = some .local := by rfl) (hw : ∀ env : PySem.Env, env.scope = C.sc → swappedStores [.Tuple [.Name x px, .Name y py, .Name z pz] kt pt] (.Tuple [a, b, c] k2 pt2) env = pure (some [x, y, z]) := by intro env h; cases env; simp only at h; subst h; rfl)
    (hs : ∀ env, swapsWithSole [.Tuple [.Name x px, .Name y py, .Name z pz] kt pt] (.Tuple [a, b, c] k2 pt2) pos.line env = pure false := by intro _; rfl)
    (h1 : ∀ env, starEach [a, b, c] env = (false, eval a env) :: starEach [b, c] env := by intro _; rfl) (h2 : ∀ env, starEach [b, c] env = (false, eval b env) :: starEach [c] env := by intro _; rfl) (h3 : ∀ env, starEach [c] env = (false, eval c env) :: starEach [] env := by intro _; rfl) :
    WS1 C (.Assign [.Tuple [.Name x px, .Name y py, .Name z pz] kt pt] (.Tuple [a, b, c] k2 pt2) pos) ρ μ E D := fun X σ H w A =>
  tS1_of (ps_par3 (i := i) (j := j) (l := l) A.has.calm (by rw [A.has.N]; exact n.nd) (by rw [A.has.N]; exact n.at_) (by rw [A.has.N]; exact n2.at_) (by rw [A.has.N]; exact n3.at_) hij.1 hij.2.1 hij.2.2 (by rw [A.has.sc]; exact hx) (by rw [A.has.sc]; exact hy) (by rw [A.has.sc]; exact hz) (pa_cons pe_tE (pa_cons pe_tE (pa_cons pe_tE pa_nil (h3 _)) (h2 _)) (h1 _)) (hw X.env A.has.sc) (hs _))
    (h.go A fun v H1 z μ1 w1 r1 A1 S1 q1 => q1.go A1 fun v2 H2 z2 μ2 w2 r2 A2 S2 q2 => q2.go A2 fun v3 H3 z3 μ3 w3 r3 A3 S3 q3 => ⟨v, v2, v3, rfl, _, μ3, w3, ((A3.R.put ((r1.stp S2).stp S3) i).put (r2.stp S3) j).put r3 l, A3.M, (S1.trans S2).trans S3, q3⟩)
theorem w1_retQ {z : XV} (h : PV C e ρ μ E z) (q : D.rt z μ) : WS C (.Return (some e) pos :: rest) ρ μ E D := ws_cons (w1_ret (h.go q))
theorem w1_retW (h : WE C e ρ μ E D.rt) : WS C (.Return (some e) pos :: rest) ρ μ E D := ws_cons (w1_ret h)
/-- a loop that changes no cell: I by the turn and the names -/
theorem w1_forP {t : Tg} (I : Nat → Env → Prop) (ht : TgOk C tg t) (h : WI C tg iter ρ μ E fun items G μ1 => μ1 = μ ∧ G μ ∧ I 0 ρ ∧ (∀ (i : Nat) x ρ', items[i]? = some x → I i ρ' → ∃ ρ2, t.put x ρ' ρ2 ∧ WS C body ρ2 μ E { D with nx := fun ρ3 μ3 => μ3 = μ ∧ I (i + 1) ρ3, ct := fun ρ3 μ3 => μ3 = μ ∧ I (i + 1) ρ3, bk := D.nx }) ∧ (∀ ρ', I items.length ρ' → D.nx ρ' μ))
    (hs : ∀ env x, foldedSetIterable iter env x = pure x := by intro _ _; rfl) : WS1 C (.For tg iter body [] pos) ρ μ E D := by
  refine w1_for ht (fun X σ H w A => ?_) hs
  obtain ⟨wi, h1, h2⟩ := h X σ H w A
  refine ⟨wi, h1, fun P k => h2 P fun J H1 items G μ1 w1 A1 S1 dit g0 ⟨em, g1, i0, st, fin⟩ => k J H1 items G μ1 w1 A1 S1 dit g0 ?_⟩
  subst em
  refine ⟨fun i ρ' μ' => μ' = μ1 ∧ I i ρ', ⟨rfl, i0⟩, fun i ρ' μ' _ hp => by rw [hp.1]; exact g1, fun i x ρ' μ' hx hp => ?_, fun ρ' μ' hp => by rw [hp.1]; exact fin ρ' hp.2⟩
  obtain ⟨rfl, hI⟩ := hp
  obtain ⟨ρ2, hput, hb⟩ := st i x ρ' hx hI
  refine ⟨ρ2, hput, fun X σ H w A => ?_⟩
  exact tS_mono (hb X σ H w A) (fun _ _ ⟨ρ3, μ3, w3, R, M, S, q⟩ => ⟨ρ3, μ3, w3, R, M, S, Wk.of q⟩) (fun _ _ q => q) (fun _ _ q => q) (fun _ _ ⟨ρ3, μ3, w3, R, M, S, q⟩ => ⟨ρ3, μ3, w3, R, M, S, Wk.of q⟩)
/-- while, no cell changed: I by what is left -/
theorem w1_whileP (I : Nat → Env → Prop) (m0 : Nat) (h0 : I m0 ρ) (hs : ∀ m ρ', I m ρ' → ∃ b, PB C c ρ' μ E b ∧ (b = true → WS C body ρ' μ E { D with nx := fun ρ3 μ3 => μ3 = μ ∧ ∃ m', m' < m ∧ I m' ρ3, ct := fun ρ3 μ3 => μ3 = μ ∧ ∃ m', m' < m ∧ I m' ρ3, bk := D.nx }) ∧ (b = false → D.nx ρ' μ)) : WS1 C (.While c body [] pos) ρ μ E D := by
  refine w1_while (fun m ρ' μ' => μ' = μ ∧ I m ρ') m0 ⟨rfl, h0⟩ fun m ρ' μ' hp => ?_
  obtain ⟨rfl, hI⟩ := hp
  obtain ⟨b, hb, h1, h2⟩ := hs m ρ' hI
  refine hb.go ⟨fun e => ?_, h2⟩
  exact fun X σ H w A => tS_mono (h1 e X σ H w A) (fun _ _ ⟨ρ3, μ3, w3, R, M, S, q1, m', q2, q3⟩ => ⟨ρ3, μ3, w3, R, M, S, Wk.of ⟨m', q2, q1, q3⟩⟩) (fun _ _ q => q) (fun _ _ q => q) (fun _ _ ⟨ρ3, μ3, w3, R, M, S, q1, m', q2, q3⟩ => ⟨ρ3, μ3, w3, R, M, S, Wk.of ⟨m', q2, q1, q3⟩⟩)
/-- tuples put together -/
theorem go_add_tup {a b : List DL.D} (ha : a ≠ []) (hz : a.length + b.length ≤ sizeLine) (q : Q (.d (.tup (a ++ b))) μ) : Go2 C (binaryOp .Add) (.d (.tup a)) (.d (.tup b)) μ Q := fun X hX H w vx vy M rx ry => by
  obtain ⟨p, xs, rfl, n1, h1, r1⟩ := rx
  obtain ⟨p', ys, rfl, n2, h2, r2⟩ := ry
  have hx : xs ≠ [] := fun e0 => ha (List.length_eq_zero_iff.mp (by rw [← r1.len, e0]; rfl))
  refine rS_of op_catT ⟨p, p', xs, ys, rfl, rfl, SqT.of h1, SqT.of h2, hx, by rw [r1.len, r2.len]; exact hz, fun e0 => ?_, fun _ l hl => ?_⟩
  · have hb : b = [] := List.length_eq_zero_iff.mp (by rw [← r2.len, e0]; rfl)
    subst hb
    exact lift.now M (x := .d (.tup (a ++ []))) ⟨p, xs, rfl, n1, h1, by rw [List.append_nil]; exact r1⟩ q
  · exact lift.new M hl (x := .tup (a ++ b)) (fun nl => ⟨l, xs ++ ys, rfl, nl, upd_same, Reps.append (r1.grow hl) (r2.grow hl)⟩) q
theorem p_addU {a b : List DL.D} {l r : Expr} (h1 : PV C l ρ μ E (.d (.tup a))) (h2 : PV C r ρ μ E (.d (.tup b))) (ha : a ≠ []) (hz : a.length + b.length ≤ sizeLine) : PV C (.BinOp l .Add r pos) ρ μ E (.d (.tup (a ++ b))) := p_bin h1 h2 fun _ q => go_add_tup ha hz q
theorem p_lcS {elt : Expr} {scope : Scope} {own : List (Str × Nat)} {n : Nat} {ns : List Int} {g : Int → DL.D} (ht : TgOk (C.blk scope) tg (.nm n)) (nd : C.N.Nodup) (ok : BlkOk C.N C.sc scope own) (hsl : n ∈ own.map (·.2)) (hi : PV C iter ρ μ E (.d (.scr ns))) (h : ∀ c, c ∈ ns → PV (C.blk scope) elt ((wipeE ρ (own.map (·.2))).set n (some (.d (.int c)))) μ noE (.d (g c))) (hz : ns.length ≤ sizeLine)
    (hs : ∀ env x, foldedSetIterable iter env x = pure x := by intro _ _; rfl) : PV C (.ListComp elt [⟨tg, iter, [], 0⟩] scope pos) ρ μ E (.d (.lst (ns.map g))) := fun Q q =>
  we_lc ht nd ok (by intro j hj; simp only [Tg.slots, List.mem_singleton] at hj; subst hj; exact hsl) (wi_scr (hi _ ⟨ns, rfl, by
    refine lc_map (fun x => match x with | .d (.int c) => g c | _ => .non) (by simpa using hz) trivial (fun x hx => ?_) ?_
    · obtain ⟨c, hc, rfl⟩ := List.mem_map.mp hx
      exact ⟨_, rfl, h c hc _ ⟨rfl, rfl⟩⟩
    · rw [List.map_map]; exact q⟩)) hs
end
section
variable {C : SC} {k : Nat} {N : List Str} {st : Stmt} {Cl : Addr} {m qual : Str}
theorem Mn.p1 {α : Type} {ca : α → D} {pre : α → Prop} {f : α → D} {q : Str} (h : Mn C Cl m qual st [q]) (hc : Cls C.K Cl) (S : FnScope N [q] (defScope st)) (b : ∀ a, pre a → WS (C.defC N (defScope st) k) (defBody st) (startE N [.d (ca a)]) [] noE (endsP (f a))) : MtD C (k + 1) Cl m [q] (cP1 ca pre f) :=
  h.mtd hc S wf_cP1 (fun _ _ => rfl) (body_P (c := cP1 ca pre f) f (fun _ => rfl) (fun _ => rfl) b)
theorem Mn.p2 {α β : Type} {ca : α → D} {cb : β → D} {pre : α → β → Prop} {f : α → β → D} {q q2 : Str} (h : Mn C Cl m qual st [q, q2]) (hc : Cls C.K Cl) (S : FnScope N [q, q2] (defScope st)) (b : ∀ a b, pre a b → WS (C.defC N (defScope st) k) (defBody st) (startE N [.d (ca a), .d (cb b)]) [] noE (endsP (f a b))) : MtD C (k + 1) Cl m [q, q2] (cP2 ca cb pre f) :=
  h.mtd hc S wf_cP2 (fun _ _ => rfl) (body_P (c := cP2 ca cb pre f) (fun a => f a.1 a.2) (fun _ => rfl) (fun _ => rfl) fun a hp => b a.1 a.2 hp)
theorem Mn.p3 {α β γ : Type} {ca : α → D} {cb : β → D} {cc : γ → D} {pre : α → β → γ → Prop} {f : α → β → γ → D} {q q2 q3 : Str} (h : Mn C Cl m qual st [q, q2, q3]) (hc : Cls C.K Cl) (S : FnScope N [q, q2, q3] (defScope st)) (b : ∀ a b c, pre a b c → WS (C.defC N (defScope st) k) (defBody st) (startE N [.d (ca a), .d (cb b), .d (cc c)]) [] noE (endsP (f a b c))) : MtD C (k + 1) Cl m [q, q2, q3] (cP3 ca cb cc pre f) :=
  h.mtd hc S wf_cP3 (fun _ _ => rfl) (body_P (c := cP3 ca cb cc pre f) (fun a => f a.1 a.2.1 a.2.2) (fun _ => rfl) (fun _ => rfl) fun a hp => b a.1 a.2.1 a.2.2 hp)
end
section
variable {C : SC} {E : EPost} {ρ : Env} {μ : Mem} {e e1 e2 o : Expr} {pos p p2 apos cpos : Pos} {x m : Str} {Cl : Addr} {k : Nat} {ps : List Str}
/-- o.m(), o.m(e): methods that change nothing -/
theorem p_meth0 {α : Type} {fs : List Str} {ds : List D} {ca : α → D} {pre : α → Prop} {f : α → D} {pl : PySem.Env → Sem Bool} (a : α) (F : MtD C k Cl m ps (cP1 ca pre f)) (hk : k ≤ C.room) (h : PV C o ρ μ E (.d (.ins Cl fs ds))) (ha : ca a = .ins Cl fs ds) (hm : m ∉ fs) (hp : pre a) (ht : ∀ env, MethForm o m [] [] apos cpos (pl env) env := by intro _; rfl) : PV C (.Call (.Attribute o m apos) [] [] cpos) ρ μ E (.d (f a)) := fun Q q =>
  we_meth0 F hk (h _ ⟨fs, ds, rfl, hm, calls_P (c := cP1 ca pre f) a hp (by show [XV.d (ca a)] = _; rw [ha]) rfl (fun o h => h) q⟩) ht
theorem p_meth1 {α β : Type} {fs : List Str} {ds : List D} {ca : α → D} {cb : β → D} {pre : α → β → Prop} {f : α → β → D} {pl : PySem.Env → Sem Bool} (a : α) {b : β} (F : MtD C k Cl m ps (cP2 ca cb pre f)) (hk : k ≤ C.room) (h : PV C o ρ μ E (.d (.ins Cl fs ds))) (ha : ca a = .ins Cl fs ds) (hm : m ∉ fs) (h1 : PV C e1 ρ μ E (.d (cb b))) (hp : pre a b) (ht : ∀ env, MethForm o m [e1] [] apos cpos (pl env) env := by intro _; rfl) (hs : ∀ env, starEach [e1] env = (false, eval e1 env) :: starEach [] env := by intro _; rfl) : PV C (.Call (.Attribute o m apos) [e1] [] cpos) ρ μ E (.d (f a b)) := fun Q q =>
  we_meth F hk (h _ ⟨fs, ds, rfl, hm, (pa_cs h1 pa_nl hs) _ (calls_P (c := cP2 ca cb pre f) (a, b) hp (by show [XV.d (ca a), XV.d (cb b)] = _; rw [ha]) rfl (fun o h => h) q)⟩) ht hs (by intro _; rfl)
theorem p_meth2 {α β γ : Type} {fs : List Str} {ds : List D} {ca : α → D} {cb : β → D} {cc : γ → D} {pre : α → β → γ → Prop} {f : α → β → γ → D} {pl : PySem.Env → Sem Bool} (a : α) {b : β} {c : γ} (F : MtD C k Cl m ps (cP3 ca cb cc pre f)) (hk : k ≤ C.room) (h : PV C o ρ μ E (.d (.ins Cl fs ds))) (ha : ca a = .ins Cl fs ds) (hm : m ∉ fs) (h1 : PV C e1 ρ μ E (.d (cb b))) (h2 : PV C e2 ρ μ E (.d (cc c))) (hp : pre a b c) (ht : ∀ env, MethForm o m [e1, e2] [] apos cpos (pl env) env := by intro _; rfl) (hs : ∀ env, starEach [e1, e2] env = (false, eval e1 env) :: starEach [e2] env := by intro _; rfl) (hs2 : ∀ env, starEach [e2] env = (false, eval e2 env) :: starEach [] env := by intro _; rfl) (hpl : ∀ env, (backTo cpos (starEach [e2] env)).any (·.1) = false := by intro _; rfl) : PV C (.Call (.Attribute o m apos) [e1, e2] [] cpos) ρ μ E (.d (f a b c)) := fun Q q =>
  we_meth F hk (h _ ⟨fs, ds, rfl, hm, (pa_cs h1 (pa_cs h2 pa_nl hs2) hs) _ (calls_P (c := cP3 ca cb cc pre f) (a, b, c) hp (by show [XV.d (ca a), XV.d (cb b), XV.d (cc c)] = _; rw [ha]) rfl (fun o h => h) q)⟩) ht hs hpl
end
end DL
set_option maxRecDepth 100000
set_option maxHeartbeats 2000000
namespace DL
open PySem L2 PySem.Spec PyProof.Rows
theorem cmul_s {i j : Int} (h1 : -4294967296 ≤ i) (h2 : i ≤ 4294967296) : CMul i j := .inl ⟨by omega, by omega⟩
theorem szz : sizeLine = 16777216 := sizeLine_eq
theorem sz_of {n : Nat} (h : n ≤ 16777216) : n ≤ sizeLine := by rw [szz]; exact h
theorem atI_in {α : Type} {l : List α} {i : Int} (h1 : 0 ≤ i) (h2 : i < (l.length : Int)) (d : α) : atI l i = some (l.getD i.toNat d) := by
  unfold atI ixN
  rw [if_pos h1, if_pos h2]
  show l[i.toNat]? = _
  rw [List.getD_eq_getElem?_getD, List.getElem?_eq_getElem (by omega)]
  rfl
theorem cut_to {α : Type} {l : List α} {i : Int} (h1 : 0 ≤ i) : cut l none (some i) = l.take i.toNat := by
  have e1 : HT.sIx l.length l.length (some i) = min i.toNat l.length := if_neg (by omega)
  unfold cut
  rw [e1]
  show (l.drop 0).take (min i.toNat l.length - 0) = _
  rw [List.drop_zero, Nat.sub_zero]
  by_cases h : i.toNat ≤ l.length
  · rw [Nat.min_eq_left h]
  · rw [Nat.min_eq_right (by omega), List.take_length, List.take_of_length_le (by omega)]
theorem cut_from {α : Type} {l : List α} {i : Int} (h1 : 0 ≤ i) : cut l (some i) none = l.drop i.toNat := by
  have e1 : HT.sIx l.length 0 (some i) = min i.toNat l.length := if_neg (by omega)
  unfold cut
  rw [e1]
  show (l.drop (min i.toNat l.length)).take (l.length - min i.toNat l.length) = _
  by_cases h : i.toNat ≤ l.length
  · rw [Nat.min_eq_left h, List.take_of_length_le (by rw [List.length_drop]; exact Nat.le_refl _)]
  · rw [Nat.min_eq_right (by omega), List.drop_length, List.drop_of_length_le (by omega)]
    simp
theorem cut_len {α : Type} (l : List α) (a b : Option Int) : (cut l a b).length ≤ l.length := by
  unfold cut
  rw [List.length_take, List.length_drop]
  omega
theorem cut_mem {α : Type} {l : List α} {a b : Option Int} {x : α} (h : x ∈ cut l a b) : x ∈ l := List.mem_of_mem_drop (List.mem_of_mem_take h)
/-- how a law's store begins -/
def cBegun : Con := ⟨List Int, fun ns => [.d (.scr ns)], fun _ => [], fun ns => ns.length ≤ 63, fun _ o => ∃ S : DS, S.ok ∧ o = .ret (.l 1) S.mem⟩
theorem wf_cBegun : cBegun.Wf := by
  refine ⟨fun a _ x hx => ?_, fun a _ m hm => (List.not_mem_nil hm).elim, fun a o _ ho => by obtain ⟨S, _, rfl⟩ := ho; exact Nat.zero_le _⟩
  have hx' : x ∈ [XV.d (.scr a)] := hx
  simp only [List.mem_cons, List.not_mem_nil, or_false] at hx'
  subst hx'
  trivial
theorem begun_fits {ns : List Int} (hl : ns.length ≤ 63) :
    Fits (cBegun.out ns) (.l 1) ([some (.lst ((ns.map (fun c => D.int (if c < 0 then -c else c)) ++ (List.replicate (if decide ((ns.length : Int) = 0) = true then (1 : Int) else 0).toNat [D.int 1]).flatten).map XV.d))] ++ [some (.lst [.l 0, .d (.int 0), .d (.int 1)])]) := by
  let S : DS := ⟨ns.map (fun c => if c < 0 then -c else c) ++ (if ns = [] then [1] else []), 0, 1⟩
  have e : ([some (MO.lst ((ns.map (fun c => D.int (if c < 0 then -c else c)) ++ (List.replicate (if decide ((ns.length : Int) = 0) = true then (1 : Int) else 0).toNat [D.int 1]).flatten).map XV.d))] ++ [some (.lst [.l 0, .d (.int 0), .d (.int 1)])]) = S.mem := by
    have e1 : (ns.map (fun c => D.int (if c < 0 then -c else c)) ++ (List.replicate (if decide ((ns.length : Int) = 0) = true then (1 : Int) else 0).toNat [D.int 1]).flatten).map XV.d = S.cells.map fun i => XV.d (.int i) := by
      show _ = (ns.map (fun c => if c < 0 then -c else c) ++ (if ns = [] then [1] else [])).map fun i => XV.d (.int i)
      cases ns with
      | nil => rfl
      | cons n ns =>
        have : decide (((n :: ns).length : Int) = 0) = false := decide_eq_false (by rw [List.length_cons]; omega)
        rw [this]
        simp
    rw [e1]
    rfl
  refine ⟨S.mem, ⟨S, ⟨?_, ?_, ?_, Int.le_refl _, (by decide : (0 : Int) ≤ 1), (by decide : (1 : Int) < 2147483647)⟩, rfl⟩, ⟨[], by rw [List.append_nil]; exact e⟩, (by show 1 < 2; decide), S.mem_below⟩
  · show ns.map _ ++ _ ≠ []
    cases ns <;> simp
  · show (ns.map _ ++ _).length ≤ 64
    rw [List.length_append, List.length_map]
    split <;> simp <;> omega
  · intro i hi
    have hi : i ∈ ns.map (fun c => if c < 0 then -c else c) ++ (if ns = [] then [1] else []) := hi
    rcases List.mem_append.mp hi with h | h
    · obtain ⟨c, _, rfl⟩ := List.mem_map.mp h
      split <;> omega
    · split at h
      · simp at h; omega
      · simp at h
/-- a draw -/
def cDraw : Con := cSt Int (fun n => [.int n]) (fun n => 0 < n ∧ n ≤ 1000000000) fun n d => ∃ r : Int, d = .int r ∧ 0 ≤ r ∧ r < n
theorem draw_big {S : DS} {n sp cl r : Int} (hS : S.ok) (hsp : S.at_ % (S.cells.length : Int) = sp) (m1 : 0 ≤ sp) (m2 : sp < (S.cells.length : Int)) (hcl : 0 ≤ cl) (hn : 0 < n) (r1 : 0 ≤ r) (r2 : r < n) :
    Fits (cDraw.out (S, n)) (.d (.int r)) (S.mem.set 0 (some (.lst ((S.cells.map fun i => XV.d (.int i)).set sp.toNat (.d (.int (cl / n))))))) := by
  obtain ⟨h1, h1b, h2, h3, h4, h5⟩ := hS
  let S' : DS := ⟨S.cells.set sp.toNat (cl / n), S.at_, S.mix⟩
  have e : S.mem.set 0 (some (.lst ((S.cells.map fun i => XV.d (.int i)).set sp.toNat (.d (.int (cl / n)))))) = S'.mem := by
    show [some (MO.lst _), _] = [some (MO.lst ((S.cells.set sp.toNat (cl / n)).map _)), _]
    rw [List.map_set]
  have ok' : S'.ok := by
    refine ⟨fun z => h1 ?_, by show (S.cells.set _ _).length ≤ 64; rw [List.length_set]; exact h1b, fun i hi => ?_, h3, h4, h5⟩
    · have := congrArg List.length z
      have : (S.cells.set sp.toNat (cl / n)).length = 0 := this
      rw [List.length_set] at this
      exact List.length_eq_zero_iff.mp this
    · rcases List.mem_or_eq_of_mem_set hi with h | h
      · exact h2 i h
      · rw [h]; exact Int.ediv_nonneg hcl (by omega)
  rw [e]
  exact ⟨S'.mem, ⟨_, S', rfl, ok', r, rfl, r1, r2⟩, ⟨[], by simp⟩, trivial, S'.mem_below⟩
theorem draw_mix {S : DS} {n mx r : Int} (hS : S.ok) (q1 : 0 ≤ mx) (q2 : mx < 2147483647) (r1 : 0 ≤ r) (r2 : r < n) :
    Fits (cDraw.out (S, n)) (.d (.int r)) ((S.mem.set 1 (some (.lst ([XV.l 0, .d (.int S.at_), .d (.int S.mix)].set 1 (.d (.int (S.at_ + 1))))))).set 1 (some (.lst (([XV.l 0, .d (.int S.at_), .d (.int S.mix)].set 1 (.d (.int (S.at_ + 1)))).set 2 (.d (.int mx)))))) := by
  obtain ⟨h1, h1b, h2, h3, h4, h5⟩ := hS
  let S' : DS := ⟨S.cells, S.at_ + 1, mx⟩
  have ok' : S'.ok := ⟨h1, h1b, h2, (by show 0 ≤ S.at_ + 1; omega), q1, q2⟩
  exact ⟨S'.mem, ⟨_, S', rfl, ok', r, rfl, r1, r2⟩, ⟨[], by simp; rfl⟩, trivial, S'.mem_below⟩
end DL
set_option maxRecDepth 100000
set_option maxHeartbeats 2000000
namespace DL
open PySem L2 PySem.Spec PyProof.Rows
theorem atI_all {α : Type} {l : List α} {P : α → Prop} {i : Int} (h : ∀ x ∈ l, P x) (h1 : 0 ≤ i) (h2 : i < (l.length : Int)) : ∃ x, atI l i = some x ∧ P x := by
  unfold atI ixN
  rw [if_pos h1, if_pos h2]
  refine ⟨l[i.toNat]'(by omega), ?_, h _ (List.getElem_mem _)⟩
  show l[i.toNat]? = _
  rw [List.getElem?_eq_getElem (by omega)]
/-- from the end -/
theorem atI_neg {α : Type} {l : List α} {P : α → Prop} {i : Int} (h : ∀ x ∈ l, P x) (h1 : i < 0) (h2 : -(l.length : Int) ≤ i) : ∃ x, atI l i = some x ∧ P x := by
  unfold atI ixN
  rw [if_neg (by omega), if_pos h2]
  refine ⟨l[(i + (l.length : Int)).toNat]'(by omega), ?_, h _ (List.getElem_mem _)⟩
  show l[(i + (l.length : Int)).toNat]? = _
  rw [List.getElem?_eq_getElem (by omega)]
section
variable {C : SC} {E : EPost} {ρ : Env} {e st a elt tg : Expr} {es : List Expr} {pos p p2 : Pos} {x : Str} {k : Nat} {ps : List Str} {Q : XV → Mem → Prop} {S : DS} {μr : Mem}
/-- a def that takes the store is called -/
theorem we_store {α : Type} {args : α → List D} {pre : α → Prop} {post : α → D → Prop} {xs : List XV} (a : α) (F : FnD C k x ps (cSt α args pre post)) (hk : k ≤ C.room) (hg : C.Glob x) (h : PA C (e :: es) ρ (S.mem ++ μr) E (.l 1 :: xs)) (hx : xs = (args a).map XV.d) (hS : S.ok) (hp : pre a) (q : ∀ (d : D) (S' : DS), S'.ok → post a d → Q (.d d) (S'.mem ++ μr)) (hdb : (x == ("__debug__" : Str)) = false := by decide)
    (he : ∀ env, starEach (e :: es) env = (false, eval e env) :: starEach es env := by intro _; rfl) (hpl : ∀ env, (backTo pos (starEach es env)).any (·.1) = false := by intro _; rfl) : WE C (.Call (.Name x p) (e :: es) [] pos) ρ (S.mem ++ μr) E Q :=
  we_call F hk hg (h _ (calls_S a hS hp (by rw [hx]) q)) hdb he hpl
theorem we_draw {n : Int} (F : FnD C k x ps cDraw) (hk : k ≤ C.room) (hg : C.Glob x) (hs : PV C st ρ (S.mem ++ μr) E (.l 1)) (h : PV C e ρ (S.mem ++ μr) E (.d (.int n))) (hS : S.ok) (hn : 0 < n ∧ n ≤ 1000000000) (q : ∀ (r : Int) (S' : DS), S'.ok → 0 ≤ r → r < n → Q (.d (.int r)) (S'.mem ++ μr)) (hdb : (x == ("__debug__" : Str)) = false := by decide)
    (he : ∀ env, starEach [st, e] env = (false, eval st env) :: starEach [e] env := by intro _; rfl) (he2 : ∀ env, starEach [e] env = (false, eval e env) :: starEach [] env := by intro _; rfl) (hpl : ∀ env, (backTo pos (starEach [e] env)).any (·.1) = false := by intro _; rfl) : WE C (.Call (.Name x p) [st, e] [] pos) ρ (S.mem ++ μr) E Q :=
  we_store n F hk hg (pa_cs hs (pa_cs h pa_nl he2) he) rfl hS hn (fun d S' hS' hd => by obtain ⟨r, rfl, h1, h2⟩ := hd; exact q r S' hS' h1 h2) hdb he hpl
/-- [elt for k in range(size)], elt draws -/
theorem we_lcStore {scope : Scope} {own : List (Str × Nat)} {n : Nat} {size : Int} (I : Nat → List D → Prop) (hr : C.mg "range" = none) (hg : C.Glob "range") (ht : TgOk (C.blk scope) tg (.nm n)) (nd : C.N.Nodup) (ok : BlkOk C.N C.sc scope own) (hsl : n ∈ own.map (·.2)) (ha : PV C a ρ (S.mem ++ μr) E (.d (.int size))) (hS : S.ok) (hz : size ≤ 16777216) (hz2 : -16777216 ≤ size)
    (h0 : I 0 []) (step : ∀ (i : Nat) (acc : List D) (S' : DS), S'.ok → i < size.toNat → I i acc → WE (C.blk scope) elt ((wipeE ρ (own.map (·.2))).set n (some (.d (.int (0 + (i : Nat)))))) (S'.mem ++ μr) noE fun y μ3 => ∃ (d : D) (S2 : DS), y = .d d ∧ μ3 = S2.mem ++ μr ∧ S2.ok ∧ I (i + 1) (acc ++ [d]))
    (q : ∀ (acc : List D) (S' : DS), S'.ok → I size.toNat acc → Q (.d (.lst acc)) (S'.mem ++ μr)) (hs : ∀ env x, foldedSetIterable (.Call (.Name "range" p) [a] [] p2) env x = pure x := by intro _ _; rfl) (hs1 : ∀ env, starEach [a] env = [(false, eval a env)] := by intro _; rfl) :
    WE C (.ListComp elt [⟨tg, .Call (.Name "range" p) [a] [] p2, [], 0⟩] scope pos) ρ (S.mem ++ μr) E Q :=
  we_lc ht nd ok (by intro j hj; simp only [Tg.slots, List.mem_singleton] at hj; subst hj; exact hsl) (wi_range1 hg hr (ha _ ⟨size, rfl, by omega, by omega, by
    refine lc_inv (fun i acc μ' => ∃ S' : DS, S'.ok ∧ μ' = S'.mem ++ μr ∧ I i acc) (by rw [rng_len]; exact sz_of (by omega)) ⟨S, hS, rfl, h0⟩ (fun _ _ _ _ _ => trivial) (fun i x acc μ' hx hp => ?_) (fun acc μ' hp => ?_)
    · obtain ⟨S', hS', rfl, hI⟩ := hp
      obtain ⟨hi, rfl⟩ := rng_get hx
      refine ⟨_, rfl, (step i acc S' hS' hi hI).cont fun y μ3 hy => ?_⟩
      obtain ⟨d, S2, rfl, rfl, h2, h3⟩ := hy
      exact ⟨d, rfl, S2, h2, rfl, h3⟩
    · obtain ⟨S', hS', rfl, hI⟩ := hp
      rw [rng_len] at hI
      exact q acc S' hS' hI⟩) hs1) hs
end
/-- one sign of a text, the text known by what its signs are -/
theorem joinL_ones (l : List Nat) : TL.joinL [] (l.map fun c => [c]) = l := by
  rw [joinL_nil]
  induction l with
  | nil => rfl
  | cons c l ih => rw [List.map_cons, List.flatten_cons, ih]; rfl
theorem sum_one (l : List Nat) : ((l.map fun c => [c]).map (·.length)).sum = l.length := by
  induction l with
  | nil => rfl
  | cons c l ih => rw [List.map_cons, List.map_cons, List.sum_cons, ih]; simp; omega
end DL
set_option maxRecDepth 100000
set_option maxHeartbeats 2000000
namespace DL
open PySem L2 PySem.Spec PyProof.Rows
/-! ### how long a repr is -/
mutual
def D.sz : D → Nat
  | .txt l => 10 * l.length + 2
  | .int _ => 1921
  | .lst ds => D.szs ds + 2
  | .tup ds => D.szs ds + 3
  | _ => 5
def D.szs : List D → Nat
  | [] => 0
  | d :: ds => d.sz + 2 + D.szs ds
end
mutual
/-- ints that repr shows -/
def D.ish : D → Bool
  | .int i => decide (i.natAbs.log2 < 1920)
  | .lst ds => D.ishs ds
  | .tup ds => D.ishs ds
  | _ => true
def D.ishs : List D → Bool
  | [] => true
  | d :: ds => d.ish && D.ishs ds
end
mutual
theorem D.showable_of : ∀ d : D, d.ish = true → d.py.showable = true
  | .non, _ => by unfold D.py; rfl
  | .bl _, _ => by unfold D.py; rfl
  | .int i, h => by unfold D.ish at h; unfold D.py; exact h
  | .txt _, _ => by unfold D.py; rfl
  | .lst ds, h => by unfold D.ish at h; unfold D.py; exact D.showables_of ds h
  | .tup ds, h => by unfold D.ish at h; unfold D.py; exact D.showables_of ds h
  | .ty _, _ => by unfold D.py; rfl
  | .ref _, _ => by unfold D.py; rfl
  | .scr _, _ => by unfold D.py; rfl
  | .ins _ _ _, _ => by unfold D.py; rfl
theorem D.showables_of : ∀ ds : List D, D.ishs ds = true → PyData.showableAll (D.pys ds) = true
  | [], _ => by unfold D.pys; rfl
  | d :: ds, h => by
    unfold D.ishs at h
    rw [Bool.and_eq_true] at h
    unfold D.pys PyData.showableAll
    rw [D.showable_of d h.1, D.showables_of ds h.2]
    rfl
end
theorem piled_sum : ∀ ts : List Str, piled ts = (ts.map (·.length)).sum + 2 * ts.length
  | [] => rfl
  | t :: r => by rw [piled_cons, piled_sum r, List.map_cons, List.sum_cons, List.length_cons]; omega
theorem join_le (ts : List Str) : (Str.join ", " ts).length ≤ piled ts := by
  cases ts with
  | nil => exact Nat.zero_le _
  | cons t r => have := join_length_add (t :: r) (by simp); omega
mutual
theorem D.shown_le : ∀ d : D, d.plain = true → d.ish = true → d.py.shown.length ≤ d.sz
  | .non, _, _ => by unfold D.py PyData.shown D.sz; exact (by decide : (4 : Nat) ≤ 5)
  | .bl b, _, _ => by unfold D.py PyData.shown D.sz; cases b <;> decide
  | .int i, _, h => by
    unfold D.ish at h
    unfold D.py PyData.shown D.sz
    have := int_text_length_le (a := i) (k := 1920) (by decide) (of_decide_eq_true h)
    show (Str.ofString (toString i)).length ≤ 1921
    rw [PySem.ofString_length]
    omega
  | .txt l, p, _ => by
    unfold D.plain at p
    unfold D.py PyData.shown D.sz
    have := StrLaws.reprText_len (SX.S l) (fun c hc => by
      have := List.all_eq_true.mp p c hc
      have := of_decide_eq_true this
      have e : (16 : Nat) ^ 8 = 4294967296 := by decide
      omega)
    rw [SX.S_len] at this
    exact this
  | .lst ds, p, h => by
    unfold D.plain at p
    unfold D.ish at h
    have k := D.showns_le ds p h
    unfold D.py PyData.shown D.sz listText
    have j := textFrom_len_le (PyData.shownAll (D.pys ds)) 0 "["
    rw [piled_sum] at k
    rw [strLen_append]
    have e1 : (("[" : String) : Str).length = 1 := rfl
    have e2 : (("]" : String) : Str).length = 1 := rfl
    omega
  | .tup ds, p, h => by
    unfold D.plain at p
    unfold D.ish at h
    have k := D.showns_le ds p h
    unfold D.py PyData.shown D.sz tupleText
    have j := join_le (PyData.shownAll (D.pys ds))
    rw [strLen_append, strLen_append]
    have e1 : (("(" : String) : Str).length = 1 := rfl
    have e2 : (Str.ofString (if (PyData.shownAll (D.pys ds)).length == 1 then ",)" else ")" : String)).length ≤ 2 := by split <;> decide
    omega
  | .ty _, p, _ => by unfold D.plain at p; cases p
  | .ref _, p, _ => by unfold D.plain at p; cases p
  | .scr _, p, _ => by unfold D.plain at p; cases p
  | .ins _ _ _, p, _ => by unfold D.plain at p; cases p
theorem D.showns_le : ∀ ds : List D, D.plains ds = true → D.ishs ds = true → piled (PyData.shownAll (D.pys ds)) ≤ D.szs ds
  | [], _, _ => by unfold D.pys D.szs; exact Nat.le_refl _
  | d :: ds, p, h => by
    unfold D.plains at p
    unfold D.ishs at h
    rw [Bool.and_eq_true] at p h
    have k1 := D.shown_le d p.1 h.1
    have k2 := D.showns_le ds p.2 h.2
    unfold D.pys D.szs PyData.shownAll
    rw [piled_cons]
    omega
end
/-- what repr needs, in short -/
structure D.okR (d : D) : Prop where
  plain : d.plain = true
  depth : d.py.depth ≤ 64
  ish : d.ish = true
  sz : d.sz ≤ 16777216
  seq : d.isSeq
def D.rp (d : D) : List Nat := d.py.shown.cps.toList
theorem log_small {i : Int} (h1 : -1000000000000 ≤ i) (h2 : i ≤ 1000000000000) : i.natAbs.log2 < 1920 := by
  by_cases h : i.natAbs = 0
  · rw [h]; decide
  · have : i.natAbs.log2 < 64 := (Nat.log2_lt h).mpr (by have e : (2 : Nat) ^ 64 = 18446744073709551616 := (by decide); rw [e]; omega)
    omega
section
variable {C : SC} {E : EPost} {ρ : Env} {μ : Mem} {e o : Expr} {pos p apos cpos : Pos} {x : Str} {Q : XV → Mem → Prop} {k : Nat} {ps : List Str} {N : List Str} {st : Stmt}
theorem p_rp {d : D} (B : Blts C.mg) (hg : C.Glob "repr") (gd : C.g = true) (h : PV C e ρ μ E (.d d)) (ok : d.okR) (he : ∀ env, starEach [e] env = (false, eval e env) :: starEach [] env := by intro _; rfl) : PV C (.Call (.Name "repr" p) [e] [] pos) ρ μ E (.d (.txt d.rp)) :=
  p_repr B hg gd h ⟨ok.plain, ok.depth⟩ ok.seq (D.showable_of d ok.ish) (sz_of (Nat.le_trans (D.shown_le d ok.plain ok.ish) ok.sz)) he
theorem w_rp (B : Blts C.mg) (hg : C.Glob "repr") (gd : C.g = true) (h : WE C e ρ μ E fun z μ1 => ∃ d : D, z = .d d ∧ d.okR ∧ Q (.d (.txt d.rp)) μ1) (he : ∀ env, starEach [e] env = (false, eval e env) :: starEach [] env := by intro _; rfl) : WE C (.Call (.Name "repr" p) [e] [] pos) ρ μ E Q :=
  we_callB hg B.repr bt_repr (.inl ⟨_, rfl⟩) (wa_cons (h.cont fun z μ1 ⟨d, ez, ok, q⟩ => by subst ez; exact wa_nil (gc_repr gd ⟨ok.plain, ok.depth⟩ ok.seq (D.showable_of d ok.ish) (sz_of (Nat.le_trans (D.shown_le d ok.plain ok.ish) ok.sz)) q)) he) (by decide) (by decide) he
/-- sep.join of what draws give -/
theorem w_join {sep : List Nat} (ho : PV C o ρ μ E (.d (.txt sep))) (h : WE C e ρ μ E fun z μ1 => ∃ ls : List (List Nat), z = .d (.lst (ls.map D.txt)) ∧ (ls.map (·.length)).sum + ls.length * sep.length ≤ 16777216 ∧ Q (.d (.txt (TL.joinL sep ls))) μ1) (hbase : ∀ env, attributeBase o "join" env (eval o env) = eval o env := by intro _; rfl)
    (hfew : ∀ env, ((backTo cpos (starEach [e] env)).all (fun x => !x.1) && (backToKw cpos (keywordEach [] env)).all (fun x => x.1.isSome) && decide ([e].length + ([] : List Keyword).length + (if ([] : List Keyword).isEmpty then 0 else 1) < 30)) = true := by intro _; rfl)
    (hline : (apos.endLine == cpos.line) = true := by rfl) (hs : ∀ env, starEach [e] env = (false, eval e env) :: starEach [] env := by intro _; rfl) : WE C (.Call (.Attribute o "join" apos) [e] [] cpos) ρ μ E Q :=
  we_bm PySem.F.plainAttrs_str PySem.F.slot_str_join PySem.F.type_str_join (ho _ ⟨rfl, wa_cons (h.cont fun z μ1 ⟨ls, ez, hz, q⟩ => by subst ez; exact wa_nil (gm_join hz q)) hs⟩) hbase hfew hline hs
/-- the ends of a body that has the store -/
def endsS (post : D → Prop) : DEnds := { nx := fun _ _ => False, rt := fun z μ2 => ∃ (d : D) (S' : DS) (μr : Mem), z = .d d ∧ μ2 = S'.mem ++ μr ∧ S'.ok ∧ post d }
theorem Dn.sto {α : Type} {args : α → List D} {pre : α → Prop} {post : α → D → Prop} (h : Dn C x st ps) (S : FnScope N ps (defScope st)) (len : ∀ a, pre a → (args a).length + 1 = ps.length) (b : ∀ (S : DS) (a : α), S.ok → pre a → WS (C.defC N (defScope st) k) (defBody st) (startE N (.l 1 :: (args a).map XV.d)) (S.mem ++ []) noE (endsS (post a))) : FnD C (k + 1) x ps (cSt α args pre post) := by
  refine h.fnd S wf_cSt (fun a hp => ?_) fun a hp X σ H w A => ?_
  · show (XV.l 1 :: (args a.2).map XV.d).length = _
    rw [List.length_cons, List.length_map]
    exact len a.2 hp.2
  · have A' : At (C.defC N (defScope st) k) X noE (startE N (.l 1 :: (args a.2).map XV.d)) (a.1.mem ++ []) σ H w := by
      rw [List.append_nil]
      exact ⟨A.has, A.M, A.R, A.T.imp fun cls d σ' H' h => by obtain ⟨_, _, _, _, _, _, _, _, _, _, z⟩ := h; exact z.elim⟩
    have r := b a.1 a.2 hp.1 hp.2 X σ H w A'
    rw [List.append_nil] at r
    refine tS_mono r (fun σ' H' q => ?_) (fun v H' q => ?_) (fun _ _ q => ?_) (fun _ _ q => ?_)
    · obtain ⟨_, _, _, _, _, _, z⟩ := q; exact z.elim
    · obtain ⟨z, μ', w', R, M, S, d, S', μr, rfl, rfl, hS, hp⟩ := q
      exact ⟨_, _, w', R, M, S, fits_S hS hp⟩
    · obtain ⟨_, _, _, _, _, _, z⟩ := q; exact z.elim
    · obtain ⟨_, _, _, _, _, _, z⟩ := q; exact z.elim
theorem tS1_mono {X : Cx} {s : Stmt} {σ : L2.St} {H : Hp} {D1 D2 : Ends} (h : tS1 X s D1 σ H) (k1 : ∀ σ H, D1.nx σ H → D2.nx σ H) (k2 : ∀ v H, D1.rt v H → D2.rt v H) (k3 : ∀ σ H, D1.bk σ H → D2.bk σ H) (k4 : ∀ σ H, D1.ct σ H → D2.ct σ H) : tS1 X s D2 σ H := fun pins s I =>
  thn (h pins s I) fun _ _ q => SP_mono q k1 k2 k3 k4
/-- a statement, then what holds behind it -/
theorem ws_seq {s : Stmt} {rest : List Stmt} {D1 : DEnds} (P : Env → Mem → Prop) (h : WS1 C s ρ μ E { D1 with nx := P }) (k : ∀ ρ' μ', P ρ' μ' → WS C rest ρ' μ' E D1) : WS C (s :: rest) ρ μ E D1 :=
  ws_cons fun X σ H w A => tS1_mono (h X σ H w A) (fun σ' H' ⟨ρ', μ', w', R, M, S, q⟩ => ⟨ρ', μ', w', R, M, S, k ρ' μ' q⟩) (fun _ _ q => q) (fun _ _ q => q) (fun _ _ q => q)
end
theorem repT_mem {l : List Nat} {k : Int} {c : Nat} (h : c ∈ repT l k) : c ∈ l := by
  unfold repT at h
  obtain ⟨m, hm, hc⟩ := List.mem_flatten.mp h
  rw [List.eq_of_mem_replicate hm] at hc
  exact hc
theorem repT_len (l : List Nat) (k : Int) : (repT l k).length = k.toNat * l.length := by unfold repT; simp
end DL
set_option maxRecDepth 100000
set_option maxHeartbeats 2000000
namespace DL
open PySem L2 PySem.Spec PyProof.Rows
/-! ### what the top has written, as facts -/
section
variable {K : PySem.W.Frag} {h : Heap} {mg : Str → Option Value} {x m qual : Str} {st : Stmt} {ps ks : List Str} {n : Nat} {ix : List Nat} {f Cl : Addr} {oc : Value} {od an : Option Addr} {osl : Array (Option Value)} {kV doc pm cdv ct : Value} {C : SC}
def DF (K : PySem.W.Frag) (x : Str) (st : Stmt) : Prop := ∃ f, PySem.W.nsIn K mainGlobals x = some (some (.ref f)) ∧ FObj K x x st f
def DM (K : PySem.W.Frag) (Cl : Addr) (m qual : Str) (st : Stmt) : Prop := ∃ f, PySem.W.findIn K (.ref Cl) m = some (some (.ref f)) ∧ PySem.W.isFn K (.ref f) = true ∧ FObj K m qual st f
theorem df_mk (a : PySem.W.nsIn K mainGlobals x = some (some (.ref f))) (l : K.lookup f = some ⟨oc, od, .func (PySem.W.fnOf x x (defArgs st) (defBody st) (defScope st) .none kV doc pm an cdv ct), osl⟩) (c : PySem.W.codeIn K cdv x = true) (k : PySem.W.keepIn K (.ref f) = true) : DF K x st := ⟨f, a, fobj l c k⟩
theorem dm_mk (a : PySem.W.findIn K (.ref Cl) m = some (some (.ref f))) (i : PySem.W.isFn K (.ref f) = true) (l : K.lookup f = some ⟨oc, od, .func (PySem.W.fnOf m qual (defArgs st) (defBody st) (defScope st) .none kV doc pm an cdv ct), osl⟩) (c : PySem.W.codeIn K cdv qual = true) (k : PySem.W.keepIn K (.ref f) = true) : DM K Cl m qual st := ⟨f, a, i, fobj l c k⟩
theorem DF.dn (d : DF K x st) (hK : C.K = K) (hm : C.mg = mg) (X : K.In h) (G : h.Ns mainGlobals mg) (b : BindAll x x st ps) : Dn C x st ps := by
  obtain ⟨f, a, F⟩ := d
  exact dn_of hK hm X G a F b
theorem DF.dk (d : DF K x st) (hK : C.K = K) (hm : C.mg = mg) (X : K.In h) (G : h.Ns mainGlobals mg) (b : BindKw x x st ps n ks ix) : Dk C x st ps n ks ix := by
  obtain ⟨f, a, F⟩ := d
  exact dk_of hK hm X G a F b
theorem DM.mn (d : DM K Cl m qual st) (hK : C.K = K) (b : BindAll m qual st ps) : Mn C Cl m qual st ps := by
  obtain ⟨f, a, i, F⟩ := d
  exact mn_of hK a i F b
theorem DM.mq (d : DM K Cl m qual st) (hK : C.K = K) (b : BindKw m qual st ps n ks ix) : Mq C Cl m qual st ps n ks ix := by
  obtain ⟨f, a, i, F⟩ := d
  exact mq_of hK a i F b
/-- an own class as it stands -/
structure DC (K : PySem.W.Frag) (x : Str) (Cl : Addr) : Prop where
  a : PySem.W.nsIn K mainGlobals x = some (some (.ref Cl))
  mks : PySem.W.makesIn K Cl = true
  kc : PySem.W.keepIn K (.ref Cl) = true
  pg : PySem.W.plainGet K Cl Str.empty = true
  hd : PySem.W.hasDictIn K Cl = true
  po : PySem.W.plainOver K Cl = true
  sa : PySem.W.findIn K (.ref Cl) "__setattr__" = some (some (.builtin "object.__setattr__"))
  ha : PySem.W.findIn K (.ref Cl) "__class__" = some (some (.builtin "object.__class__"))
  hm : PySem.W.mroIn K Cl (.type "object") = some true
theorem DC.cls (d : DC K x Cl) : Cls K Cl := ⟨d.pg, d.hd, d.po, d.sa⟩
theorem DM.in0 (d : DM K Cl "__init__" qual st) (c : DC K x Cl) (hK : C.K = K) (hm : C.mg = mg) (X : K.In h) (G : h.Ns mainGlobals mg) (b : BindAll "__init__" qual st ps) : In0 C x Cl qual st ps := by
  obtain ⟨f, a, i, F⟩ := d
  exact in_of hK hm X G c.a c.mks c.kc a i F b
theorem DM.inK (d : DM K Cl "__init__" qual st) (c : DC K x Cl) (hK : C.K = K) (hm : C.mg = mg) (X : K.In h) (G : h.Ns mainGlobals mg) (b : BindKw "__init__" qual st ps (n + 1) ks (0 :: ix.map (· + 1))) : InK C x Cl qual st ps n ks ix := by
  obtain ⟨f, a, i, F⟩ := d
  exact ink_of hK hm X G c.a c.mks c.kc a i F b
/-- names that stay with the built-ins -/
def NB (K : PySem.W.Frag) (x : Str) : Prop := PySem.W.nsIn K mainGlobals x = some none
theorem NB.no (d : NB K x) (X : K.In h) (G : h.Ns mainGlobals mg) : mg x = none := PySem.W.mg_none_of X G d
/-- a module's number or text -/
def CI (K : PySem.W.Frag) (x : Str) (i : Int) : Prop := ∃ t, PySem.W.nsIn K mainGlobals x = some (some (.int i t))
def CT (K : PySem.W.Frag) (x s : Str) : Prop := ∃ t, PySem.W.nsIn K mainGlobals x = some (some (.str s t))
theorem ci_mk {i : Int} {t : Tok} (a : PySem.W.nsIn K mainGlobals x = some (some (.int i t))) : CI K x i := ⟨t, a⟩
theorem ct_mk {s : Str} {t : Tok} (a : PySem.W.nsIn K mainGlobals x = some (some (.str s t))) : CT K x s := ⟨t, a⟩
theorem CI.gi {i : Int} (d : CI K x i) (X : K.In h) (G : h.Ns mainGlobals mg) : GI mg x i := by
  obtain ⟨t, a⟩ := d
  exact ⟨t, PySem.W.mg_of X G a⟩
theorem CT.gt {s : Str} {l : List Nat} (d : CT K x s) (X : K.In h) (G : h.Ns mainGlobals mg) (e : s.cps.toList = l) : GT mg x l := by
  obtain ⟨t, a⟩ := d
  exact ⟨s, t, PySem.W.mg_of X G a, e⟩
/-- a law's end -/
theorem law_end {l : PySem.W.OpenLaw} {w : World} {p : Str} {k most : Nat} {N : List Str} {fa : Addr} (X : K.In h) (G : h.Ns mainGlobals mg) (hfa : mg x = some (.ref fa)) (d : DF K x st) (b : BindAll x x st [p]) (sc : FnScope N [p] (defScope st))
    (body : ∀ (base : Heap) (C : SC), C.P = l.prog → C.wd = w → C.K = K → C.mg = mg → C.base = base → C.g = true → Body C (cLaw most) N st k) :
    ∃ fd : FuncData, (∀ (s : Shared) (u : Value), BindsTo s fd ⟨[u], []⟩ [(p, u)]) ∧ ∀ base : Heap, K.In base → base.Ns mainGlobals mg → FnG l.prog w K mg base true (k + 1) fa fd [p] (toSp K (cLaw most)) := by
  obtain ⟨f, a, fd, F⟩ := d
  have e := hfa.symm.trans (PySem.W.mg_of X G a)
  injection e with e
  injection e with e
  subst e
  refine ⟨fd, fun s u => ?_, fun base _ _ => Con.fnok (C := ⟨l.prog, w, K, mg, base, [], defScope st, fun _ => false, 0, true⟩) F sc (wf_cLaw most) (fun _ _ => rfl) (body base _ rfl rfl rfl rfl rfl rfl)⟩
  obtain ⟨_, _, kV, doc, pm, an, cdv, ct, _, rfl, _, _⟩ := F.ex
  exact .of_eq (b kV doc pm an cdv ct [u] rfl)
end
end DL
set_option maxRecDepth 100000
set_option maxHeartbeats 2000000
namespace DL
open PySem L2 PySem.Spec PyProof.Rows
/-! ### == and != by an own __eq__ -/
section
variable {prog : Program} {w : World} {A : Around} {E : Value → Shared → Prop} {s : Shared} {K : PySem.W.Frag} {x C f L : Addr} {ox : Obj} {od : Option Obj} {b tb : Value} {h0 : Heap} {m : Str → Option Value}
theorem ne_entry (hu : A.units < cLine) (X : K.In s.heap) (I : PySem.W.InstAt s.heap x ox C od) (hs : PySem.W.findIn K (.ref C) "__eq__" = some (some (.ref f))) (hf : PySem.W.isFn K (.ref f) = true) {Q : Fin → Shared → Prop}
    (hc : wpAny (model prog w) A (call (.ref f) [.ref x, b]) (fun v s' => ∃ r, v = .bool r ∧ Q (.done (.ret (.bool (!r)))) s') E s) : wpAny (model prog w) A (Builtin.«object.__ne__» ⟨[.ref x, b], []⟩) Q E s := by
  unfold Builtin.«object.__ne__»
  repeat (first
    | with_reducible refine wpAny_cRoomFor hu ?_
    | (refine wpAny_bind (m := callSpecialIfBound? (.ref x) (Str.ofString "__eq__") [b])
        (PySem.W.ifBound_K X I hs hf (wpAny_mono hc (fun v s' hr => by
          obtain ⟨r, rfl, q⟩ := hr
          repeat (first | exact q | exact wpAny_pure q | exact wpAny_truthy_bool q | (refine wpAny_bind (m := truthy (.bool _)) (wpAny_truthy_bool ?_)) | wp_step)) fun _ _ e => e)))
    | wp_step)
theorem ne_bound {M : Model} {args : List Value} {Q : Option Value → Shared → Prop} (X : K.In s.heap) (I : PySem.W.InstAt s.heap x ox C od) (hs : PySem.W.findIn K (.ref C) "__ne__" = some (some (.builtin "object.__ne__")))
    (h : wpAny M A (call (.builtin "object.__ne__") (.ref x :: args)) (fun v => Q (some v)) E s) : wpAny M A (callSpecialIfBound? (.ref x) "__ne__" args) Q E s := by
  simp only [callSpecialIfBound?, bindSpecialIfBound?]
  refine wpAny_holding (wpAny_bind (wpAny_bind (wpAny_bind (I.type.here ((PySem.W.looks_findIn X hs).here ?_)))))
  have last : wpAny M A (call (.builtin "object.__ne__") ([.ref x] ++ args) >>= fun v => pure (some v)) Q E s := wpAny_bind (wpAny_mono h (fun _ _ q => wpAny_pure q) fun _ _ q => q)
  refine wpAny_bind (wpAny_askSetting (wpAny_ite ?_))
  split
  · exact wpAny_bind (wpAny_of_eq (PySem.F.cmp_object.ne.bind _) (wpAny_pure (by exact last)))
  · exact wpAny_tryCatch (wpAny_bind (wpAny_of_eq (PySem.F.cmp_object.ne.bind _) (wpAny_pure (by exact last))))
theorem ne_rich (hu : A.units + 1 < cLine) (X : K.In s.heap) (I : PySem.W.InstAt s.heap x ox C od) (hb : PySem.W.Looks (model prog w) s.heap (typeOf b) tb) (hn : PySem.W.notFirst K C tb = true) (hm : PySem.W.mroIn K C (.type "object") = some true)
    (hs : PySem.W.findIn K (.ref C) "__eq__" = some (some (.ref f))) (hf : PySem.W.isFn K (.ref f) = true) (hne : PySem.W.findIn K (.ref C) "__ne__" = some (some (.builtin "object.__ne__"))) {Q : Value → Shared → Prop}
    (hc : wpAny (model prog w) A.in1 (call (.ref f) [.ref x, b]) (fun v s' => ∃ r, v = .bool r ∧ Q (.bool (!r)) s') E s) : wpAny (model prog w) A (richCompare .NotEq (.ref x) b) Q E s := by
  have one : wpAny (model prog w) A (tryCompare (.ref x) "__ne__" b) (fun r s' => ∃ k, r = some (.bool k) ∧ Q (.bool k) s') E s := by
    unfold tryCompare
    refine wpAny_bind (ne_bound X I hne (PySem.wpAny_call (PySem.codeAny_call_builtin PySem.F.cmp_object.ne.plain PySem.F.cmpEntry_ne (PySem.W.check_slot PySem.F.cmpKind_ne PySem.F.cmpSplit_ne (I.type.andThen (PySem.W.looks_mroIn X hm)) (PySem.F.cmpArgs_ne _ _) (ne_entry (A := A.in1) hu X I hs hf (wpAny_mono hc (fun v s' hv => ?_) fun _ _ q => q))))))
    obtain ⟨r, rfl, q⟩ := hv
    refine ⟨r, rfl, ?_⟩
    first | exact wpAny_pure ⟨_, rfl, q⟩ | exact ⟨_, rfl, q⟩
  unfold richCompare
  simp only [oneThing_ref]
  refine wpAny_holding (wpAny_bind (wpAny_cRoomFor (Nat.lt_of_succ_lt hu) ?_))
  rw [cmpInfo_NotEq]
  dsimp only
  refine wpAny_bind (I.type.here (wpAny_bind (hb.here ?_)))
  split
  · rename_i q
    have e : PySem.W.subIn K tb (.ref C) = some false := by
      rcases Bool.or_eq_true_iff.mp hn with e | e
      · rw [beq_iff_eq.mp e] at q; simp at q
      · exact beq_iff_eq.mp e
    refine wpAny_bind ((PySem.W.looks_subIn X e).here ?_)
    simp only [Bool.false_eq_true, if_false]
    refine wpAny_bind (wpAny_mono one (fun r s' z => ?_) fun _ _ q => q)
    obtain ⟨k, rfl, hq⟩ := z
    exact wpAny_pure hq
  · rename_i q
    refine wpAny_bind (wpAny_pure ?_)
    simp only [Bool.false_eq_true, if_false]
    refine wpAny_bind (wpAny_mono one (fun r s' z => ?_) fun _ _ q => q)
    obtain ⟨k, rfl, hq⟩ := z
    exact wpAny_pure hq
end
/-- a class with an own __eq__ of the contract c -/
structure EqD (C : SC) (k : Nat) (Cl : Addr) (c : Con) : Prop where
  ex : ∃ (f : Addr) (fd : FuncData) (ps : List Str), FnG C.P C.wd C.K C.mg C.base C.g k f fd ps (toSp C.K c) ∧ PySem.W.findIn C.K (.ref Cl) "__eq__" = some (some (.ref f)) ∧ PySem.W.isFn C.K (.ref f) = true ∧ Binds C.K fd ps []
  ne : PySem.W.findIn C.K (.ref Cl) "__ne__" = some (some (.builtin "object.__ne__"))
  mro : PySem.W.mroIn C.K Cl (.type "object") = some true
  wf : c.Wf
theorem EqD.to {C : SC} {k : Nat} {Cl : Addr} {c : Con} (F : EqD C k Cl c) {N : List Str} {sc : Scope} {r : Nat} : EqD (C.defC N sc r) k Cl c := ⟨F.ex, F.ne, F.mro, F.wf⟩
theorem EqD.tb {C : SC} {k : Nat} {Cl : Addr} {c : Con} (F : EqD C k Cl c) {N : List Str} {sc s2 : Scope} {r : Nat} : EqD ((C.defC N sc r).blk s2) k Cl c := ⟨F.ex, F.ne, F.mro, F.wf⟩
section
variable {C : SC} {Q : XV → Mem → Prop} {μ : Mem} {X : Cx} {H : Hp} {w : IA} {k : Nat} {c : Con} {Cl : Addr}
theorem run_in {A : Around} {σ : L2.St} {f : Addr} {fd : FuncData} {ps : List Str} {pins : List (Addr × Obj)} {s : Shared} {Qv : VK} {us : List Value} {vs : List V} (hf : A.frames = X.A.frames) (hg : C.g = true → A.guards = some []) (hr : Room k A) (F : FnG X.prog X.w X.K X.mg X.base C.g k f fd ps (toSp C.K c)) (hb : Binds X.K fd ps [])
    (I : Inv X pins σ H s) (r : Vals vs us) (h : toSp C.K c vs H Qv fun _ _ _ => False) : wpAny (model X.prog X.w) A (call (.ref f) us) (EP X pins σ Qv) X.xe s := by
  have hl : (us ++ []).length = ps.length := by rw [List.append_nil, ← r.length]; exact F.len _ _ _ _ h
  have hb' := hb s us I.kIn hl
  rw [List.append_nil] at hb'
  have e := I.env0
  have e0 : Env0 X.prog X.w X.K X.mg X.base A X.stack s H := ⟨by rw [hf]; exact e.frames, e.mod, e.bs, e.bsz, e.funs, e.frf, e.hok, e.bare⟩
  refine PySem.wpAny_call (PySem.codeAny_mono (F.run A X.stack s H ⟨us, []⟩ us vs Qv (fun _ _ _ => False) hg hr e0 hb' r h) fun r s' hq => ?_)
  cases r with
  | error e =>
    obtain ⟨_, _, _, _, _, _, _, _, _, _, _, _, hE⟩ := hq
    exact hE.elim
  | ok fl =>
    cases fl with
    | ret u => exact I.after hq
    | next => exact False.elim hq
    | brk => exact False.elim hq
    | cont => exact False.elim hq
theorem go_eq_own {fs : List Str} {ds : List D} {y : XV} {t : Value} (F : EqD C k Cl c) (hk : k ≤ C.room) (ty : TyD2 C.K y t) (hn : PySem.W.notFirst C.K Cl t = true) (h : Calls c [.d (.ins Cl fs ds), y] μ (fun z μ' => ∃ r, z = .d (.bl r) ∧ Q (.d (.bl r)) μ') fun _ _ _ => False) : Go2 C (compareOp .Eq) (.d (.ins Cl fs ds)) y μ Q := by
  intro X hX H w vx vy M rx ry pins s σ v u I rv ru
  obtain ⟨f, fd, ps, FF, hs, hf, hb⟩ := F.ex
  obtain ⟨a, dx, gs, rfl, nl, ea, _⟩ := id rx
  obtain rfl : v = Value.ref a := rv
  obtain ⟨mA, J, _⟩ := ins_get I.hok ea
  obtain ⟨od, J, _⟩ := J.look
  obtain ⟨P, Z, p, _⟩ := kit_of I ru (by rw [hX.K]; exact ty.tx ry)
  obtain ⟨m, hF⟩ := I.fr
  show wpAny (model X.prog X.w) X.A (richCompare .Eq (.ref a) u) _ _ _
  refine PySem.W.cmp_K (op := .Eq) hX.room.units0 hF I.ok.mod.kin J (Z.ty _ _ I.kIn p) (by rw [hX.K]; exact hn) (by rw [hX.K]; exact hs) (by rw [hX.K]; exact hf) ?_
  refine wpAny_mono (run_in (C := C) (c := c) rfl hX.gd (hX.room.mono hk) (by rw [hX.P, hX.wd, hX.K, hX.mg, hX.base]; exact FF) (by rw [hX.K]; exact hb) I (.cons (a := V.ref a) rfl (.cons ru .nil)) (Calls.sp F.wf h M (.cons rx (.cons ry .nil)) (Qv := fun v H' => ∃ r, v = .bl r ∧ lift C.K Q μ H w (.bl r) H') (fun v H' q => ?_) (fun _ _ _ _ _ _ _ _ _ z => z))) (fun r s' q => ?_) fun _ _ q => q
  · obtain ⟨z, μ', w', rz, M', S', b, rfl, q⟩ := q
    exact ⟨b, rz, .d (.bl b), μ', w', rfl, M', S', q⟩
  · obtain ⟨v, H', I', rv, b, rfl, q⟩ := q
    obtain rfl : r = Value.bool b := rv
    exact ⟨.bl b, H', I', rfl, q⟩
theorem go_ne_own {fs : List Str} {ds : List D} {y : XV} {t : Value} (F : EqD C k Cl c) (hk : k + 1 ≤ C.room) (ty : TyD2 C.K y t) (hn : PySem.W.notFirst C.K Cl t = true) (h : Calls c [.d (.ins Cl fs ds), y] μ (fun z μ' => ∃ r, z = .d (.bl r) ∧ Q (.d (.bl (!r))) μ') fun _ _ _ => False) : Go2 C (compareOp .NotEq) (.d (.ins Cl fs ds)) y μ Q := by
  intro X hX H w vx vy M rx ry pins s σ v u I rv ru
  obtain ⟨f, fd, ps, FF, hs, hf, hb⟩ := F.ex
  obtain ⟨a, dx, gs, rfl, nl, ea, _⟩ := id rx
  obtain rfl : v = Value.ref a := rv
  obtain ⟨mA, J, _⟩ := ins_get I.hok ea
  obtain ⟨od, J, _⟩ := J.look
  obtain ⟨P, Z, p, _⟩ := kit_of I ru (by rw [hX.K]; exact ty.tx ry)
  show wpAny (model X.prog X.w) X.A (richCompare .NotEq (.ref a) u) _ _ _
  have hr : Room (k + 1) X.A := hX.room.mono hk
  refine ne_rich (by have := hr.un; omega) I.kIn J (Z.ty _ _ I.kIn p) (by rw [hX.K]; exact hn) (by rw [hX.K]; exact F.mro) (by rw [hX.K]; exact hs) (by rw [hX.K]; exact hf) (by rw [hX.K]; exact F.ne) ?_
  refine wpAny_mono (run_in (C := C) (c := c) (A := X.A.in1) rfl hX.gd hr.in1 (by rw [hX.P, hX.wd, hX.K, hX.mg, hX.base]; exact FF) (by rw [hX.K]; exact hb) I (.cons (a := V.ref a) rfl (.cons ru .nil)) (Calls.sp F.wf h M (.cons rx (.cons ry .nil)) (Qv := fun v H' => ∃ r, v = .bl r ∧ lift C.K Q μ H w (.bl (!r)) H') (fun v H' q => ?_) (fun _ _ _ _ _ _ _ _ _ z => z))) (fun r s' q => ?_) fun _ _ q => q
  · obtain ⟨z, μ', w', rz, M', S', b, rfl, q⟩ := q
    exact ⟨b, rz, .d (.bl (!b)), μ', w', rfl, M', S', q⟩
  · obtain ⟨v, H', I', rv, b, rfl, q⟩ := q
    obtain rfl : r = Value.bool b := rv
    exact ⟨b, rfl, .bl (!b), H', I', rfl, q⟩
end
end DL
set_option maxRecDepth 100000
set_option maxHeartbeats 2000000
/-! DL20: sets of numbers and of texts, made in one go and read in rising order. -/
namespace DL
open PySem L2 PySem.Spec PyProof.Rows
/-! ### sets of keys that can be walked -/
def memK (ks : List Key) (j : Key) : Bool := ks.any fun k => decide (k = j)
theorem memK_iff {ks : List Key} {j : Key} : memK ks j = true ↔ j ∈ ks := by
  unfold memK
  rw [List.any_eq_true]
  exact ⟨fun ⟨k, h, e⟩ => of_decide_eq_true e ▸ h, fun h => ⟨j, h, decide_eq_true rfl⟩⟩
theorem memK_snoc (ks : List Key) (k j : Key) : memK (ks ++ [k]) j = (memK ks j || decide (j = k)) := by
  rw [Bool.eq_iff_iff, Bool.or_eq_true, decide_eq_true_eq, memK_iff, memK_iff, List.mem_append, List.mem_singleton]
def keyQ : Value → Key
  | .int k _ => .inl k
  | .str x _ => .inr x
  | _ => .inl 0
def entK (e : Int × Value) : Key := keyQ e.2
def GoodQ (w : World) (e : Int × Value) : Prop := keyIs (entK e) e.2 = true ∧ e.1 = keyH w (entK e)
theorem keyQ_of {k : Key} {v : Value} (h : keyIs k v = true) : keyQ v = k := by
  rcases keyIs_shape h with ⟨i, t, rfl, rfl⟩ | ⟨x, t, rfl, rfl⟩ <;> rfl
theorem keyQ_scan {k : Key} {v : Value} (h : keyIs k v = true) : v.scannable = true := by
  rcases keyIs_shape h with ⟨i, t, rfl, rfl⟩ | ⟨x, t, rfl, rfl⟩ <;> rfl
/-- the set at a: its members, their number; it can be walked -/
def SetQ (w : World) (h : Heap) (a : Addr) (S : Key → Bool) (n : Nat) : Prop :=
  ∃ o es ep t, h.get? a = some o ∧ o.ExactSet ∧ o.data = .set es ep t ∧ (∀ e ∈ es.toList, GoodQ w e) ∧ (es.toList.map entK).Nodup ∧ (∀ k, S k = true ↔ k ∈ es.toList.map entK) ∧
    es.size < scanBound ∧ t.fits es.size = true ∧ es.size = n ∧ Ris t.place.toList ∧ (w.params.followText "set-order" = true ∨ t.led = true)
section
variable {P : Program} {w : World} {h h' : Heap} {a : Addr} {S : Key → Bool} {n : Nat}
theorem SetQ.stay (Z : SetQ w h a S n) (kp : ∀ o, h.get? a = some o → h'.get? a = some o) : SetQ w h' a S n := by
  obtain ⟨o, es, ep, t, z1, z2⟩ := Z
  exact ⟨o, es, ep, t, kp o z1, z2⟩
theorem SetQ.same {S' : Key → Bool} (Z : SetQ w h a S n) (e : ∀ k, S' k = S k) : SetQ w h a S' n := by
  obtain ⟨o, es, ep, t, z1, z2, z3, z4, z5, z6, z7⟩ := Z
  exact ⟨o, es, ep, t, z1, z2, z3, z4, z5, fun k => by rw [e]; exact z6 k, z7⟩
theorem goodQ_elems {l : List (Int × Value)} (g : ∀ e ∈ l, GoodQ w e) : ElemsOf (mixKind P w) l := fun e he =>
  ⟨⟨entK e, (g e he).1, (g e he).2⟩, keyQ_scan (g e he).1⟩
theorem goodQ_mem {l : List (Int × Value)} (g : ∀ e ∈ l, GoodQ w e) (k : Key) : k ∈ l.map entK ↔ ∃ e ∈ l, (mixKind P w).is k e.2 = true := by
  constructor
  · intro hm
    obtain ⟨e, he, rfl⟩ := List.mem_map.mp hm
    exact ⟨e, he, (g e he).1⟩
  · rintro ⟨e, he, q⟩
    have q' : keyIs k e.2 = true := q
    exact List.mem_map.mpr ⟨e, he, keyQ_of q'⟩
theorem SetQ.setOf (Z : SetQ w h a S n) : h.SetOf (mixKind P w) a S n := by
  obtain ⟨o, es, ep, t, z1, z2, z3, z4, z5, z6, z7, z8, z9, z10⟩ := Z
  exact ⟨o, es, ep, t, z1, z2, z3, goodQ_elems z4, fun k => (z6 k).trans (goodQ_mem z4 k), z7, z8, z9⟩
end
section
variable {P : Program} {w : World} {A : Around} {E : Value → Shared → Prop} {s : Shared} {a : Addr} {S : Key → Bool} {n : Nat}
theorem putSet_at {h : Heap} {a : Addr} {o : Obj} {es es' : Array (Int × Value)} {ep : Nat} {t t' : SetTable} (q1 : h.get? a = some o) (q2 : o.data = .set es ep t) :
    (h.update a (Obj.putSet es' t')).get? a = some { o with data := .set es' (ep + 1) t' } := store_at q1 q2
theorem setQ_tail {g : Bool → Sem Unit} (hg : ∀ (b : Bool) (s₁ : Shared) (Q' : Unit → Shared → Prop), Q' () s₁ → wpAny (model P w) A (g b) Q' E s₁)
    {o : Obj} {es : Array (Int × Value)} {ep : Nat} {t : SetTable} (q1 : s.heap.get? a = some o) (q2 : o.ExactSet) (q3 : o.data = .set es ep t)
    {fs : Array (Int × Value)} {t2 : SetTable} {S' : Key → Bool} (g1 : ∀ e ∈ fs.toList, GoodQ w e) (nd1 : (fs.toList.map entK).Nodup) (m1 : ∀ k, S' k = true ↔ k ∈ fs.toList.map entK)
    (b1 : fs.size < scanBound) (f2 : t2.fits fs.size = true) (r2 : Ris t2.place.toList) (l2 : w.params.followText "set-order" = true ∨ t2.led = true) {wd : Bool} {R : Option Bool → Shared → Prop}
    (fin : ∀ h', Heap.SameBut a s.heap h' → SetQ w h' a S' fs.size → R (some true) { s with heap := h' }) :
    wpAny (model P w) A (do
        storeSet a fs t2
        if (!wd && t2.tooFull) = true then do
            g (relayAll t2 fs (SetTable.grown fs.size)).2.2
            storeSet a (relayAll t2 fs (SetTable.grown fs.size)).1 (relayAll t2 fs (SetTable.grown fs.size)).2.1
            pure (some true)
          else pure (some true)) R E s := by
  refine wpAny_bind (wpAny_storeSet_of q1 q3 ?_ (fits_of_scanBound b1))
  have p1 := putSet_at (es' := fs) (t' := t2) q1 q3
  have sb := Heap.SameBut.update s.heap a (Obj.putSet fs t2)
  split
  · have pm := relayAll_perm t2 fs (SetTable.grown fs.size)
    have f3 := relayAll_fits t2 fs (SetTable.grown fs.size)
    have r3 := relayAll_ris t2 fs (SetTable.grown fs.size)
    have l3 := relayAll_led t2 fs (SetTable.grown fs.size)
    generalize relayAll t2 fs (SetTable.grown fs.size) = Z at pm f3 r3 l3 ⊢
    obtain ⟨gs, t3, gave⟩ := Z
    dsimp only at pm f3 r3 l3 ⊢
    have zs : gs.size = fs.size := by rw [← Array.length_toList, pm.length_eq, Array.length_toList]
    have b2 : gs.size < scanBound := by rw [zs]; exact b1
    refine wpAny_bind (hg _ _ _ ?_)
    refine wpAny_bind (wpAny_storeSet_of p1 rfl ?_ (fits_of_scanBound b2))
    have p2 := putSet_at (es' := gs) (t' := t3) p1 rfl
    refine wpAny_pure (fin _ (sb.trans (Heap.SameBut.update _ a _)) ?_)
    exact ⟨_, gs, _, t3, p2, q2, rfl, fun e he => g1 e (pm.mem_iff.mp he), (pm.map entK).nodup_iff.mpr nd1, fun k => (m1 k).trans (pm.map entK).mem_iff.symm, b2, f3, zs, r3,
      l2.imp id fun z => by rw [l3]; exact z⟩
  · exact wpAny_pure (fin _ sb ⟨_, fs, _, t2, p1, q2, rfl, g1, nd1, m1, b1, f2, rfl, r2, l2⟩)
theorem setQ_add {k : Key} {x : Value} {Q : Bool → Shared → Prop} (hx : keyIs k x = true) (Z : SetQ w s.heap a S n) (room : n + 1 < scanBound)
    (fin : ∀ h', Heap.SameBut a s.heap h' → SetQ w h' a (fun j => S j || decide (j = k)) (if S k = true then n else n + 1) → Q (!S k) { s with heap := h' }) :
    wpAny (model P w) A (setAddHashed a x ((mixKind P w).hash k)) Q E s := by
  obtain ⟨o, es, ep, t, z1, z2, z3, z4, z5, z6, z7, z8, z9, z10, z11⟩ := Z
  have ky : (mixKind P w).is k x = true := hx
  have sc : x.scannable = true := keyQ_scan hx
  have el : ElemsOf (mixKind P w) es.toList := goodQ_elems z4
  unfold setAddHashed setAddHashedIn
  refine wpAny_holding (wpAny_bind (wpAny_setState_of z1 z3 z8 ?_))
  dsimp only
  rw [byScan_of sc z7 el]
  simp only [↓reduceIte]
  unfold setAddByScan
  refine wpAny_bind ?_
  refine wpAny_bind (wpAny_rule ?_)
  refine wpAny_bind (wpAny_setScan_of ky z1 z3 z8 el ?_)
  cases fi : List.findIdx? (fun e => (mixKind P w).is k e.2) es.toList with
  | some j =>
    dsimp only
    obtain ⟨j1, j2, _⟩ := List.findIdx?_eq_some_iff_getElem.mp fi
    have sk : S k = true := (z6 k).2 ((goodQ_mem (P := P) z4 k).2 ⟨es.toList[j], List.getElem_mem j1, j2⟩)
    refine wpAny_pure (wpAny_pure ?_)
    have q := fin s.heap (Heap.SameBut.refl a s.heap) ⟨o, es, ep, t, z1, z2, z3, z4, z5, fun i => by
      rw [Bool.or_eq_true, decide_eq_true_eq, ← z6 i]
      exact ⟨fun z => z.elim id (fun e => e ▸ sk), .inl⟩, z7, z8, by rw [if_pos sk]; exact z9, z10, z11⟩
    rw [sk] at q
    exact q
  | none =>
    dsimp only
    have nk : k ∉ es.toList.map entK := fun z => by
      obtain ⟨e, he, q⟩ := (goodQ_mem (P := P) z4 k).1 z
      have c := List.findIdx?_eq_none_iff.mp fi e he
      rw [q] at c
      cases c
    have sk : S k = false := by
      cases q : S k with
      | false => rfl
      | true => exact absurd ((z6 k).1 q) nk
    have gw : ∀ (b : Bool) {s₁ : Shared} {Q' : Unit → Shared → Prop}, Q' () s₁ → wpAny (model P w) A (match b with | true => rule "set.scan.the-table-gave-way" | false => pure ()) Q' E s₁ :=
      fun b s₁ Q' q => match b with
        | true => wpAny_rule q
        | false => wpAny_pure q
    have pm := layNew_perm t es ((mixKind P w).hash k) x
    have f1 := layNew_fits t es ((mixKind P w).hash k) x
    have r1 := layNew_ris t es ((mixKind P w).hash k) x z10
    have l1 := layNew_led t es ((mixKind P w).hash k) x
    generalize layNew t es ((mixKind P w).hash k) x = Z at pm f1 r1 l1 ⊢
    obtain ⟨fs, t1, wd, gave⟩ := Z
    dsimp only at pm f1 r1 l1 ⊢
    rw [Array.toList_push] at pm
    have pc : fs.toList.Perm (((mixKind P w).hash k, x) :: es.toList) := pm.trans (List.perm_append_singleton _ _)
    have ek : entK ((mixKind P w).hash k, x) = k := keyQ_of hx
    have pk : (fs.toList.map entK).Perm (k :: es.toList.map entK) := by
      have q := pc.map entK
      rw [List.map_cons, ek] at q
      exact q
    have g1 : ∀ e ∈ fs.toList, GoodQ w e := fun e he => by
      rcases List.mem_cons.mp (pc.mem_iff.mp he) with z | z
      · rw [z]
        refine ⟨?_, ?_⟩
        · rw [ek]; exact hx
        · rw [ek]; rfl
      · exact z4 e z
    have nd1 : (fs.toList.map entK).Nodup := pk.nodup_iff.mpr (List.nodup_cons.mpr ⟨nk, z5⟩)
    have m1 : ∀ i, (S i || decide (i = k)) = true ↔ i ∈ fs.toList.map entK := fun i => by
      rw [Bool.or_eq_true, decide_eq_true_eq, z6 i, pk.mem_iff, List.mem_cons]
      exact Or.comm
    have zs : fs.size = n + 1 := by rw [← Array.length_toList, pc.length_eq, List.length_cons, Array.length_toList, z9]
    have b1 : fs.size < scanBound := by rw [zs]; exact room
    have ld : w.params.followText "set-order" = true ∨ t1.led = true := z11.imp id fun z => by rw [l1]; exact z
    have fin' : ∀ h', Heap.SameBut a s.heap h' → SetQ w h' a (fun j => S j || decide (j = k)) fs.size → Q true { s with heap := h' } := fun h' sb r => by
      have q := fin h' sb
      rw [sk] at q
      rw [zs] at r
      exact q r
    refine wpAny_bind (gw _ ?_)
    split
    · refine wpAny_bind ?_
      rw [hashByValue_scannable 8 sc]
      refine wpAny_pure ?_
      refine setQ_tail ?_ z1 z2 z3 g1 nd1 m1 b1 ?_ ?_ ?_ ?_
      · intro b s₁ Q' q
        cases b
        · exact wpAny_pure q
        · exact wpAny_rule q
      · first | (split <;> first | exact f1 | exact SetTable.fits_plain_off f1) | exact f1
      · first | (split <;> exact r1) | exact r1
      · first | (split <;> exact ld) | exact ld
      · intro h' sb r; dsimp only; exact wpAny_pure (fin' h' sb r)
    · refine wpAny_bind (wpAny_pure ?_)
      simp only [↓reduceIte]
      refine setQ_tail ?_ z1 z2 z3 g1 nd1 m1 b1 f1 r1 ld ?_
      · intro b s₁ Q' q
        cases b
        · exact wpAny_pure q
        · exact wpAny_rule q
      · intro h' sb r; exact wpAny_pure (fin' h' sb r)
/-- members put in, one by one -/
theorem setQ_loop {I : Addr} {fp wr : List Addr} {G : Array GenState → Array GenState → Prop} {n : Nat} {Pv : Nat → Value → Prop} {St : Nat → Shared → Prop} {R : Result → Shared → Prop}
    (W : WalksS P w A.in1 I fp wr G n Pv St) (D : Addr) (hD : D ∉ fp) (ks : List Key) (hn : n = ks.length) (hb : ks.length + 1 < scanBound) (hval : ∀ i v, Pv i v → ∃ k, ks[i]? = some k ∧ keyIs k v = true) :
    ∀ (m i : Nat) (s : Shared), n - i = m → i ≤ n → St i s → (∃ c, c ≤ i ∧ SetQ w s.heap D (memK (ks.take i)) c) →
      (∀ s' c, Moved (D :: wr) G s s' → c ≤ n → SetQ w s'.heap D (memK ks) c → R (.ok (.ret .none)) s') →
      codeAny (model P w) A (.builtin "set.update.loop" ⟨[.ref D, .ref I], []⟩) R s := by
  have hDw : D ∉ wr := fun q => hD (W.sub _ q)
  have sub : ∀ b ∈ wr, b ∈ D :: wr := fun b q => List.mem_cons_of_mem _ q
  intro m
  induction m with
  | zero =>
    intro i s e1 e2 hst ⟨c, hc, hS⟩ fin
    obtain rfl : i = n := by omega
    refine codeAny_builtin F.entry_set_update_loop ?_
    rw [Around.under_plainId F.plain_set_update_loop _]
    show wpAny _ A.in1 (pyNext (.ref I) >>= _) _ _ s
    refine wpAny_bind (W.done s _ _ hst fun s' hm => ?_)
    show wpAny _ A.in1 (ret Value.none) _ _ s'
    rw [show ks.take i = ks from List.take_of_length_le (by omega)] at hS
    exact wpAny_pure (fin s' c (hm.mono sub) hc (hS.stay fun o q => hm.heap D o hDw q))
  | succ m ih =>
    intro i s e1 e2 hst ⟨c, hc, hS⟩ fin
    have lt : i < n := by omega
    refine codeAny_builtin F.entry_set_update_loop ?_
    rw [Around.under_plainId F.plain_set_update_loop _]
    show wpAny _ A.in1 (pyNext (.ref I) >>= _) _ _ s
    refine wpAny_bind (W.item i s _ _ lt hst fun v s' hP hst' hm => ?_)
    obtain ⟨k, hk, kv⟩ := hval i v hP
    have hS1 : SetQ w s'.heap D (memK (ks.take i)) c := hS.stay fun o q => hm.heap D o hDw q
    show wpAny _ A.in1 (holding [v] (setAdd D v) >>= _) _ _ s'
    refine wpAny_bind (wpAny_holding ?_)
    unfold setAdd
    refine wpAny_holding ?_
    refine wpAny_bind ((mixKind P w).pyHash (k := k) kv ?_)
    refine setQ_add (s := { s' with toks := s'.toks + 1 }) kv hS1 (by omega) fun h' sb hS2 => ?_
    have hS3 : SetQ w h' D (memK (ks.take (i + 1))) (if memK (ks.take i) k = true then c else c + 1) := hS2.same fun j => by
      rw [List.take_add_one, hk]
      exact memK_snoc _ _ _
    have hc3 : (if memK (ks.take i) k = true then c else c + 1) ≤ i + 1 := by split <;> omega
    refine wpAny_pure ⟨plainId_quiet F.plain_set_update_loop _, ih (i + 1) _ (by omega) lt (W.frame _ s' _ _ hst' (Nat.le_succ _) fun b q o e => ?_) ⟨_, hc3, hS3⟩ fun s2 c2 m2 l2 S2 => ?_⟩
    · rw [sb.2 b (fun z : b = D => hD (by rw [← z]; exact q))]; exact e
    · refine fin s2 c2 (Moved.trans W.gtrans ((hm.mono sub).then_heap (Nat.le_succ _) fun b o q e => ?_) m2) l2 S2
      rw [sb.2 b (fun z : b = D => q (by rw [z]; exact List.mem_cons_self))]; exact e
theorem setQ_fresh {h : Heap} {a : Addr} (w : World) (e : h.get? a = some { cls := .type "set", dict := none, data := .set #[] 0 (.fresh 0 0 (!w.params.followText "set-order")) }) : SetQ w h a (fun _ => false) 0 :=
  ⟨_, #[], 0, _, e, ⟨rfl, rfl, rfl⟩, rfl, (fun e he => by simp at he), (by simp), (fun k => by simp), (by decide), (by rfl), rfl, List.Pairwise.nil, by
    show _ ∨ (!w.params.followText "set-order") = true
    cases w.params.followText "set-order"
    · exact .inr rfl
    · exact .inl rfl⟩
end
end DL
set_option maxRecDepth 100000
set_option maxHeartbeats 2000000
/-! DL21: set(x), sorted(set). -/
namespace DL
open PySem L2 PySem.Spec PyProof.Rows PySem.W
section
variable {P : Program} {w : World} {A : Around} {E : Value → Shared → Prop} {s : Shared}
def newSetObj (w : World) : Obj := { cls := .type "set", dict := none, data := .set #[] 0 (.fresh 0 0 (!w.params.followText "set-order")) }
/-- what may be made a set: its kind, its walk, the keys that come -/
structure SetSrc (P : Program) (w : World) (s : Shared) (v : Value) (T : String) (ks : List Key) : Prop where
  ty : ∀ h1, (∀ b o, s.heap.get? b = some o → h1.get? b = some o) → Shared.TypeIs { s with heap := h1 } v T
  ns : isSubtype (.type T) (.type "set") = pure false
  nf : isSubtype (.type T) (.type "frozenset") = pure false
  nd : (Value.type T == Value.type "dict") = false
  it : ∀ (h1 : Heap) (D : Addr), (∀ b o, s.heap.get? b = some o → h1.get? b = some o) → s.heap.objs.size ≤ D → D < h1.objs.size → ∀ (A' : Around) (E' : Value → Shared → Prop) (Q' : Value → Shared → Prop), A'.handled = none →
    (∀ (h2 : Heap) (I : Addr) (fp wr : List Addr) (St : Nat → Shared → Prop) (Pv : Nat → Value → Prop), (∀ A2 : Around, A2.handled = none → WalksS P w A2 I fp wr (fun a b => b = a) ks.length Pv St) → (∀ i v, Pv i v → ∃ k, ks[i]? = some k ∧ keyIs k v = true) →
      (∀ b o, h1.get? b = some o → h2.get? b = some o) → D ∉ fp → (∀ b ∈ wr, h1.objs.size ≤ b) → St 0 { s with heap := h2 } → Q' (.ref I) { s with heap := h2 }) → wpAny (model P w) A' (pyIter v) Q' E' { s with heap := h1 }
theorem upd_set {v : Value} {T : String} {ks : List Key} {R : Unit → Shared → Prop} {D : Addr} (F : SetSrc P w s v T ks) (hh : A.handled = none) (hb : ks.length + 1 < scanBound) {h1 : Heap} (kp : ∀ b o, s.heap.get? b = some o → h1.get? b = some o) (hD1 : s.heap.objs.size ≤ D) (hD : h1.get? D = some (newSetObj w))
    (fin : ∀ (h' : Heap) (tk c : Nat), SetQ w h' D (memK ks) c → c ≤ ks.length → (∀ b o, b ≠ D → h1.get? b = some o → h'.get? b = some o) → R () { s with heap := h', toks := tk }) :
    wpAny (model P w) A (Builtin.Frozenset.updateFrom "set.__init__" D v) R E { s with heap := h1 } := by
  have ty := F.ty h1 kp
  unfold Builtin.Frozenset.updateFrom Builtin.Frozenset.isAnySet
  refine wpAny_bind ?_
  refine wpAny_bind (wpAny_isInstance ty F.ns ?_)
  simp only [Bool.false_eq_true, if_false]
  refine wpAny_isInstance ty F.nf ?_
  simp only [Bool.false_eq_true, if_false]
  refine wpAny_bind (wpAny_typeOf ty ?_)
  rw [F.nd]
  simp only [Bool.false_eq_true, if_false]
  refine wpAny_bind (F.it h1 D kp hD1 (Heap.lt_size hD) A E _ hh fun h2 I fp wr St Pv W hv k2 nD nW st => ?_)
  have hD2 : h2.get? D = some (newSetObj w) := k2 _ _ hD
  refine wpAny_bind (wpAny_runValue ?_)
  refine setQ_loop (W _ (by simp [hh])) D nD ks rfl hb hv (ks.length - 0) 0 _ (by omega) (Nat.zero_le _) st ⟨0, Nat.le_refl 0, ?_⟩ fun s' c m l z => ?_
  · exact (setQ_fresh w hD2).same fun j => rfl
  · obtain ⟨h', g2, d', tk', os'⟩ := s'
    have e1 : g2 = s.gens := m.gens
    have e2 : d' = s.drawn := m.drawn
    have e3 : os' = s.os := m.os
    subst e1 e2 e3
    refine wpAny_pure (fin h' tk' c z l fun b o n q => ?_)
    have lt := Heap.lt_size q
    exact m.heap b o (by
      simp only [List.mem_cons, not_or]
      exact ⟨n, fun hw => absurd lt (Nat.not_lt.mpr (nW b hw))⟩) (k2 _ _ q)
theorem call_setQ {v : Value} {T : String} {ks : List Key} {Q : Value → Shared → Prop} (G : SetSrc P w s v T ks) (hh : A.handled = none) (hb : ks.length + 1 < scanBound)
    (fin : ∀ (h' : Heap) (tk c : Nat), SetQ w h' s.heap.objs.size (memK ks) c → c ≤ ks.length → (∀ b o, s.heap.get? b = some o → h'.get? b = some o) → Q (.ref s.heap.objs.size) { s with heap := h', toks := tk }) :
    wpAny (model P w) A (call (.type "set") [v]) Q E s := by
  obtain ⟨c0, tl, mro⟩ := F.called_set.mro
  have made := F.called_set.made
  have sub := F.called_set.sub
  refine wpAny_call (codeAny_of_tree ?_)
  show wpAny _ _ (callAny (.type "set") _) _ _ _
  refine wpAny_pure ⟨Code.quiet_builtin _ (by decide +kernel), codeAny_builtin F.entry_type_call ?_⟩
  rw [Around.under_plain (weight_type_call_type "set" [v] []) rfl]
  have n1 := F.called_set.notType
  have n2 := F.called_set.canCreate
  have n3 := F.typeCall_set_1 v
  repeat (any_goals (first | assumption | wp_step))
  refine codeAny_mono (code_set_led1 v (E := E) (Q₁ := fun obj s₁ => obj = .ref s.heap.objs.size ∧ s₁ = { s with heap := s.heap.push (newSetObj w) }) ⟨rfl, rfl⟩) fun r s₁ hr => ?_
  cases r with
  | error e => exact hr
  | ok fl =>
    cases fl with
    | ret obj =>
      obtain ⟨rfl, rfl⟩ := hr
      have hS : (s.heap.push (newSetObj w)).get? s.heap.objs.size = some (newSetObj w) := Heap.get?_push_size _ rfl
      have hT : Shared.TypeIs { s with heap := s.heap.push (newSetObj w) } (.ref s.heap.objs.size) "set" := ⟨_, hS, rfl⟩
      have li := F.called_set.init.lookup
      have bi := F.called_set.init.bind (.ref s.heap.objs.size)
      repeat (any_goals (first | assumption | wp_step))
      refine codeAny_mono (codeAny_call_builtin (R := wants (fun r s₂ => r = .none ∧ ∃ h' tk c, s₂ = { s with heap := h', toks := tk } ∧ SetQ w h' s.heap.objs.size (memK ks) c ∧ c ≤ ks.length ∧
          (∀ b o, s.heap.get? b = some o → h'.get? b = some o)) E) F.called_set.init.plain F.entry_set_init (check_set_init_1 hT ?_)) fun r₂ s₂ hr₂ => ?_
      · unfold Builtin.«set.__init__» noKeywords
        have kp : ∀ b o, s.heap.get? b = some o → (s.heap.push (newSetObj w)).get? b = some o := fun b o q => Heap.get?_push_of_some _ q
        generalize hU : Builtin.Frozenset.updateFrom = U
        wp_walk
        subst hU
        refine upd_set (A := A.in1.in1) G (by simp [hh]) hb kp (Nat.le_refl _) hS fun h' tk c z l k2 => ?_
        exact wpAny_pure ⟨rfl, h', tk, c, rfl, z, l, fun b o q => k2 b o (Nat.ne_of_lt (Heap.lt_size q)) (kp b o q)⟩
      · cases r₂ with
        | error e => exact hr₂
        | ok fl₂ =>
          cases fl₂ with
          | ret r =>
            obtain ⟨rfl, h', tk, c', rfl, z1, z2, z3⟩ := hr₂
            repeat (any_goals (first | assumption | wp_step))
            exact fin _ _ _ z1 z2 z3
          | _ => exact hr₂.elim
    | _ => exact hr.elim
/-- a text, sign by sign -/
theorem SetSrc.txt (x : Str) (u : Tok) : SetSrc P w s (.str x u) "str" (x.cps.toList.map fun c => Sum.inr ⟨#[c]⟩) where
  ty := fun h1 kp => (show typeOf (.str x u) = pure (.type "str") from rfl)
  ns := PySem.F.sub_str_set
  nf := PySem.F.sub_str_frozenset
  nd := by decide
  it := fun h1 D kp l1 l2 A' E' Q' hh fin => by
    refine wpAny_pyIter_str fun o St W st => ?_
    have hl : (x.cps.toList.map fun c => (Sum.inr ⟨#[c]⟩ : Key)).length = x.cps.size := by rw [List.length_map, Array.length_toList]
    refine fin _ _ [h1.objs.size] [h1.objs.size] (fun i s => St i s.heap) (SignAt x) (fun A2 h2 => by rw [hl]; exact (W A2 h2).toS) (fun i v hv => ?_) (fun b o q => Heap.get?_push_of_some _ q) (fun z => absurd (List.mem_singleton.mp z) (Nat.ne_of_lt l2)) (by simp) st
    obtain ⟨c, u, hc, rfl⟩ := hv
    refine ⟨.inr ⟨#[c]⟩, ?_, keyIs_str _ _⟩
    rw [List.getElem?_map, Array.getElem?_toList, hc]
    rfl
/-- a list of numbers or texts -/
theorem SetSrc.list {l : Addr} {items : Array Value} {ks : List Key} (hl : s.heap.IsList l items) (hk : ∀ (i : Nat) (v : Value), items[i]? = some v → ∃ k, ks[i]? = some k ∧ keyIs k v = true) (hn : items.size = ks.length) : SetSrc P w s (.ref l) "list" ks where
  ty := fun h1 kp => by
    obtain ⟨o, e1, e2, _⟩ := hl
    exact ⟨o, kp _ _ e1, e2⟩
  ns := PySem.F.sub_list_set
  nf := PySem.F.sub_list_frozenset
  nd := by decide
  it := fun h1 D kp l1 l2 A' E' Q' hh fin => by
    have hl1 : h1.IsList l items := by
      obtain ⟨o, e1, e2⟩ := hl
      exact ⟨o, kp _ _ e1, e2⟩
    have lt : l < s.heap.objs.size := by
      obtain ⟨o, e1, _⟩ := hl
      exact Heap.lt_size e1
    refine wpAny_pyIter_list hl1 ?_
    refine fin _ _ [h1.objs.size, l] [h1.objs.size] (fun i s => s.heap.IsListIter h1.objs.size l i ∧ s.heap.IsList l items) (fun i v => items[i]? = some v) (fun A2 h2 => by rw [← hn]; exact (Walks.list h2 h1.objs.size l (Nat.ne_of_lt (Nat.lt_trans (Nat.lt_of_lt_of_le lt l1) l2)) items).toS) hk (fun b o q => Heap.get?_push_of_some _ q) (fun z => by
      rcases List.mem_cons.mp z with z | z
      · exact absurd z (Nat.ne_of_lt l2)
      · exact absurd (List.mem_singleton.mp z) (Nat.ne_of_gt (Nat.lt_of_lt_of_le lt l1))) (by simp) ⟨⟨_, Heap.get?_push_size _ rfl, rfl, rfl⟩, hl1.push _⟩
/-! ### sorted of a set -/
theorem sorted_setQ {a : Addr} {S : Key → Bool} {n : Nat} {β : Type} {f : β → Key} {enc : β → PyData} {Q : Value → Shared → Prop} (Z : SetQ w s.heap a S n) (hh : A.handled = none) (hn : n ≤ sizeLine) (hu : A.units + 10 < cLine) (of : ∀ k, S k = true → ∃ b, k = f b)
    (rd : ∀ (h : Heap) b v, keyIs (f b) v = true → ∃ as, Reads h v (enc b) as) (hal : ∀ b b', alike (enc b) (enc b') = true) (hk : (∀ b, ∃ x r, enc b = .tuple (x :: r)) ∨ ∀ b, enc b ≠ .none ∧ ∀ xs, enc b ≠ .tuple xs) (hd : ∀ b, (enc b).depth = 0)
    (fin : ∀ (s' : Shared) (p : Addr) (out : List Value) (c : Nat) (bs : List β), (∀ b o, s.heap.get? b = some o → s'.heap.get? b = some o) → s'.gens = s.gens → s'.os = s.os → s.heap.objs.size ≤ p → s'.heap.get? p = some (seqObj "list" out.toArray c) →
      EachIs (fun v b => keyIs (f b) v = true) out (bs.mergeSort (dataLe false enc)) → (bs.map f).Nodup → (∀ k, k ∈ bs.map f ↔ S k = true) → bs.length = n → Q (.ref p) s') :
    wpAny (model P w) A (call (.builtin "sorted") [.ref a]) Q E s := by
  obtain ⟨o, es, ep, t, z1, z2, z3, z4, z5, z6, z7, z8, z9, z10, z11⟩ := Z
  refine Calls.call_function_entry kind_sorted plain_sorted entry_sorted (args_sorted1 _) ?_
  unfold Builtin.«sorted»
  refine wpAny_bind (m := checkCount "sorted" 1 1 _) (wpAny_pure ?_)
  refine wpAny_bind (collect_set (A := A.in1) hh ⟨o, z1, z2.1, z3⟩ z8 z7 z10 z11 fun s1 vs k1 hz g1 o1 pm => ?_)
  have vl : vs.length = n := by rw [pm.length_eq, List.length_map, Array.length_toList]; exact z9
  obtain ⟨bs, hb1, hb2⟩ : ∃ bs : List β, EachIs (fun v b => keyIs (f b) v = true) vs bs ∧ (bs.map f) = vs.map keyQ := by
    have all : ∀ v ∈ vs, ∃ b, keyIs (f b) v = true := fun v hv => by
      obtain ⟨e, he, q⟩ := List.mem_map.mp (pm.mem_iff.mp hv)
      have g := (z4 e he).1
      obtain ⟨b, hb⟩ := of (entK e) ((z6 _).2 (List.mem_map.mpr ⟨e, he, rfl⟩))
      refine ⟨b, ?_⟩
      rw [← hb, ← q]
      exact g
    clear pm vl
    induction vs with
    | nil => exact ⟨[], .nil, rfl⟩
    | cons v vs ih =>
      obtain ⟨b, hb⟩ := all v List.mem_cons_self
      obtain ⟨bs, h1, h2⟩ := ih fun u hu => all u (List.mem_cons_of_mem _ hu)
      exact ⟨b :: bs, .cons hb h1, by rw [List.map_cons, List.map_cons, h2, keyQ_of hb]⟩
  have pk : (bs.map f).Perm (es.toList.map entK) := by
    rw [hb2]
    have q := pm.map keyQ
    rw [List.map_map] at q
    exact q
  refine wpAny_bind (wpAny_newList ?_ (by rw [vl]; exact hn))
  have hoL : (s1.heap.push (seqObj "list" vs.toArray 0)).get? s1.heap.objs.size = some (seqObj "list" vs.toArray 0) := Heap.get?_push_size _ rfl
  have bl : bs.length = vs.length := hb1.length.symm
  refine wpAny_bind (wpAny_holding (list_sort_data (enc := enc) hoL hb1 (hb1.mono fun v b q => ?_) (AllAlike.of hal) (hk.elim (fun q => Sortable.tuples q) fun q => Sortable.others q) (by rw [bl, vl]; exact hn) (fun b _ => by rw [hd]; show A.units + 1 + 1 + 0 < _; omega) fun out hl ho => ?_))
  · obtain ⟨as, ha⟩ := rd (s1.heap.push (seqObj "list" vs.toArray 0)) b v q
    refine ⟨as, ha, ?_⟩
    have : ∀ (d : PyData) (v : Value) (as : List Addr), (∃ i t, v = .int i t) ∨ (∃ x t, v = .str x t) → Reads (s1.heap.push (seqObj "list" vs.toArray 0)) v d as → as = [] := fun d v as hv r => by
      rcases hv with ⟨i, t, rfl⟩ | ⟨x, t, rfl⟩ <;> cases r <;> rfl
    rw [this _ v as (by
      rcases keyIs_shape q with ⟨i, t, _, e⟩ | ⟨x, t, _, e⟩
      · exact .inl ⟨i, t, e⟩
      · exact .inr ⟨x, t, e⟩) ha]
    simp
  · obtain ⟨c, hc⟩ := sortedHeap_at (vs := vs) (out := out.toArray) hoL
    refine wpAny_pure ⟨_, rfl, fin { s1 with heap := sortedHeap (s1.heap.push (seqObj "list" vs.toArray 0)) s1.heap.objs.size vs out.toArray } s1.heap.objs.size out c bs (fun b u e => ?_) g1 o1 hz hc ho (pk.nodup_iff.mpr z5) (fun k => by rw [pk.mem_iff, ← z6 k]) (by rw [bl, vl])⟩
    have q := k1 b u e
    have lt := Heap.lt_size q
    show (sortedHeap (s1.heap.push (seqObj "list" vs.toArray 0)) s1.heap.objs.size vs out.toArray).get? b = some u
    rw [sortedHeap_old (Nat.ne_of_lt lt) (by rw [size_push']; exact Nat.lt_succ_of_lt lt)]
    exact Heap.get?_push_of_some _ q
end
end DL
set_option maxRecDepth 100000
set_option maxHeartbeats 2000000
/-! DL22: sorted(set(x)) of texts. -/
namespace DL
open PySem L2 PySem.Spec PyProof.Rows PySem.W
/-! ### rising lists -/
theorem rise_uniq {α : Type} {lt : α → α → Prop} (asym : ∀ a b, lt a b → ¬ lt b a) : ∀ {l m : List α}, l.Pairwise lt → m.Pairwise lt → (∀ a, a ∈ l ↔ a ∈ m) → l = m
  | [], [], _, _, _ => rfl
  | [], b :: m, _, _, h => absurd ((h b).mpr List.mem_cons_self) (by simp)
  | a :: l, [], _, _, h => absurd ((h a).mp List.mem_cons_self) (by simp)
  | a :: l, b :: m, p, q, h => by
    obtain ⟨p1, p2⟩ := List.pairwise_cons.mp p
    obtain ⟨q1, q2⟩ := List.pairwise_cons.mp q
    have e : a = b := by
      rcases List.mem_cons.mp ((h a).mp List.mem_cons_self) with e | e
      · exact e
      · rcases List.mem_cons.mp ((h b).mpr List.mem_cons_self) with e2 | e2
        · exact e2.symm
        · exact absurd (q1 a e) (asym _ _ (p1 b e2))
    subst e
    have irr : ¬ lt a a := fun z => asym a a z z
    congr 1
    refine rise_uniq asym p2 q2 fun x => ?_
    have hx := h x
    simp only [List.mem_cons] at hx
    constructor
    · intro m1
      rcases hx.mp (.inr m1) with e | e
      · subst e; exact absurd (p1 x m1) irr
      · exact e
    · intro m1
      rcases hx.mpr (.inr m1) with e | e
      · subst e; exact absurd (q1 x m1) irr
      · exact e
/-- rising, each once -/
def riseL (ls : List (List Nat)) : List (List Nat) := (ls.mergeSort fun a b : List Nat => decide (a ≤ b)).eraseDups
theorem pair_lt : ∀ {l : List (List Nat)}, l.Pairwise (fun a b : List Nat => decide (a ≤ b) = true) → l.Nodup → l.Pairwise (· < ·)
  | [], _, _ => List.Pairwise.nil
  | a :: l, p, n => by
    obtain ⟨p1, p2⟩ := List.pairwise_cons.mp p
    obtain ⟨n1, n2⟩ := List.nodup_cons.mp n
    exact List.pairwise_cons.mpr ⟨fun b hb => Std.lt_of_le_of_ne (of_decide_eq_true (p1 b hb)) (fun e => n1 (e ▸ hb)), pair_lt p2 n2⟩
theorem sortedT {l : List (List Nat)} : (List.mergeSort l (fun a b : List Nat => decide (a ≤ b))).Pairwise (fun a b : List Nat => decide (a ≤ b) = true) :=
  List.pairwise_mergeSort (le := fun a b : List Nat => decide (a ≤ b)) (fun a b c h1 h2 => decide_eq_true (List.le_trans (of_decide_eq_true h1) (of_decide_eq_true h2))) (fun a b => by
    rw [Bool.or_eq_true, decide_eq_true_eq, decide_eq_true_eq]
    exact List.le_total a b) l
/-! ### sets as objects -/
def SetKO (w : World) (a : Addr) (S : Key → Bool) (n : Nat) : HO := .ext fun h => SetQ w h a S n
section
variable {X : Cx}
theorem setKO_new {w : World} {P : Program} {H : Hp} {h : Heap} {a : Addr} {S : Key → Bool} {n : Nat} (Z : SetQ w h a S n) : ObjOk P w H h a (SetKO w a S n) := by
  refine ⟨Z, ?_, fun h1 h2 z k => z.stay k⟩
  obtain ⟨o, _, _, _, e, _⟩ := Z
  exact ⟨o, e⟩
theorem setKO_get {pins : List (Addr × Obj)} {σ : L2.St} {H : Hp} {s : Shared} {a : Addr} {S : Key → Bool} {n : Nat} (I : Inv X pins σ H s) (ha : H a = some (SetKO X.w a S n)) : SetQ X.w s.heap a S n := (I.hok a _ ha).1
/-- set(x), x a text -/
def rSetT (w : World) : List V → Hp → VK → Prop := fun xs H Q => ∃ (z : Str), xs = [.str z] ∧ z.cps.size + 1 < scanBound ∧
  ∀ p c, H p = none → c ≤ z.cps.size → Q (.ref p) (upd H p (SetKO w p (memK (z.cps.toList.map fun c => Sum.inr ⟨#[c]⟩)) c))
/-- set(x), x a list of texts -/
def rSetL (K : PySem.W.Frag) (w : World) : List V → Hp → VK → Prop := fun xs H Q => ∃ (a : Addr) (zs : List Str), xs = [.ref a] ∧ SqL K H a (zs.map V.str) ∧ zs.length + 1 < scanBound ∧
  ∀ p c, H p = none → c ≤ zs.length → Q (.ref p) (upd H p (SetKO w p (memK (zs.map Sum.inr)) c))
theorem inv_newSet {pins : List (Addr × Obj)} {σ : L2.St} {H : Hp} {s : Shared} {S : Key → Bool} {c tk : Nat} {h' : Heap} (I : Inv X pins σ H s) (z : SetQ X.w h' s.heap.objs.size S c) (k : ∀ b o, s.heap.get? b = some o → h'.get? b = some o) : Inv X pins σ (upd H s.heap.objs.size (SetKO X.w s.heap.objs.size S c)) { s with heap := h', toks := tk } :=
  I.laid (t' := tk) k (Nat.le_refl _) (setKO_new z)
theorem cr_setT (hc : X.calm = true) : CallR X (.type "set") (rSetT X.w) := by
  intro pins s σ H xs us Q I r h
  obtain ⟨z, rfl, hb, q⟩ := h
  cases r with
  | cons r t =>
    cases t
    obtain ⟨u, rfl⟩ := r
    refine call_setQ (SetSrc.txt z u) (I.ok.hd hc) (by rw [List.length_map, Array.length_toList]; exact hb) fun h' tk c hS hl k => ?_
    exact ⟨.ref _, _, inv_newSet I hS k, rfl, q _ _ (I.hok.fresh (Nat.le_refl _)) (by rw [List.length_map, Array.length_toList] at hl; exact hl)⟩
theorem cr_setL (hc : X.calm = true) : CallR X (.type "set") (rSetL X.K X.w) := by
  intro pins s σ H xs us Q I r h
  obtain ⟨a, zs, rfl, hs, hb, q⟩ := h
  obtain ⟨its, rv, hl, hz⟩ := I.list hs
  rw [Vals.ref1 r]
  have hn : its.toArray.size = (zs.map Sum.inr : List Key).length := by rw [List.size_toArray, ← rv.length, List.length_map, List.length_map]
  refine call_setQ (SetSrc.list hl.isList (fun i v e => ?_) hn) (I.ok.hd hc) (by rw [List.length_map]; exact hb) fun h' tk c hS hlc k => ?_
  · have e' : its[i]? = some v := by rw [List.getElem?_toArray] at e; exact e
    have hi : i < its.length := (List.getElem?_eq_some_iff.mp e').1
    have hi2 : i < zs.length := by rw [← rv.length, List.length_map] at hi; exact hi
    obtain ⟨u, h1, h2⟩ := rv.get (i := i) (x := V.str zs[i]) (by rw [List.getElem?_map, List.getElem?_eq_getElem hi2]; rfl)
    rw [e'] at h1
    cases h1
    obtain ⟨t, rfl⟩ := h2
    exact ⟨.inr zs[i], by rw [List.getElem?_map, List.getElem?_eq_getElem hi2]; rfl, keyIs_str _ _⟩
  · exact ⟨.ref _, _, inv_newSet I hS k, rfl, q _ _ (I.hok.fresh (Nat.le_refl _)) (by rw [List.length_map] at hlc; exact hlc)⟩
/-- sorted(x), x a set of texts -/
def rSortS (w : World) : List V → Hp → VK → Prop := fun xs H Q => ∃ (a : Addr) (ks : List (List Nat)) (n : Nat), xs = [.ref a] ∧ H a = some (SetKO w a (memK (ks.map fun l => Sum.inr (SX.S l))) n) ∧ n ≤ sizeLine ∧
  ∀ (ls : List (List Nat)), ls.Pairwise (· < ·) → (∀ l, l ∈ ls ↔ l ∈ ks) → ls.length = n → ∀ p, H p = none → Q (.ref p) (upd H p (.lst ((ls.map SX.S).map V.str)))
theorem vals_txts : ∀ {ls : List (List Nat)} {us : List Value}, EachIs (fun v l => keyIs (Sum.inr (SX.S l)) v = true) us ls → Vals ((ls.map SX.S).map V.str) us
  | [], _, .nil => .nil
  | l :: ls, _, .cons h t => by
    obtain ⟨i, u, e, _⟩ | ⟨x, u, e, rfl⟩ := keyIs_shape h
    · cases e
    · cases e
      exact .cons ⟨u, rfl⟩ (vals_txts t)
theorem cr_sortS (hc : X.calm = true) (hu : X.A.units + 10 < cLine) : CallR X (.builtin "sorted") (rSortS X.w) := by
  intro pins s σ H xs us Q I r h
  obtain ⟨a, ks, n, rfl, ha, hn, q⟩ := h
  have Z := setKO_get I ha
  rw [Vals.ref1 r]
  refine sorted_setQ (β := List Nat) (f := fun l => Sum.inr (SX.S l)) (enc := fun l => .str (SX.S l)) Z (I.ok.hd hc) hn hu (fun k hk => ?_) (fun h b v hv => ?_) (fun b b' => rfl) (.inr fun b => ⟨(fun e => nomatch e), fun xs e => nomatch e⟩) (fun b => by simp [PyData.depth]) fun s' p out c bs kp g o hp hg ho nd hm hl => ?_
  · obtain ⟨l, _, e⟩ := List.mem_map.mp (memK_iff.mp hk)
    exact ⟨l, e.symm⟩
  · obtain ⟨i, u, e, _⟩ | ⟨x, u, e, rfl⟩ := keyIs_shape hv
    · cases e
    · cases e
      exact ⟨_, .str _ _⟩
  · have eo : bs.mergeSort (dataLe false fun l => PyData.str (SX.S l)) = bs.mergeSort fun a b => decide (a ≤ b) := by
      rw [dataLe_str]
    rw [eo] at ho
    have pm := List.mergeSort_perm bs fun a b => decide (a ≤ b)
    have inj : ∀ a b : List Nat, (Sum.inr (SX.S a) : Key) = Sum.inr (SX.S b) → a = b := fun a b e => SX.S_inj (Sum.inr.inj e)
    have nb : bs.Nodup := (List.pairwise_map.mp nd).imp fun {x y} hne e => hne (by rw [e])
    have n2 : (bs.mergeSort fun a b => decide (a ≤ b)).Nodup := pm.nodup_iff.mpr nb
    have mem : ∀ l, l ∈ (bs.mergeSort fun a b => decide (a ≤ b)) ↔ l ∈ ks := fun l => by
      rw [pm.mem_iff]
      have h1 := hm (Sum.inr (SX.S l))
      rw [memK_iff, List.mem_map, List.mem_map] at h1
      constructor
      · intro hb
        obtain ⟨l', h2, e⟩ := h1.mp ⟨l, hb, rfl⟩
        rw [← inj _ _ e]; exact h2
      · intro hb
        obtain ⟨l', h2, e⟩ := h1.mpr ⟨l, hb, rfl⟩
        rw [← inj _ _ e]; exact h2
    have hlen : (((bs.mergeSort fun a b => decide (a ≤ b)).map SX.S).map V.str).length ≤ sizeLine := by rw [List.length_map, List.length_map, pm.length_eq, hl]; exact hn
    have fr : H p = none := I.hok.fresh hp
    have J : Inv X pins σ (upd H p (.lst (((bs.mergeSort fun a b => decide (a ≤ b)).map SX.S).map V.str))) { s with heap := s'.heap, gens := s'.gens, drawn := s'.drawn, toks := s'.toks } :=
      I.call (ch := []) (Un.laid kp hp fr) (I.hok.laid kp hp ⟨hlen, out, c, vals_txts ho, hg⟩) (by rw [g]; exact I.bare) (fun _ z => nomatch z)
    have e : s' = { s with heap := s'.heap, gens := s'.gens, drawn := s'.drawn, toks := s'.toks } := by
      cases s'; cases s; cases o; rfl
    rw [e]
    exact ⟨.ref p, _, J, rfl, q _ (pair_lt sortedT n2) mem (by rw [pm.length_eq, hl]) p fr⟩
end
/-! ### in a def -/
section
variable {C : SC} {E : EPost} {ρ : Env} {μ : Mem} {e : Expr} {Q : XV → Mem → Prop} {p p2 pos pos2 : Pos}
theorem room_u {C : SC} {X : Cx} (h : C.Has X) : X.A.units + 10 < cLine := by
  have := hu64 h.room
  omega
theorem Rep.grow2 {K : PySem.W.Frag} {L : Addr → Prop} {H : Hp} {p : Addr} {o : HO} (hp : H p = none) {d : D} {v : V} (r : Rep K L H d v) : Rep K L (upd H p o) d v := Rep.mono (fun a u e nl => ⟨upd_grow hp a u e, nl⟩) d v r
/-- sorted(set(x)), x a text -/
theorem we_sortSetT (B : Blts C.mg) (g1 : C.Glob "sorted") (g2 : C.Glob "set") (h : WE C e ρ μ E fun x μ1 => ∃ l : List Nat, x = .d (.txt l) ∧ l.length + 1 < scanBound ∧ ∀ cs : List Nat, cs.Pairwise (· < ·) → (∀ c, c ∈ cs ↔ c ∈ l) → Q (.d (.lst (cs.map fun c => .txt [c]))) μ1)
    (he : ∀ env, starEach [e] env = (false, eval e env) :: starEach [] env := by intro _; rfl) (he2 : ∀ env, starEach [Expr.Call (.Name "set" p2) [e] [] pos2] env = (false, eval (.Call (.Name "set" p2) [e] [] pos2) env) :: starEach [] env := by intro _; rfl) :
    WE C (.Call (.Name "sorted" p) [.Call (.Name "set" p2) [e] [] pos2] [] pos) ρ μ E Q := fun X σ H w A => by
  have hg : ∀ x, C.Glob x → Gl X x := fun x hx => by show X.env.scope.names.lookup x = _; rw [A.has.sc]; exact hx
  have hm : ∀ x, C.mg x = none → X.mg x = none := fun x hx => by rw [A.has.mg]; exact hx
  refine tE_of (pe_callB (cr_sortS A.has.calm (room_u A.has)) (hg _ g1) (hm _ B.sorted) (by decide +kernel) (pa_cons (pe_callTy (cr_setT A.has.calm) (hg _ g2) (hm _ B.set) (by decide +kernel) (pa_cons pe_tE pa_nil (he _)) (by decide) (by decide) (he _) rfl) pa_nil (he2 _)) (by decide) (by decide) (he2 _) rfl) ?_
  refine h.go A fun v H1 x μ1 w1 r1 A1 S1 ⟨l, ex, hz, q⟩ => ?_
  subst ex
  refine ⟨SX.S l, by rw [show v = V.str (SX.S l) from r1], by simpa using hz, fun p1 c hp1 hc => ?_⟩
  refine ⟨p1, l.map fun c => [c], c, rfl, ?_, ?_, ?_⟩
  · rw [upd_same, List.map_map]
    rfl
  · have : c ≤ l.length := by simpa using hc
    have hs : scanBound ≤ sizeLine := by decide
    omega
  · intro ls hls hmem hlen p2 hp2
    -- each is one sign
    have one : ∀ l' ∈ ls, ∃ c, l' = [c] := fun l' hl' => by
      obtain ⟨c, _, e⟩ := List.mem_map.mp ((hmem l').mp hl')
      exact ⟨c, e.symm⟩
    obtain ⟨cs, ecs⟩ : ∃ cs : List Nat, ls = cs.map fun c => [c] := by
      clear hls hmem hlen
      induction ls with
      | nil => exact ⟨[], rfl⟩
      | cons a r ih =>
        obtain ⟨c, rfl⟩ := one a List.mem_cons_self
        obtain ⟨cs, rfl⟩ := ih fun l' hl' => one l' (List.mem_cons_of_mem _ hl')
        exact ⟨c :: cs, rfl⟩
    subst ecs
    have rise : cs.Pairwise (· < ·) := (List.pairwise_map.mp hls).imp fun {a b} h => (List.cons_lt_cons_iff.mp h).elim id fun z => absurd z.2 (List.lt_irrefl _)
    have mem : ∀ c, c ∈ cs ↔ c ∈ l := fun c => by
      have := hmem [c]
      simpa using this
    have hp2' : H1 p2 = none := by
      rcases Nat.decEq p2 p1 with n | n
      · rw [upd_ne n] at hp2; exact hp2
      · rw [n, upd_same] at hp2; cases hp2
    refine lift.from S1 ?_
    have kg : ∀ a u, H1 a = some u → upd H1 p1 (SetKO X.w p1 (memK ((SX.S l).cps.toList.map fun c => Sum.inr ⟨#[c]⟩)) c) a = some u := upd_grow hp1
    refine lift.from (Stp.grow (w := w1) (μ := μ1) kg) ?_
    refine lift.new (A1.M.grow kg) hp2 (x := .lst (cs.map fun c => .txt [c])) (fun nl => ⟨p2, _, rfl, nl, upd_same, ?_⟩) (q cs rise mem)
    have e1 : cs.map (fun c => D.txt [c]) = (cs.map fun c => [c]).map D.txt := by rw [List.map_map]; rfl
    rw [e1]
    exact Reps.of_txts
end
end DL
set_option maxRecDepth 100000
/-! rows of signs: plain mathematics, no program in sight -/
namespace RW
/-- a row as it is told -/
structure Parts where
  left : List Nat
  part : List Nat
  right : List Nat
  at_ : Int
deriving DecidableEq
def sgn (p : Parts) (i : Int) : Nat :=
  if i < p.at_ then p.left.getD ((i - p.at_) % (p.left.length : Int)).toNat 0
  else if i < p.at_ + (p.part.length : Int) then p.part.getD (i - p.at_).toNat 0
  else p.right.getD ((i - p.at_ - (p.part.length : Int)) % (p.right.length : Int)).toNat 0
def Parts.behind (p : Parts) : Int := p.at_ + (p.part.length : Int)
/-! ### periods of one side -/
def PerL (f : Int → Nat) (a : Int) (d : Int) : Prop := 1 ≤ d ∧ ∀ i, i < a → f i = f (i - d)
def PerR (f : Int → Nat) (a : Int) (d : Int) : Prop := 1 ≤ d ∧ ∀ i, a ≤ i → f i = f (i + d)
theorem PerL.mul {f : Int → Nat} {a d : Int} (h : PerL f a d) : ∀ (k : Nat) (i : Int), i < a → f i = f (i - d * k)
  | 0, i, hi => by simp
  | k + 1, i, hi => by
    have e := h.mul k i hi
    have h1 := h.1
    have hk : (0 : Int) ≤ d * k := Int.mul_nonneg (by omega) (by omega)
    rw [e, h.2 (i - d * k) (by omega)]
    congr 1
    rw [Int.natCast_add, Int.mul_add]
    omega
theorem PerR.mul {f : Int → Nat} {a d : Int} (h : PerR f a d) : ∀ (k : Nat) (i : Int), a ≤ i → f i = f (i + d * k)
  | 0, i, hi => by simp
  | k + 1, i, hi => by
    have e := h.mul k i hi
    have h1 := h.1
    have hk : (0 : Int) ≤ d * k := Int.mul_nonneg (by omega) (by omega)
    rw [e, h.2 (i + d * k) (by omega)]
    congr 1
    rw [Int.natCast_add, Int.mul_add]
    omega
/-- a window as long as both periods together tells a period -/
theorem PerL.of_window {f : Int → Nat} {a n q : Int} (h : PerL f a n) (hq : 1 ≤ q) (w : ∀ i, a - n ≤ i → i < a → f i = f (i - q)) : PerL f a q := by
  refine ⟨hq, fun i hi => ?_⟩
  have h1 := h.1
  -- i goes up into the last n places
  have hm := Int.emod_nonneg (a - 1 - i) (by omega : n ≠ 0)
  have hm2 := Int.emod_lt_of_pos (a - 1 - i) (by omega : 0 < n)
  have hd := Int.mul_ediv_add_emod (a - 1 - i) n
  have hk : 0 ≤ (a - 1 - i) / n := Int.ediv_nonneg (by omega) (by omega)
  obtain ⟨k, hk⟩ := Int.eq_ofNat_of_zero_le hk
  rw [hk] at hd
  have ej : i + n * (k : Int) = a - 1 - (a - 1 - i) % n := by omega
  have e1 : f (i + n * k) = f i := by
    have := h.mul k (i + n * k) (by omega)
    rw [this]
    congr 1
    omega
  have e2 : f (i + n * k - q) = f (i - q) := by
    have := h.mul k (i + n * k - q) (by omega)
    rw [this]
    congr 1
    omega
  rw [← e1, ← e2]
  exact w _ (by omega) (by omega)
theorem PerR.of_window {f : Int → Nat} {a n q : Int} (h : PerR f a n) (hq : 1 ≤ q) (w : ∀ i, a ≤ i → i < a + n → f i = f (i + q)) : PerR f a q := by
  refine ⟨hq, fun i hi => ?_⟩
  have h1 := h.1
  have hm := Int.emod_nonneg (i - a) (by omega : n ≠ 0)
  have hm2 := Int.emod_lt_of_pos (i - a) (by omega : 0 < n)
  have hd := Int.mul_ediv_add_emod (i - a) n
  have hk : 0 ≤ (i - a) / n := Int.ediv_nonneg (by omega) (by omega)
  obtain ⟨k, hk⟩ := Int.eq_ofNat_of_zero_le hk
  rw [hk] at hd
  have ej : i - n * (k : Int) = a + (i - a) % n := by omega
  have e1 : f (i - n * k) = f i := by
    have := h.mul k (i - n * k) (by omega)
    rw [this]
    congr 1
    omega
  have e2 : f (i - n * k + q) = f (i + q) := by
    have := h.mul k (i - n * k + q) (by omega)
    rw [this]
    congr 1
    omega
  rw [← e1, ← e2]
  exact w _ (by omega) (by omega)
/-- the least period -/
def LeastL (f : Int → Nat) (a d : Int) : Prop := PerL f a d ∧ ∀ e, PerL f a e → d ≤ e
def LeastR (f : Int → Nat) (a d : Int) : Prop := PerR f a d ∧ ∀ e, PerR f a e → d ≤ e
theorem LeastL.uniq {f : Int → Nat} {a d e : Int} (h : LeastL f a d) (k : LeastL f a e) : d = e := Int.le_antisymm (h.2 e k.1) (k.2 d h.1)
theorem LeastR.uniq {f : Int → Nat} {a d e : Int} (h : LeastR f a d) (k : LeastR f a e) : d = e := Int.le_antisymm (h.2 e k.1) (k.2 d h.1)
/-- the least period divides all -/
theorem LeastL.dvd {f : Int → Nat} {a d n : Int} (h : LeastL f a d) (k : PerL f a n) : n % d = 0 := by
  have h1 := h.1.1
  have hm := Int.emod_nonneg n (by omega : d ≠ 0)
  have hm2 := Int.emod_lt_of_pos n (by omega : 0 < d)
  have hd := Int.mul_ediv_add_emod n d
  refine Classical.byContradiction fun hne => ?_
  have hk1 := k.1
  obtain ⟨q, hq⟩ := Int.eq_ofNat_of_zero_le (Int.ediv_nonneg (by omega : 0 ≤ n) (by omega : 0 ≤ d))
  rw [hq] at hd
  have : PerL f a (n % d) := by
    refine ⟨by omega, fun i hi => ?_⟩
    rw [k.2 i hi]
    have := h.1.mul q (i - n % d) (by omega)
    rw [this]
    congr 1
    omega
  have := h.2 _ this
  omega
theorem LeastR.dvd {f : Int → Nat} {a d n : Int} (h : LeastR f a d) (k : PerR f a n) : n % d = 0 := by
  have h1 := h.1.1
  have hm := Int.emod_nonneg n (by omega : d ≠ 0)
  have hm2 := Int.emod_lt_of_pos n (by omega : 0 < d)
  have hd := Int.mul_ediv_add_emod n d
  refine Classical.byContradiction fun hne => ?_
  have hk1 := k.1
  obtain ⟨q, hq⟩ := Int.eq_ofNat_of_zero_le (Int.ediv_nonneg (by omega : 0 ≤ n) (by omega : 0 ≤ d))
  rw [hq] at hd
  have : PerR f a (n % d) := by
    refine ⟨by omega, fun i hi => ?_⟩
    rw [k.2 i hi]
    have := h.1.mul q (i + n % d) (by omega)
    rw [this]
    congr 1
    omega
  have := h.2 _ this
  omega
theorem exists_leastL {f : Int → Nat} {a n : Int} (h : PerL f a n) : ∃ d, LeastL f a d := by
  have : ∀ (k : Nat) (n : Int), n ≤ (k : Int) → PerL f a n → ∃ d, LeastL f a d := by
    intro k
    induction k with
    | zero => intro n hn hp; exact absurd hp.1 (by omega)
    | succ k ih =>
      intro n hn hp
      by_cases q : ∃ e, PerL f a e ∧ e ≤ (k : Int)
      · obtain ⟨e, he, hk⟩ := q
        exact ih e hk he
      · refine ⟨n, hp, fun e he => ?_⟩
        refine Classical.byContradiction fun hc => q ⟨e, he, by omega⟩
  exact this n.toNat n (by omega) h
theorem exists_leastR {f : Int → Nat} {a n : Int} (h : PerR f a n) : ∃ d, LeastR f a d := by
  have : ∀ (k : Nat) (n : Int), n ≤ (k : Int) → PerR f a n → ∃ d, LeastR f a d := by
    intro k
    induction k with
    | zero => intro n hn hp; exact absurd hp.1 (by omega)
    | succ k ih =>
      intro n hn hp
      by_cases q : ∃ e, PerR f a e ∧ e ≤ (k : Int)
      · obtain ⟨e, he, hk⟩ := q
        exact ih e hk he
      · refine ⟨n, hp, fun e he => ?_⟩
        refine Classical.byContradiction fun hc => q ⟨e, he, by omega⟩
  exact this n.toNat n (by omega) h
/-! ### the two loops -/
def up (P : Int → Bool) : Nat → Int → Int
  | 0, x => x
  | n + 1, x => if P x then up P n (x + 1) else x
def down (P : Int → Bool) : Nat → Int → Int
  | 0, x => x
  | n + 1, x => if P x then down P n (x - 1) else x
theorem up_le (P : Int → Bool) : ∀ (n : Nat) (x : Int), x ≤ up P n x ∧ up P n x ≤ x + n
  | 0, x => by simp [up]
  | n + 1, x => by
    unfold up
    split
    · have := up_le P n (x + 1); omega
    · omega
theorem up_all (P : Int → Bool) : ∀ (n : Nat) (x : Int) (i : Int), x ≤ i → i < up P n x → P i = true
  | 0, x, i, h1, h2 => by simp [up] at h2; omega
  | n + 1, x, i, h1, h2 => by
    unfold up at h2
    by_cases hp : P x = true
    · rw [if_pos hp] at h2
      by_cases e : i = x
      · rw [e]; exact hp
      · exact up_all P n (x + 1) i (by omega) h2
    · rw [if_neg hp] at h2; omega
theorem up_stop (P : Int → Bool) : ∀ (n : Nat) (x : Int), up P n x < x + n → P (up P n x) = false
  | 0, x, h => by simp [up] at h
  | n + 1, x, h => by
    unfold up at h ⊢
    by_cases hp : P x = true
    · rw [if_pos hp] at h ⊢
      exact up_stop P n (x + 1) (by omega)
    · rw [if_neg hp]
      simpa using hp
/-- a farther bound -/
theorem up_more (P : Int → Bool) : ∀ (n m : Nat) (x : Int), up P n x < x + n → up P (n + m) x = up P n x
  | 0, m, x, h => by simp [up] at h
  | n + 1, m, x, h => by
    rw [show n + 1 + m = (n + m) + 1 by omega]
    unfold up at h ⊢
    by_cases hp : P x = true
    · rw [if_pos hp] at h ⊢
      rw [if_pos hp]
      exact up_more P n m (x + 1) (by omega)
    · rw [if_neg hp, if_neg hp]
theorem up_full (P : Int → Bool) : ∀ (n : Nat) (x : Int), (∀ i, x ≤ i → i < x + n → P i = true) → up P n x = x + n
  | 0, x, h => by simp [up]
  | n + 1, x, h => by
    unfold up
    rw [if_pos (h x (by omega) (by omega)), up_full P n (x + 1) fun i h1 h2 => h i (by omega) (by omega)]
    omega
/-! ### sides of a told row -/
theorem sgn_L {p : Parts} (h : p.left ≠ []) : PerL (sgn p) p.at_ p.left.length := by
  have hl : 0 < p.left.length := List.length_pos_iff.mpr h
  refine ⟨by omega, fun i hi => ?_⟩
  unfold sgn
  rw [if_pos hi, if_pos (by omega)]
  congr 2
  rw [show i - (p.left.length : Int) - p.at_ = (i - p.at_) - (p.left.length : Int) by omega]
  rw [Int.sub_emod_right]
theorem sgn_R {p : Parts} (h : p.right ≠ []) : PerR (sgn p) p.behind p.right.length := by
  have hl : 0 < p.right.length := List.length_pos_iff.mpr h
  refine ⟨by omega, fun i hi => ?_⟩
  unfold Parts.behind at hi
  unfold sgn
  rw [if_neg (by omega), if_neg (by omega), if_neg (by omega), if_neg (by omega)]
  congr 2
  rw [show i + (p.right.length : Int) - p.at_ - (p.part.length : Int) = (i - p.at_ - (p.part.length : Int)) + (p.right.length : Int) by omega]
  rw [Int.add_emod_right]
end RW
set_option maxRecDepth 100000
namespace RW
/-- range(lo, hi) -/
def ran (lo hi : Int) : List Int := (List.range (hi - lo).toNat).map fun i => lo + (i : Nat)
theorem ran_mem {lo hi i : Int} : i ∈ ran lo hi ↔ lo ≤ i ∧ i < hi := by
  unfold ran
  rw [List.mem_map]
  constructor
  · rintro ⟨k, hk, rfl⟩
    rw [List.mem_range] at hk
    omega
  · rintro ⟨h1, h2⟩
    exact ⟨(i - lo).toNat, List.mem_range.mpr (by omega), by omega⟩
theorem ran_len (lo hi : Int) : (ran lo hi).length = (hi - lo).toNat := by unfold ran; simp
theorem ran_get {lo hi : Int} {k : Nat} (h : k < (hi - lo).toNat) : (ran lo hi)[k]? = some (lo + (k : Nat)) := by
  unfold ran
  rw [List.getElem?_map, List.getElem?_range h]
  rfl
/-- the signs of the row from lo to hi -/
def str (p : Parts) (lo hi : Int) : List Nat := (ran lo hi).map (sgn p)
theorem str_len (p : Parts) (lo hi : Int) : (str p lo hi).length = (hi - lo).toNat := by unfold str; rw [List.length_map, ran_len]
theorem str_get {p : Parts} {lo hi : Int} {k : Nat} (h : k < (hi - lo).toNat) : (str p lo hi)[k]? = some (sgn p (lo + (k : Nat))) := by
  unfold str
  rw [List.getElem?_map, ran_get h]
  rfl
/-! ### a word again and again -/
def cyc (w : List Nat) (i : Int) : Nat := w.getD (i % (w.length : Int)).toNat 0
def CycP (w : List Nat) (d : Int) : Prop := ∀ i, cyc w i = cyc w (i + d)
def LeastC (w : List Nat) (d : Int) : Prop := 1 ≤ d ∧ CycP w d ∧ ∀ e, 1 ≤ e → CycP w e → d ≤ e
theorem cyc_add {w : List Nat} (i k : Int) : cyc w (i + (w.length : Int) * k) = cyc w i := by
  unfold cyc
  rw [Int.add_mul_emod_self_left]
theorem cyc_nat {w : List Nat} {i : Nat} (h : i < w.length) : cyc w (i : Int) = w.getD i 0 := by
  unfold cyc
  rw [Int.emod_eq_of_lt (by omega) (by omega)]
  rfl
theorem CycP.mul {w : List Nat} {d : Int} (h : CycP w d) : ∀ (k : Nat) (i : Int), cyc w i = cyc w (i + d * k)
  | 0, i => by simp
  | k + 1, i => by
    rw [h.mul k i, h (i + d * k)]
    congr 1
    rw [Int.natCast_add, Int.mul_add]
    omega
theorem CycP.mulZ {w : List Nat} {d : Int} (h : CycP w d) (k i : Int) : cyc w i = cyc w (i + d * k) := by
  rcases Int.le_total 0 k with hk | hk
  · obtain ⟨n, rfl⟩ := Int.eq_ofNat_of_zero_le hk
    exact h.mul n i
  · obtain ⟨n, hn⟩ := Int.eq_ofNat_of_zero_le (by omega : 0 ≤ -k)
    have := h.mul n (i + d * k)
    rw [this]
    congr 1
    have e : k = -(n : Int) := by omega
    subst e
    rw [Int.mul_neg]
    omega
theorem CycP.len (w : List Nat) : CycP w w.length := fun i => by
  have := cyc_add (w := w) i 1
  rw [Int.mul_one] at this
  exact this.symm
theorem sgn_left {p : Parts} {i : Int} (h : i < p.at_) : sgn p i = cyc p.left (i - p.at_) := by unfold sgn cyc; rw [if_pos h]
theorem sgn_right {p : Parts} {i : Int} (h : p.behind ≤ i) : sgn p i = cyc p.right (i - p.behind) := by
  unfold Parts.behind at h
  unfold sgn cyc Parts.behind
  rw [if_neg (by omega), if_neg (by omega)]
  congr 3
  omega
theorem perL_cyc {p : Parts} (hl : p.left ≠ []) {d : Int} : PerL (sgn p) p.at_ d ↔ 1 ≤ d ∧ CycP p.left d := by
  have hn : 0 < p.left.length := List.length_pos_iff.mpr hl
  constructor
  · rintro ⟨h1, h2⟩
    refine ⟨h1, fun i => ?_⟩
    -- far to the left
    obtain ⟨k, hk⟩ : ∃ k : Nat, i + d - (p.left.length : Int) * k < 0 := by
      refine ⟨(i + d).toNat + 1, ?_⟩
      have : (p.left.length : Int) * (((i + d).toNat + 1 : Nat) : Int) ≥ 1 * (((i + d).toNat + 1 : Nat) : Int) := Int.mul_le_mul_of_nonneg_right (by omega) (by omega)
      omega
    have e1 := cyc_add (w := p.left) i (-(k : Int))
    have e2 := cyc_add (w := p.left) (i + d) (-(k : Int))
    rw [Int.mul_neg] at e1 e2
    rw [← e1, ← e2]
    have := h2 (p.at_ + (i + d + -((p.left.length : Int) * k))) (by omega)
    rw [sgn_left (by omega), sgn_left (by omega)] at this
    rw [show p.at_ + (i + d + -((p.left.length : Int) * k)) - p.at_ = i + d + -((p.left.length : Int) * k) by omega, show p.at_ + (i + d + -((p.left.length : Int) * k)) - d - p.at_ = i + -((p.left.length : Int) * k) by omega] at this
    exact this.symm
  · rintro ⟨h1, h2⟩
    refine ⟨h1, fun i hi => ?_⟩
    rw [sgn_left hi, sgn_left (by omega), h2 (i - d - p.at_)]
    congr 1
    omega
theorem perR_cyc {p : Parts} (hl : p.right ≠ []) {d : Int} : PerR (sgn p) p.behind d ↔ 1 ≤ d ∧ CycP p.right d := by
  have hn : 0 < p.right.length := List.length_pos_iff.mpr hl
  constructor
  · rintro ⟨h1, h2⟩
    refine ⟨h1, fun i => ?_⟩
    obtain ⟨k, hk⟩ : ∃ k : Nat, 0 ≤ i + (p.right.length : Int) * k := by
      refine ⟨(-i).toNat, ?_⟩
      have : (p.right.length : Int) * ((-i).toNat : Int) ≥ 1 * ((-i).toNat : Int) := Int.mul_le_mul_of_nonneg_right (by omega) (by omega)
      omega
    have e1 := cyc_add (w := p.right) i (k : Int)
    have e2 := cyc_add (w := p.right) (i + d) (k : Int)
    rw [← e1, ← e2]
    have := h2 (p.behind + (i + (p.right.length : Int) * k)) (by omega)
    rw [sgn_right (by omega), sgn_right (by omega)] at this
    rw [show p.behind + (i + (p.right.length : Int) * k) - p.behind = i + (p.right.length : Int) * k by omega, show p.behind + (i + (p.right.length : Int) * k) + d - p.behind = i + d + (p.right.length : Int) * k by omega] at this
    exact this
  · rintro ⟨h1, h2⟩
    refine ⟨h1, fun i hi => ?_⟩
    rw [sgn_right hi, sgn_right (by omega), h2 (i - p.behind)]
    congr 1
    omega
theorem leastL_cyc {p : Parts} (hl : p.left ≠ []) {d : Int} (h : LeastC p.left d) : LeastL (sgn p) p.at_ d :=
  ⟨(perL_cyc hl).mpr ⟨h.1, h.2.1⟩, fun e he => h.2.2 e he.1 ((perL_cyc hl).mp he).2⟩
theorem leastR_cyc {p : Parts} (hl : p.right ≠ []) {d : Int} (h : LeastC p.right d) : LeastR (sgn p) p.behind d :=
  ⟨(perR_cyc hl).mpr ⟨h.1, h.2.1⟩, fun e he => h.2.2 e he.1 ((perR_cyc hl).mp he).2⟩
/-! ### the shortest round -/
def again (w : List Nat) (k : Nat) : List Nat := (List.replicate k w).flatten
theorem again_len (w : List Nat) (k : Nat) : (again w k).length = k * w.length := by unfold again; simp
theorem again_get (w : List Nat) : ∀ (k i : Nat), i < k * w.length → (again w k).getD i 0 = w.getD (i % w.length) 0
  | 0, i, h => by omega
  | k + 1, i, h => by
    unfold again
    rw [List.replicate_succ, List.flatten_cons]
    by_cases hi : i < w.length
    · rw [List.getD_eq_getElem?_getD, List.getElem?_append_left hi, ← List.getD_eq_getElem?_getD, Nat.mod_eq_of_lt hi]
    · rw [List.getD_eq_getElem?_getD, List.getElem?_append_right (by omega), ← List.getD_eq_getElem?_getD]
      have := again_get w k (i - w.length) (by rw [Nat.add_mul] at h; omega)
      unfold again at this
      rw [this, ← Nat.mod_eq_sub_mod (by omega)]
/-- word[:d] again and again is word -/
def roundBy (w : List Nat) (d : Int) : Bool := decide ((w.length : Int) % d = 0) && decide (again (w.take d.toNat) ((w.length : Int) / d).toNat = w)
theorem roundBy_iff {w : List Nat} {d : Int} (h1 : 1 ≤ d) (h2 : d ≤ w.length) : roundBy w d = true ↔ (w.length : Int) % d = 0 ∧ CycP w d := by
  unfold roundBy
  rw [Bool.and_eq_true, decide_eq_true_iff, decide_eq_true_iff]
  refine and_congr_right fun hm => ?_
  obtain ⟨q, hq⟩ := Int.eq_ofNat_of_zero_le (Int.ediv_nonneg (by omega : (0 : Int) ≤ w.length) (by omega : 0 ≤ d))
  have hd := Int.mul_ediv_add_emod (w.length : Int) d
  rw [hm, hq] at hd
  rw [hq]
  obtain ⟨e, rfl⟩ := Int.eq_ofNat_of_zero_le (by omega : 0 ≤ d)
  have hn : e * q = w.length := by
    have : ((e * q : Nat) : Int) = (w.length : Int) := by rw [Int.natCast_mul]; omega
    omega
  have ht : (w.take e).length = e := by rw [List.length_take]; omega
  show again (w.take e) q = w ↔ _
  have hq2 : q * e = w.length := by rw [Nat.mul_comm]; exact hn
  constructor
  · intro h
    have g : ∀ i : Nat, i < w.length → w.getD i 0 = w.getD (i % e) 0 := fun i hi => by
      have := again_get (w.take e) q i (by rw [ht, hq2]; exact hi)
      rw [h, ht] at this
      rw [this]
      have hlt : i % e < e := Nat.mod_lt _ (by omega)
      rw [List.getD_eq_getElem?_getD, List.getD_eq_getElem?_getD, List.getElem?_take_of_lt hlt]
    intro i
    unfold cyc
    have a1 := Int.emod_nonneg i (by omega : (w.length : Int) ≠ 0)
    have a2 := Int.emod_lt_of_pos i (by omega : (0 : Int) < w.length)
    have b1 := Int.emod_nonneg (i + (e : Int)) (by omega : (w.length : Int) ≠ 0)
    have b2 := Int.emod_lt_of_pos (i + (e : Int)) (by omega : (0 : Int) < w.length)
    rw [g _ (by omega), g ((i + (e : Int)) % (w.length : Int)).toNat (by omega)]
    congr 1
    have c1 : (((i % (w.length : Int)).toNat % e : Nat) : Int) = i % (e : Int) := by
      rw [Int.natCast_emod, Int.toNat_of_nonneg a1]
      exact Int.emod_emod_of_dvd i ⟨(q : Int), by rw [← hn, Int.natCast_mul]⟩
    have c2 : ((((i + (e : Int)) % (w.length : Int)).toNat % e : Nat) : Int) = (i + (e : Int)) % (e : Int) := by
      rw [Int.natCast_emod, Int.toNat_of_nonneg b1]
      exact Int.emod_emod_of_dvd _ ⟨(q : Int), by rw [← hn, Int.natCast_mul]⟩
    rw [Int.add_emod_right] at c2
    omega
  · intro h
    refine List.ext_getElem? fun i => ?_
    by_cases hi : i < w.length
    · have e1 : (again (w.take e) q).getD i 0 = w.getD i 0 := by
        rw [again_get (w.take e) q i (by rw [ht, hq2]; exact hi), ht]
        have hlt : i % e < e := Nat.mod_lt _ (by omega)
        rw [List.getD_eq_getElem?_getD, List.getElem?_take_of_lt hlt, ← List.getD_eq_getElem?_getD]
        rw [← cyc_nat (by omega : i % e < w.length), ← cyc_nat hi]
        have := h.mul (i / e) ((i % e : Nat) : Int)
        rw [this]
        congr 1
        have := Nat.mod_add_div i e
        rw [← Int.natCast_mul]
        omega
      have l1 : i < (again (w.take e) q).length := by rw [again_len, ht, hq2]; exact hi
      rw [List.getElem?_eq_getElem l1, List.getElem?_eq_getElem hi]
      rw [List.getD_eq_getElem?_getD, List.getD_eq_getElem?_getD, List.getElem?_eq_getElem l1, List.getElem?_eq_getElem hi] at e1
      simpa using e1
    · rw [List.getElem?_eq_none (by rw [again_len, ht, hq2]; omega), List.getElem?_eq_none (by omega)]
def short (w : List Nat) : List Nat :=
  match (ran 1 w.length).find? (roundBy w) with
  | some d => w.take d.toNat
  | none => w
theorem LeastC.dvd {w : List Nat} {d : Int} (h : LeastC w d) {n : Int} (hn : 0 ≤ n) (k : CycP w n) : n % d = 0 := by
  obtain ⟨h1, h2, h3⟩ := h
  have hm := Int.emod_nonneg n (by omega : d ≠ 0)
  have hm2 := Int.emod_lt_of_pos n (by omega : 0 < d)
  have hd := Int.mul_ediv_add_emod n d
  refine Classical.byContradiction fun hne => ?_
  have : CycP w (n % d) := fun i => by
    rw [k i, h2.mulZ (-(n / d)) (i + n)]
    congr 1
    rw [Int.mul_neg]
    omega
  have := h3 _ (by omega) this
  omega
theorem exists_leastC {w : List Nat} (h : w ≠ []) : ∃ d, LeastC w d := by
  have hl : 0 < w.length := List.length_pos_iff.mpr h
  have : ∀ (k : Nat) (n : Int), n ≤ (k : Int) → 1 ≤ n → CycP w n → ∃ d, LeastC w d := by
    intro k
    induction k with
    | zero => intro n hn h1 hp; omega
    | succ k ih =>
      intro n hn h1 hp
      by_cases q : ∃ e, 1 ≤ e ∧ CycP w e ∧ e ≤ (k : Int)
      · obtain ⟨e, he, hc, hk⟩ := q
        exact ih e hk he hc
      · exact ⟨n, h1, hp, fun e he hc => Classical.byContradiction fun hne => q ⟨e, he, hc, by omega⟩⟩
  exact this w.length w.length (by omega) (by omega) (CycP.len w)
theorem short_least {w : List Nat} (h : w ≠ []) : LeastC w (short w).length ∧ short w = w.take (short w).length ∧ (short w).length ≤ w.length ∧ 0 < (short w).length := by
  have hl : 0 < w.length := List.length_pos_iff.mpr h
  obtain ⟨d, hd⟩ := exists_leastC h
  have hle : d ≤ w.length := hd.2.2 _ (by omega) (CycP.len w)
  have hdv := hd.dvd (by omega) (CycP.len w)
  have key : short w = w.take d.toNat := by
    unfold short
    cases e : (ran 1 w.length).find? (roundBy w) with
    | some c =>
      have hc := List.find?_some e
      have hm := ran_mem.mp (List.mem_of_find?_eq_some e)
      have hcc := (roundBy_iff hm.1 (by omega)).mp hc
      have hdc := hd.2.2 c hm.1 hcc.2
      have : c = d := by
        refine Classical.byContradiction fun hne => ?_
        -- d comes ahead of c
        obtain ⟨_, as, bs, hab, hno⟩ := List.find?_eq_some_iff_append.mp e
        have hdm : d ∈ ran 1 w.length := ran_mem.mpr ⟨hd.1, by omega⟩
        rw [hab] at hdm
        have srt : (ran 1 (w.length : Int)).Pairwise (· < ·) := by
          unfold ran
          rw [List.pairwise_map]
          exact List.pairwise_lt_range.imp fun hab => by omega
        rw [hab] at srt
        rcases List.mem_append.mp hdm with q | q
        · have := hno d q
          rw [(roundBy_iff hd.1 (by omega)).mpr ⟨hdv, hd.2.1⟩] at this
          simp at this
        · rcases List.mem_cons.mp q with q | q
          · exact hne q.symm
          · have := (List.pairwise_append.mp srt).2.1
            have := (List.pairwise_cons.mp this).1 d q
            omega
      rw [this]
    | none =>
      have hno := List.find?_eq_none.mp e
      have : d = w.length := by
        refine Classical.byContradiction fun hne => ?_
        exact hno d (ran_mem.mpr ⟨hd.1, by omega⟩) ((roundBy_iff hd.1 (by omega)).mpr ⟨hdv, hd.2.1⟩)
      rw [this]
      simp
  have hd1 := hd.1
  have el : ((short w).length : Int) = d := by rw [key, List.length_take]; omega
  have el2 : (short w).length = d.toNat := by omega
  refine ⟨by rw [el]; exact hd, by rw [el2]; exact key, by omega, by omega⟩
end RW
namespace RW
theorem ran_split {n : Int} {i : Nat} (h : 1 + (i : Int) < n) : ∃ as bs, ran 1 n = as ++ (1 + (i : Int)) :: bs ∧ ∀ a ∈ as, 1 ≤ a ∧ a < 1 + (i : Int) := by
  refine ⟨(List.range i).map fun k => (1 : Int) + (k : Nat), (List.range ((n - 1).toNat - i - 1)).map fun k => (1 : Int) + ((i + 1 + k : Nat) : Int), ?_, fun a ha => ?_⟩
  · unfold ran
    have : (n - 1).toNat = i + (1 + ((n - 1).toNat - i - 1)) := by omega
    rw [this, List.range_add, List.range_add]
    simp only [List.map_append, List.map_map, List.range_one, List.map_cons, List.map_nil]
    have e : i + (1 + ((n - 1).toNat - i - 1)) - i - 1 = (n - 1).toNat - i - 1 := by omega
    congr 1
    rw [show i + (1 + ((n - 1).toNat - i - 1)) - i - 1 = (n - 1).toNat - i - 1 by omega]
    show [_] ++ _ = _
    rw [List.singleton_append]
    congr 1
    apply List.map_congr_left
    intro k _
    show (1 : Int) + ((i + (1 + k) : Nat) : Int) = _
    omega
  · obtain ⟨k, hk, rfl⟩ := List.mem_map.mp ha
    rw [List.mem_range] at hk
    omega
theorem short_at {w : List Nat} {i : Nat} (h : 1 + (i : Int) < w.length) (hno : ∀ j : Nat, j < i → roundBy w (1 + (j : Int)) = false) (hy : roundBy w (1 + (i : Int)) = true) : short w = w.take (1 + (i : Int)).toNat := by
  obtain ⟨as, bs, e, ha⟩ := ran_split h
  have : (ran 1 w.length).find? (roundBy w) = some (1 + (i : Int)) := by
    rw [e, List.find?_append]
    have : as.find? (roundBy w) = none := List.find?_eq_none.mpr fun a hm => by
      obtain ⟨h1, h2⟩ := ha a hm
      have := hno (a - 1).toNat (by omega)
      rw [show 1 + (((a - 1).toNat : Nat) : Int) = a by omega] at this
      rw [this]
      simp
    rw [this, List.find?_cons, hy]
    rfl
  unfold short
  rw [this]
theorem short_no {w : List Nat} (hno : ∀ j : Nat, j < ((w.length : Int) - 1).toNat → roundBy w (1 + (j : Int)) = false) : short w = w := by
  have : (ran 1 w.length).find? (roundBy w) = none := List.find?_eq_none.mpr fun a hm => by
    obtain ⟨h1, h2⟩ := ran_mem.mp hm
    have := hno (a - 1).toNat (by omega)
    rw [show 1 + (((a - 1).toNat : Nat) : Int) = a by omega] at this
    rw [this]
    simp
  unfold short
  rw [this]
theorem short_len_le (w : List Nat) : (short w).length ≤ w.length := by
  unfold short
  split
  · rw [List.length_take]; omega
  · exact Nat.le_refl _
end RW
set_option maxRecDepth 100000
namespace RW
/-- the law's least step -/
def stepOn (t : List Nat) (s : Int) : Bool := decide (t.drop s.toNat ≠ t.take ((t.length : Int) - s).toNat)
def leastStep (t : List Nat) : Int := up (stepOn t) t.length 1
theorem stepOn_iff {t : List Nat} {s : Int} (h1 : 1 ≤ s) (h2 : s ≤ t.length) : stepOn t s = false ↔ ∀ i : Nat, i + s.toNat < t.length → t[i + s.toNat]? = t[i]? := by
  unfold stepOn
  rw [decide_eq_false_iff_not, Classical.not_not]
  constructor
  · intro h i hi
    have : (t.drop s.toNat)[i]? = (t.take ((t.length : Int) - s).toNat)[i]? := by rw [h]
    rw [List.getElem?_drop, List.getElem?_take_of_lt (by omega)] at this
    rw [← this]
    congr 1
    omega
  · intro h
    refine List.ext_getElem? fun i => ?_
    rw [List.getElem?_drop]
    by_cases hi : i + s.toNat < t.length
    · rw [List.getElem?_take_of_lt (by omega), ← h i hi]
      congr 1
      omega
    · rw [List.getElem?_eq_none (by omega), List.getElem?_eq_none (by rw [List.length_take]; omega)]
theorem leastStep_le {t : List Nat} (h : t ≠ []) : 1 ≤ leastStep t ∧ leastStep t ≤ t.length ∧ stepOn t (leastStep t) = false ∧ ∀ i, 1 ≤ i → i < leastStep t → stepOn t i = true := by
  have hl : 0 < t.length := List.length_pos_iff.mpr h
  have h1 := up_le (stepOn t) t.length 1
  have h2 := up_all (stepOn t) t.length 1
  have last : stepOn t t.length = false := (stepOn_iff (by omega) (by omega)).mpr fun i hi => by omega
  have hlt : leastStep t ≤ t.length := by
    refine Classical.byContradiction fun hc => ?_
    have := h2 t.length (by omega) (by unfold leastStep at hc; omega)
    rw [last] at this
    cases this
  refine ⟨h1.1, hlt, ?_, h2⟩
  exact up_stop (stepOn t) t.length 1 (by unfold leastStep at hlt; omega)
theorem leastStep_L {p : Parts} {n d F : Int} (hn : PerL (sgn p) p.at_ n) (hd : LeastL (sgn p) p.at_ d) (hF : 2 * n ≤ F) : leastStep (str p (p.at_ - F) p.at_) = d := by
  have hn1 := hn.1
  have hd1 := hd.1.1
  have hdn := hd.2 n hn
  have hlen : (str p (p.at_ - F) p.at_).length = F.toNat := by rw [str_len]; congr 1; omega
  have hne : str p (p.at_ - F) p.at_ ≠ [] := fun e => by rw [e] at hlen; simp at hlen; omega
  obtain ⟨a1, a2, a3, a4⟩ := leastStep_le hne
  rw [hlen] at a2
  -- a step q that fits, is a period; a period fits
  have fit : ∀ q : Int, 1 ≤ q → q ≤ F → (stepOn (str p (p.at_ - F) p.at_) q = false ↔ ∀ i, p.at_ - F ≤ i - q → i < p.at_ → sgn p i = sgn p (i - q)) := fun q hq hqF => by
    rw [stepOn_iff hq (by rw [hlen]; omega), hlen]
    constructor
    · intro h i h1 h2
      have := h (i - q - (p.at_ - F)).toNat (by omega)
      rw [str_get (by omega), str_get (by omega)] at this
      have := Option.some.inj this
      rw [show p.at_ - F + (((i - q - (p.at_ - F)).toNat + q.toNat : Nat) : Int) = i by omega, show p.at_ - F + (((i - q - (p.at_ - F)).toNat : Nat) : Int) = i - q by omega] at this
      exact this
    · intro h i hi
      rw [str_get (by omega), str_get (by omega), h _ (by omega) (by omega)]
      congr 2
      omega
  have hstep : stepOn (str p (p.at_ - F) p.at_) d = false := (fit d hd1 (by omega)).mpr fun i _ hi => hd.1.2 i hi
  have le : leastStep (str p (p.at_ - F) p.at_) ≤ d := by
    refine Classical.byContradiction fun hc => ?_
    rw [a4 d hd1 (by omega)] at hstep
    cases hstep
  have per : PerL (sgn p) p.at_ (leastStep (str p (p.at_ - F) p.at_)) := PerL.of_window hn a1 fun i h1 h2 => (fit _ a1 (by omega)).mp a3 i (by omega) h2
  have := hd.2 _ per
  omega
theorem leastStep_R {p : Parts} {n d F : Int} (hn : PerR (sgn p) p.behind n) (hd : LeastR (sgn p) p.behind d) (hF : 2 * n ≤ F) : leastStep (str p p.behind (p.behind + F)) = d := by
  have hn1 := hn.1
  have hd1 := hd.1.1
  have hdn := hd.2 n hn
  have hlen : (str p p.behind (p.behind + F)).length = F.toNat := by rw [str_len]; congr 1; omega
  have hne : str p p.behind (p.behind + F) ≠ [] := fun e => by rw [e] at hlen; simp at hlen; omega
  obtain ⟨a1, a2, a3, a4⟩ := leastStep_le hne
  rw [hlen] at a2
  have fit : ∀ q : Int, 1 ≤ q → q ≤ F → (stepOn (str p p.behind (p.behind + F)) q = false ↔ ∀ i, p.behind ≤ i → i + q < p.behind + F → sgn p i = sgn p (i + q)) := fun q hq hqF => by
    rw [stepOn_iff hq (by rw [hlen]; omega), hlen]
    constructor
    · intro h i h1 h2
      have := h (i - p.behind).toNat (by omega)
      rw [str_get (by omega), str_get (by omega)] at this
      have := Option.some.inj this
      rw [show p.behind + (((i - p.behind).toNat + q.toNat : Nat) : Int) = i + q by omega, show p.behind + (((i - p.behind).toNat : Nat) : Int) = i by omega] at this
      exact this.symm
    · intro h i hi
      rw [str_get (by omega), str_get (by omega), h (p.behind + (i : Nat)) (by omega) (by omega)]
      congr 2
      omega
  have hstep : stepOn (str p p.behind (p.behind + F)) d = false := (fit d hd1 (by omega)).mpr fun i hi _ => hd.1.2 i hi
  have le : leastStep (str p p.behind (p.behind + F)) ≤ d := by
    refine Classical.byContradiction fun hc => ?_
    rw [a4 d hd1 (by omega)] at hstep
    cases hstep
  have per : PerR (sgn p) p.behind (leastStep (str p p.behind (p.behind + F))) := PerR.of_window hn a1 fun i h1 h2 => (fit _ a1 (by omega)).mp a3 i (by omega) (by omega)
  have := hd.2 _ per
  omega
/-! ### told plainly -/
def onL (p : Parts) (b : Int) (x : Int) : Bool := decide (sgn p x = sgn p (x - b))
def onR (p : Parts) (o : Int) (y : Int) : Bool := decide (sgn p (y - 1) = sgn p (y - 1 + o))
/-- the plain telling, by the two least periods and a bound B -/
def tell (p : Parts) (b o B : Int) : Parts :=
  let x := up (onL p b) (B - p.at_).toNat p.at_
  if x = B then ⟨str p 0 b, [], str p 0 b, 0⟩
  else
    let e0 := if p.behind > x then p.behind else x
    let e := down (onR p o) (e0 - x).toNat e0
    ⟨str p (x - b) x, str p x e, str p e (e + o), x⟩
def plain (p : Parts) : Parts := tell p (short p.left).length (short p.right).length (p.behind + (short p.left).length + (short p.right).length)
def far (p : Parts) : Int := 2 * (if (p.right.length : Int) > p.left.length then (p.right.length : Int) else p.left.length) + 10
def lawPlain (p : Parts) : Parts := tell p (leastStep (str p (p.at_ - far p) p.at_)) (leastStep (str p p.behind (p.behind + far p))) (p.behind + far p)
theorem tell_more {p : Parts} {b o B : Int} (hb : LeastL (sgn p) p.at_ b) (ho : LeastR (sgn p) p.behind o) (hB : p.behind + b + o ≤ B) : tell p b o B = tell p b o (p.behind + b + o) := by
  have hb1 := hb.1.1
  have ho1 := ho.1.1
  have hbe : p.at_ ≤ p.behind := by unfold Parts.behind; omega
  have n1 : (B - p.at_).toNat = (p.behind + b + o - p.at_).toNat + (B - (p.behind + b + o)).toNat := by omega
  have u := up_le (onL p b) (p.behind + b + o - p.at_).toNat p.at_
  by_cases hs : up (onL p b) (p.behind + b + o - p.at_).toNat p.at_ < p.behind + b + o
  · have e : up (onL p b) (B - p.at_).toNat p.at_ = up (onL p b) (p.behind + b + o - p.at_).toNat p.at_ := by rw [n1]; exact up_more _ _ _ _ (by omega)
    unfold tell
    simp only
    rw [e, if_neg (show ¬ up (onL p b) (p.behind + b + o - p.at_).toNat p.at_ = B by omega), if_neg (show ¬ up (onL p b) (p.behind + b + o - p.at_).toNat p.at_ = p.behind + b + o by omega)]
  · have e1 : up (onL p b) (p.behind + b + o - p.at_).toNat p.at_ = p.behind + b + o := by omega
    -- one round: it goes on for ever
    have ha := up_all (onL p b) (p.behind + b + o - p.at_).toNat p.at_
    rw [e1] at ha
    have pR : PerR (sgn p) p.behind b := PerR.of_window ho.1 hb1 fun i h1 h2 => by
      have := ha (i + b) (by omega) (by omega)
      unfold onL at this
      have := of_decide_eq_true this
      rw [show i + b - b = i by omega] at this
      exact this.symm
    have all : ∀ i, p.at_ ≤ i → onL p b i = true := fun i hi => by
      by_cases h : i < p.behind + b + o
      · exact ha i hi h
      · unfold onL
        have := pR.2 (i - b) (by omega)
        rw [show i - b + b = i by omega] at this
        rw [this]
        simp
    have e2 : up (onL p b) (B - p.at_).toNat p.at_ = B := by
      rw [up_full _ _ _ fun i h1 _ => all i h1]
      omega
    unfold tell
    simp only
    rw [e1, e2, if_pos rfl, if_pos rfl]
theorem lawPlain_eq {p : Parts} (hl : p.left ≠ []) (hr : p.right ≠ []) : lawPlain p = plain p := by
  obtain ⟨a1, _, a2, a3⟩ := short_least hl
  obtain ⟨b1, _, b2, b3⟩ := short_least hr
  have L := leastL_cyc hl a1
  have R := leastR_cyc hr b1
  unfold lawPlain
  have f1 : 2 * (p.left.length : Int) ≤ far p := by unfold far; split <;> omega
  have f2 : 2 * (p.right.length : Int) ≤ far p := by unfold far; split <;> omega
  rw [leastStep_L (sgn_L hl) L f1, leastStep_R (sgn_R hr) R f2]
  exact tell_more L R (by omega)
end RW
set_option maxRecDepth 100000
namespace RW
theorem getD_mem {l : List Nat} {i : Nat} (h : i < l.length) : l.getD i 0 ∈ l := by
  rw [List.getD_eq_getElem?_getD, List.getElem?_eq_getElem h]
  exact List.getElem_mem _
theorem sgn_mem {p : Parts} (hl : p.left ≠ []) (hr : p.right ≠ []) (i : Int) : sgn p i ∈ p.left ++ p.part ++ p.right := by
  have l1 : 0 < p.left.length := List.length_pos_iff.mpr hl
  have l2 : 0 < p.right.length := List.length_pos_iff.mpr hr
  unfold sgn
  by_cases h1 : i < p.at_
  · rw [if_pos h1]
    have m1 := Int.emod_nonneg (i - p.at_) (by omega : (p.left.length : Int) ≠ 0)
    have m2 := Int.emod_lt_of_pos (i - p.at_) (by omega : (0 : Int) < p.left.length)
    exact List.mem_append_left _ (List.mem_append_left _ (getD_mem (by omega)))
  · rw [if_neg h1]
    by_cases h2 : i < p.at_ + (p.part.length : Int)
    · rw [if_pos h2]
      exact List.mem_append_left _ (List.mem_append_right _ (getD_mem (by omega)))
    · rw [if_neg h2]
      have m1 := Int.emod_nonneg (i - p.at_ - (p.part.length : Int)) (by omega : (p.right.length : Int) ≠ 0)
      have m2 := Int.emod_lt_of_pos (i - p.at_ - (p.part.length : Int)) (by omega : (0 : Int) < p.right.length)
      exact List.mem_append_right _ (getD_mem (by omega))
theorem str_mem {p : Parts} (hl : p.left ≠ []) (hr : p.right ≠ []) {lo hi : Int} {c : Nat} (h : c ∈ str p lo hi) : c ∈ p.left ++ p.part ++ p.right := by
  unfold str at h
  obtain ⟨i, _, rfl⟩ := List.mem_map.mp h
  exact sgn_mem hl hr i
theorem down_le (P : Int → Bool) : ∀ (n : Nat) (x : Int), x - n ≤ down P n x ∧ down P n x ≤ x
  | 0, x => by simp [down]
  | n + 1, x => by
    unfold down
    split
    · have := down_le P n (x - 1); omega
    · omega
/-- what stands in a plain telling -/
structure Told (p q : Parts) : Prop where
  left : q.left ≠ [] ∧ q.left.length ≤ p.left.length
  right : q.right ≠ [] ∧ (q.right.length ≤ p.right.length ∨ q.right.length ≤ p.left.length)
  part : q.part.length ≤ p.part.length
  lo : p.at_ ≤ q.at_ ∨ q.at_ = 0
  hi : q.at_ ≤ p.at_ + p.part.length + p.left.length + p.right.length ∨ q.at_ = 0
  mem : ∀ c, c ∈ q.left ∨ c ∈ q.part ∨ c ∈ q.right → c ∈ p.left ++ p.part ++ p.right
theorem plain_told {p : Parts} (hl : p.left ≠ []) (hr : p.right ≠ []) : Told p (plain p) := by
  obtain ⟨_, _, a2, a3⟩ := short_least hl
  obtain ⟨_, _, b2, b3⟩ := short_least hr
  unfold plain tell
  simp only
  generalize hb : (short p.left).length = b at *
  generalize ho : (short p.right).length = o at *
  have hbe : p.behind = p.at_ + (p.part.length : Int) := rfl
  have u := up_le (onL p b) (p.behind + b + o - p.at_).toNat p.at_
  generalize up (onL p b) (p.behind + b + o - p.at_).toNat p.at_ = x at *
  have ne : ∀ {lo hi : Int}, lo < hi → str p lo hi ≠ [] := fun {lo hi} h z => by
    have := str_len p lo hi
    rw [z] at this
    simp at this
    omega
  by_cases h : x = p.behind + b + o
  · rw [if_pos h]
    refine ⟨⟨ne (by omega), by rw [str_len]; omega⟩, ⟨ne (by omega), .inr (by rw [str_len]; omega)⟩, Nat.zero_le _, .inr rfl, .inr rfl, fun c hc => ?_⟩
    rcases hc with hc | hc | hc
    · exact str_mem hl hr hc
    · exact (List.not_mem_nil hc).elim
    · exact str_mem hl hr hc
  · rw [if_neg h]
    have d := down_le (onR p o) ((if p.behind > x then p.behind else x) - x).toNat (if p.behind > x then p.behind else x)
    generalize he0 : (if p.behind > x then p.behind else x) = e0 at *
    have he1 : x ≤ e0 ∧ e0 ≤ x + p.part.length := by rw [← he0]; split <;> omega
    generalize down (onR p o) (e0 - x).toNat e0 = e at *
    refine ⟨⟨ne (by omega), by rw [str_len]; omega⟩, ⟨ne (by omega), .inl (by rw [str_len]; omega)⟩, by rw [str_len]; omega, .inl u.1, .inl (show x ≤ _ by omega), fun c hc => ?_⟩
    rcases hc with hc | hc | hc <;> exact str_mem hl hr hc
end RW
set_option maxRecDepth 100000
namespace RW
/-! ### a plain telling tells the same row -/
/-- what the plain telling is made of: its place, its end, its rounds -/
structure Cut (f : Int → Nat) (b o x e : Int) : Prop where
  b1 : 1 ≤ b
  o1 : 1 ≤ o
  xe : x ≤ e
  l : ∀ j, j < x → f j = f (j - b)
  x0 : f x ≠ f (x - b)
  r : ∀ j, e ≤ j → f j = f (j + o)
  e0 : e = x ∨ f (e - 1) ≠ f (e - 1 + o)
theorem down_all (P : Int → Bool) : ∀ (n : Nat) (x i : Int), down P n x < i → i ≤ x → P i = true
  | 0, x, i, h1, h2 => by simp [down] at h1; omega
  | n + 1, x, i, h1, h2 => by
    unfold down at h1
    by_cases hp : P x = true
    · rw [if_pos hp] at h1
      by_cases e : i = x
      · rw [e]; exact hp
      · exact down_all P n (x - 1) i h1 (by omega)
    · rw [if_neg hp] at h1; omega
theorem down_stop (P : Int → Bool) : ∀ (n : Nat) (x : Int), down P n x > x - n → P (down P n x) = false
  | 0, x, h => by simp [down] at h
  | n + 1, x, h => by
    unfold down at h ⊢
    by_cases hp : P x = true
    · rw [if_pos hp] at h ⊢
      exact down_stop P n (x - 1) (by omega)
    · rw [if_neg hp]
      simpa using hp
/-- the least periods far to the left, far to the right -/
def LP (f : Int → Nat) (d : Int) : Prop := 1 ≤ d ∧ ∃ a, ∀ i, i < a → f i = f (i - d)
def RP (f : Int → Nat) (d : Int) : Prop := 1 ≤ d ∧ ∃ a, ∀ i, a ≤ i → f i = f (i + d)
def LeastLP (f : Int → Nat) (b : Int) : Prop := LP f b ∧ ∀ e, LP f e → b ≤ e
def LeastRP (f : Int → Nat) (b : Int) : Prop := RP f b ∧ ∀ e, RP f e → b ≤ e
theorem LP.perL {f : Int → Nat} {a n d : Int} (h : PerL f a n) (k : LP f d) : PerL f a d := by
  obtain ⟨h1, c, hc⟩ := k
  refine ⟨h1, fun i hi => ?_⟩
  have hn := h.1
  have e1 := h.mul (i - c + 1).toNat i hi
  have e2 := h.mul (i - c + 1).toNat (i - d) (by omega)
  have big : (i - c + 1) ≤ n * ((i - c + 1).toNat : Int) := by
    have : (1 : Int) * ((i - c + 1).toNat : Int) ≤ n * ((i - c + 1).toNat : Int) := Int.mul_le_mul_of_nonneg_right hn (by omega)
    omega
  rw [e1, e2, hc _ (by omega)]
  congr 1
  omega
theorem RP.perR {f : Int → Nat} {a n d : Int} (h : PerR f a n) (k : RP f d) : PerR f a d := by
  obtain ⟨h1, c, hc⟩ := k
  refine ⟨h1, fun i hi => ?_⟩
  have hn := h.1
  have e1 := h.mul (c - i).toNat i hi
  have e2 := h.mul (c - i).toNat (i + d) (by omega)
  have big : (c - i) ≤ n * ((c - i).toNat : Int) := by
    have : (1 : Int) * ((c - i).toNat : Int) ≤ n * ((c - i).toNat : Int) := Int.mul_le_mul_of_nonneg_right hn (by omega)
    omega
  rw [e1, e2, hc _ (by omega)]
  congr 1
  omega
theorem LeastL.lp {f : Int → Nat} {a b : Int} (h : LeastL f a b) : LeastLP f b := ⟨⟨h.1.1, a, h.1.2⟩, fun e he => h.2 e (he.perL h.1)⟩
theorem LeastR.rp {f : Int → Nat} {a b : Int} (h : LeastR f a b) : LeastRP f b := ⟨⟨h.1.1, a, h.1.2⟩, fun e he => h.2 e (he.perR h.1)⟩
theorem LeastLP.uniq {f : Int → Nat} {b c : Int} (h : LeastLP f b) (k : LeastLP f c) : b = c := Int.le_antisymm (h.2 c k.1) (k.2 b h.1)
theorem LeastRP.uniq {f : Int → Nat} {b c : Int} (h : LeastRP f b) (k : LeastRP f c) : b = c := Int.le_antisymm (h.2 c k.1) (k.2 b h.1)
/-- the signs of f -/
def sf (f : Int → Nat) (lo hi : Int) : List Nat := (ran lo hi).map f
/-- a plain telling, by its signs -/
def IsPlain (f : Int → Nat) (q : Parts) : Prop := ∃ b o, LeastLP f b ∧ LeastRP f o ∧
  (((∀ j, f j = f (j - b)) ∧ q = ⟨sf f 0 b, [], sf f 0 b, 0⟩) ∨ ∃ x e, Cut f b o x e ∧ q = ⟨sf f (x - b) x, sf f x e, sf f e (e + o), x⟩)
theorem IsPlain.uniq {f : Int → Nat} {q q' : Parts} (h : IsPlain f q) (h' : IsPlain f q') : q = q' := by
  obtain ⟨b, o, hb, ho, h⟩ := h
  obtain ⟨b', o', hb', ho', h'⟩ := h'
  obtain rfl := hb.uniq hb'
  obtain rfl := ho.uniq ho'
  rcases h with ⟨h1, rfl⟩ | ⟨x, e, hc, rfl⟩
  · rcases h' with ⟨_, rfl⟩ | ⟨x', e', hc', rfl⟩
    · rfl
    · exact (hc'.x0 (h1 _)).elim
  · rcases h' with ⟨h1, rfl⟩ | ⟨x', e', hc', rfl⟩
    · exact (hc.x0 (h1 _)).elim
    · have ex : x = x' := by
        rcases Int.lt_trichotomy x x' with q | q | q
        · exact (hc.x0 (hc'.l x q)).elim
        · exact q
        · exact (hc'.x0 (hc.l x' q)).elim
      subst ex
      have ee : e = e' := by
        have := hc.xe
        have := hc'.xe
        rcases Int.lt_trichotomy e e' with q | q | q
        · rcases hc'.e0 with z | z
          · omega
          · exact (z (hc.r _ (by omega))).elim
        · exact q
        · rcases hc.e0 with z | z
          · omega
          · exact (z (hc'.r _ (by omega))).elim
      subst ee
      rfl
theorem plain_is {p : Parts} (hl : p.left ≠ []) (hr : p.right ≠ []) : IsPlain (sgn p) (plain p) := by
  obtain ⟨a1, _, a2, a3⟩ := short_least hl
  obtain ⟨b1, _, b2, b3⟩ := short_least hr
  have L := leastL_cyc hl a1
  have R := leastR_cyc hr b1
  refine ⟨_, _, L.lp, R.rp, ?_⟩
  unfold plain tell
  simp only
  generalize hb : ((short p.left).length : Int) = b at *
  generalize ho : ((short p.right).length : Int) = o at *
  have hbe : p.behind = p.at_ + (p.part.length : Int) := rfl
  have u := up_le (onL p b) (p.behind + b + o - p.at_).toNat p.at_
  have ua := up_all (onL p b) (p.behind + b + o - p.at_).toNat p.at_
  have us := up_stop (onL p b) (p.behind + b + o - p.at_).toNat p.at_
  generalize up (onL p b) (p.behind + b + o - p.at_).toNat p.at_ = x at *
  by_cases h : x = p.behind + b + o
  · rw [if_pos h]
    refine .inl ⟨fun j => ?_, rfl⟩
    -- one round: it goes on for ever
    have pR : PerR (sgn p) p.behind b := PerR.of_window R.1 (by omega) fun i h1 h2 => by
      have := ua (i + b) (by omega) (by omega)
      unfold onL at this
      have := of_decide_eq_true this
      rw [show i + b - b = i by omega] at this
      exact this.symm
    by_cases h1 : j < p.at_
    · exact L.1.2 j h1
    · by_cases h2 : j < x
      · have := ua j (by omega) h2
        unfold onL at this
        exact of_decide_eq_true this
      · have := pR.2 (j - b) (by omega)
        rw [show j - b + b = j by omega] at this
        exact this.symm
  · rw [if_neg h]
    refine .inr ?_
    have hx0 := us (by omega)
    have d := down_le (onR p o) ((if p.behind > x then p.behind else x) - x).toNat (if p.behind > x then p.behind else x)
    have da := down_all (onR p o) ((if p.behind > x then p.behind else x) - x).toNat (if p.behind > x then p.behind else x)
    have ds := down_stop (onR p o) ((if p.behind > x then p.behind else x) - x).toNat (if p.behind > x then p.behind else x)
    generalize he0 : (if p.behind > x then p.behind else x) = e0 at *
    have he1 : x ≤ e0 ∧ p.behind ≤ e0 := by rw [← he0]; split <;> omega
    generalize down (onR p o) (e0 - x).toNat e0 = e at *
    refine ⟨x, e, ⟨by omega, by omega, by omega, fun j hj => ?_, ?_, fun j hj => ?_, ?_⟩, rfl⟩
    · by_cases h1 : j < p.at_
      · exact L.1.2 j h1
      · have := ua j (by omega) hj
        unfold onL at this
        exact of_decide_eq_true this
    · unfold onL at hx0
      exact of_decide_eq_false hx0
    · by_cases h1 : j < e0
      · have := da (j + 1) (by omega) (by omega)
        unfold onR at this
        have := of_decide_eq_true this
        rw [show j + 1 - 1 = j by omega] at this
        exact this
      · exact R.1.2 j (by omega)
    · by_cases h1 : e = x
      · exact .inl h1
      · have := ds (by omega)
        unfold onR at this
        exact .inr (of_decide_eq_false this)
/-- rows of the same signs are told alike -/
theorem plain_same {p q : Parts} (hl : p.left ≠ []) (hr : p.right ≠ []) (kl : q.left ≠ []) (kr : q.right ≠ []) (h : ∀ i, sgn p i = sgn q i) : plain p = plain q := by
  have e : sgn p = sgn q := funext h
  have h1 := plain_is hl hr
  have h2 := plain_is kl kr
  rw [e] at h1
  exact h1.uniq h2
theorem sf_len (f : Int → Nat) (lo hi : Int) : (sf f lo hi).length = (hi - lo).toNat := by unfold sf; rw [List.length_map, ran_len]
theorem sf_get {f : Int → Nat} {lo hi : Int} {k : Int} (h0 : 0 ≤ k) (h : k < hi - lo) : (sf f lo hi).getD k.toNat 0 = f (lo + k) := by
  unfold sf
  rw [List.getD_eq_getElem?_getD, List.getElem?_map, ran_get (by omega)]
  show f (lo + (k.toNat : Int)) = _
  rw [Int.toNat_of_nonneg h0]
theorem per_emod {f : Int → Nat} {b i c : Int} (hb : 1 ≤ b) (h : ∀ j, j < c → f j = f (j - b)) (hi : i < c) : f (c - b + (i - c) % b) = f i := by
  have P : PerL f c b := ⟨hb, h⟩
  have m1 := Int.emod_nonneg (i - c) (by omega : b ≠ 0)
  have m2 := Int.emod_lt_of_pos (i - c) (by omega : 0 < b)
  have hd := Int.mul_ediv_add_emod (i - c) b
  have hk : 0 ≤ -((i - c) / b) - 1 := by
    have : (i - c) / b < 0 := Int.ediv_neg_of_neg_of_pos (by omega) (by omega)
    omega
  obtain ⟨k, hk⟩ := Int.eq_ofNat_of_zero_le hk
  have := P.mul k (c - b + (i - c) % b) (by omega)
  rw [this]
  congr 1
  have e : (i - c) / b = -(k : Int) - 1 := by omega
  rw [e, Int.mul_sub, Int.mul_neg, Int.mul_one] at hd
  omega
theorem per_emodR {f : Int → Nat} {b i c : Int} (hb : 1 ≤ b) (h : ∀ j, c ≤ j → f j = f (j + b)) (hi : c ≤ i) : f (c + (i - c) % b) = f i := by
  have P : PerR f c b := ⟨hb, h⟩
  have m1 := Int.emod_nonneg (i - c) (by omega : b ≠ 0)
  have hd := Int.mul_ediv_add_emod (i - c) b
  obtain ⟨k, hk⟩ := Int.eq_ofNat_of_zero_le (Int.ediv_nonneg (by omega : 0 ≤ i - c) (by omega : 0 ≤ b))
  rw [hk] at hd
  have := P.mul k (c + (i - c) % b) (by omega)
  rw [this]
  congr 1
  omega
/-- the plain telling has the same signs -/
theorem sgn_plain {p : Parts} (hl : p.left ≠ []) (hr : p.right ≠ []) (i : Int) : sgn (plain p) i = sgn p i := by
  obtain ⟨b, o, hb, ho, h⟩ := plain_is hl hr
  have b1 := hb.1.1
  have o1 := ho.1.1
  generalize sgn p = f at *
  rcases h with ⟨h1, e⟩ | ⟨x, e, hc, eq⟩
  · rw [e]
    have m1 := Int.emod_nonneg i (by omega : b ≠ 0)
    have m2 := Int.emod_lt_of_pos i (by omega : 0 < b)
    have key : (sf f 0 b).getD (i % b).toNat 0 = f i := by
      rw [sf_get m1 (by omega), Int.zero_add]
      by_cases hi : i < 0
      · have := per_emod (f := f) (c := 0) b1 (fun j _ => h1 j) hi
        rw [Int.sub_zero] at this
        rw [h1 (i % b), ← this]
        congr 1
        omega
      · have := per_emodR (f := f) (c := 0) b1 (fun j _ => by have := h1 (j + b); rw [show j + b - b = j by omega] at this; exact this.symm) (by omega : 0 ≤ i)
        rw [Int.sub_zero, Int.zero_add] at this
        exact this
    have lb : ((sf f 0 b).length : Int) = b := by rw [sf_len]; omega
    unfold sgn
    simp only [List.length_nil]
    rw [lb]
    split
    · rw [Int.sub_zero]; exact key
    · rw [if_neg (by omega)]
      rw [show i - 0 - ((0 : Nat) : Int) = i by omega]
      exact key
  · rw [eq]
    have xe := hc.xe
    have l1 : ((sf f (x - b) x).length : Int) = b := by rw [sf_len]; omega
    have l2 : ((sf f x e).length : Int) = e - x := by rw [sf_len]; omega
    have l3 : ((sf f e (e + o)).length : Int) = o := by rw [sf_len]; omega
    unfold sgn
    simp only
    rw [l1, l2, l3]
    by_cases h1 : i < x
    · rw [if_pos h1]
      have m1 := Int.emod_nonneg (i - x) (by omega : b ≠ 0)
      have m2 := Int.emod_lt_of_pos (i - x) (by omega : 0 < b)
      rw [sf_get m1 (by omega)]
      exact per_emod b1 hc.l h1
    · rw [if_neg h1]
      by_cases h2 : i < x + (e - x)
      · rw [if_pos h2, sf_get (by omega) (by omega)]
        congr 1
        omega
      · rw [if_neg h2]
        have m1 := Int.emod_nonneg (i - x - (e - x)) (by omega : o ≠ 0)
        have m2 := Int.emod_lt_of_pos (i - x - (e - x)) (by omega : 0 < o)
        rw [sf_get m1 (by omega)]
        have := per_emodR (f := f) (c := e) o1 hc.r (by omega : e ≤ i)
        rw [show i - x - (e - x) = i - e by omega]
        exact this
end RW
set_option maxRecDepth 100000
namespace RW
/-! ### the same row told otherwise -/
theorem sgn_mid {p : Parts} {i : Int} (h1 : p.at_ ≤ i) (h2 : i < p.behind) : sgn p i = p.part.getD (i - p.at_).toNat 0 := by
  unfold Parts.behind at h2
  unfold sgn
  rw [if_neg (by omega), if_pos h2]
theorem cyc_again {w : List Nat} (h : w ≠ []) (i : Int) : cyc (again w 2) i = cyc w i := by
  have hl : 0 < w.length := List.length_pos_iff.mpr h
  unfold cyc
  have e : ((again w 2).length : Int) = 2 * (w.length : Int) := by rw [again_len, Int.natCast_mul]; rfl
  rw [e]
  have m1 := Int.emod_nonneg i (by omega : 2 * (w.length : Int) ≠ 0)
  have m2 := Int.emod_lt_of_pos i (by omega : 0 < 2 * (w.length : Int))
  rw [again_get w 2 _ (by omega)]
  congr 1
  have n1 := Int.emod_nonneg i (by omega : (w.length : Int) ≠ 0)
  have : (((i % (2 * (w.length : Int))).toNat % w.length : Nat) : Int) = i % (w.length : Int) := by
    rw [Int.natCast_emod, Int.toNat_of_nonneg m1]
    exact Int.emod_emod_of_dvd i ⟨2, by omega⟩
  omega
/-- the round turned by one -/
def turnL (w : List Nat) : List Nat := w.getD (w.length - 1) 0 :: w.take (w.length - 1)
def turnR (w : List Nat) : List Nat := w.drop 1 ++ [w.getD 0 0]
theorem turnL_len {w : List Nat} (h : w ≠ []) : (turnL w).length = w.length := by
  have hl : 0 < w.length := List.length_pos_iff.mpr h
  unfold turnL
  rw [List.length_cons, List.length_take]
  omega
theorem turnR_len {w : List Nat} (h : w ≠ []) : (turnR w).length = w.length := by
  have hl : 0 < w.length := List.length_pos_iff.mpr h
  unfold turnR
  rw [List.length_append, List.length_drop, List.length_singleton]
  omega
theorem cyc_turnL {w : List Nat} (h : w ≠ []) (i : Int) : cyc (turnL w) i = cyc w (i - 1) := by
  have hl : 0 < w.length := List.length_pos_iff.mpr h
  unfold cyc
  rw [turnL_len h]
  have m1 := Int.emod_nonneg i (by omega : (w.length : Int) ≠ 0)
  have m2 := Int.emod_lt_of_pos i (by omega : (0 : Int) < w.length)
  have hd := Int.mul_ediv_add_emod i w.length
  by_cases h0 : i % (w.length : Int) = 0
  · have e : (i - 1) % (w.length : Int) = (w.length : Int) - 1 := by
      have : i - 1 = ((w.length : Int) - 1) + (w.length : Int) * (i / (w.length : Int) - 1) := by rw [Int.mul_sub, Int.mul_one]; omega
      rw [this, Int.add_mul_emod_self_left, Int.emod_eq_of_lt (by omega) (by omega)]
    rw [h0, e]
    show (turnL w).getD 0 0 = _
    unfold turnL
    rw [List.getD_eq_getElem?_getD]
    show w.getD (w.length - 1) 0 = _
    congr 1
    omega
  · have e : (i - 1) % (w.length : Int) = i % (w.length : Int) - 1 := by
      have : i - 1 = (i % (w.length : Int) - 1) + (w.length : Int) * (i / (w.length : Int)) := by omega
      rw [this, Int.add_mul_emod_self_left, Int.emod_eq_of_lt (by omega) (by omega)]
    rw [e]
    generalize i % (w.length : Int) = r at *
    obtain ⟨k, hk⟩ : ∃ k : Nat, r.toNat = k + 1 := ⟨r.toNat - 1, by omega⟩
    have e2 : (r - 1).toNat = k := by omega
    rw [hk, e2]
    unfold turnL
    rw [List.getD_eq_getElem?_getD, List.getElem?_cons_succ, List.getElem?_take_of_lt (by omega), ← List.getD_eq_getElem?_getD]
theorem cyc_turnR {w : List Nat} (h : w ≠ []) (i : Int) : cyc (turnR w) i = cyc w (i + 1) := by
  have hl : 0 < w.length := List.length_pos_iff.mpr h
  unfold cyc
  rw [turnR_len h]
  have m1 := Int.emod_nonneg i (by omega : (w.length : Int) ≠ 0)
  have m2 := Int.emod_lt_of_pos i (by omega : (0 : Int) < w.length)
  have hd := Int.mul_ediv_add_emod i w.length
  by_cases h0 : i % (w.length : Int) = (w.length : Int) - 1
  · have e : (i + 1) % (w.length : Int) = 0 := by
      have : i + 1 = 0 + (w.length : Int) * (i / (w.length : Int) + 1) := by rw [Int.mul_add, Int.mul_one]; omega
      rw [this, Int.add_mul_emod_self_left]
      rfl
    rw [h0, e]
    unfold turnR
    rw [List.getD_eq_getElem?_getD, List.getElem?_append_right (by rw [List.length_drop]; omega), List.length_drop]
    have : ((w.length : Int) - 1).toNat - (w.length - 1) = 0 := by omega
    rw [this]
    rfl
  · have e : (i + 1) % (w.length : Int) = i % (w.length : Int) + 1 := by
      have : i + 1 = (i % (w.length : Int) + 1) + (w.length : Int) * (i / (w.length : Int)) := by omega
      rw [this, Int.add_mul_emod_self_left, Int.emod_eq_of_lt (by omega) (by omega)]
    rw [e]
    generalize i % (w.length : Int) = r at *
    unfold turnR
    rw [List.getD_eq_getElem?_getD, List.getElem?_append_left (by rw [List.length_drop]; omega), List.getElem?_drop, ← List.getD_eq_getElem?_getD]
    congr 1
    omega
/-- the four ways -/
inductive Alike : Parts → Parts → Prop where
  | same (p : Parts) : Alike p p
  | dblL (p : Parts) : Alike p ⟨again p.left 2, p.part, p.right, p.at_⟩
  | dblR (p : Parts) : Alike p ⟨p.left, p.part, again p.right 2, p.at_⟩
  | outL (p : Parts) : Alike p ⟨turnL p.left, p.left.getD (p.left.length - 1) 0 :: p.part, p.right, p.at_ - 1⟩
  | outR (p : Parts) : Alike p ⟨p.left, p.part ++ [p.right.getD 0 0], turnR p.right, p.at_⟩
theorem Alike.sgn {p q : Parts} (h : Alike p q) (hl : p.left ≠ []) (hr : p.right ≠ []) (i : Int) : RW.sgn q i = RW.sgn p i := by
  have l1 : 0 < p.left.length := List.length_pos_iff.mpr hl
  have l2 : 0 < p.right.length := List.length_pos_iff.mpr hr
  cases h with
  | same => rfl
  | dblL =>
    by_cases h1 : i < p.at_
    · rw [sgn_left (p := ⟨again p.left 2, p.part, p.right, p.at_⟩) h1, sgn_left h1]
      exact cyc_again hl _
    · by_cases h2 : i < p.behind
      · rw [sgn_mid (p := ⟨again p.left 2, p.part, p.right, p.at_⟩) (by show p.at_ ≤ i; omega) h2, sgn_mid (by omega) h2]
      · rw [sgn_right (p := ⟨again p.left 2, p.part, p.right, p.at_⟩) (by show p.behind ≤ i; omega), sgn_right (by omega)]
        rfl
  | dblR =>
    by_cases h1 : i < p.at_
    · rw [sgn_left (p := ⟨p.left, p.part, again p.right 2, p.at_⟩) h1, sgn_left h1]
    · by_cases h2 : i < p.behind
      · rw [sgn_mid (p := ⟨p.left, p.part, again p.right 2, p.at_⟩) (by show p.at_ ≤ i; omega) h2, sgn_mid (by omega) h2]
      · rw [sgn_right (p := ⟨p.left, p.part, again p.right 2, p.at_⟩) (by show p.behind ≤ i; omega), sgn_right (by omega)]
        exact cyc_again hr _
  | outL =>
    have hb : (Parts.mk (turnL p.left) (p.left.getD (p.left.length - 1) 0 :: p.part) p.right (p.at_ - 1)).behind = p.behind := by
      unfold Parts.behind
      simp only [List.length_cons]
      omega
    by_cases h1 : i < p.at_ - 1
    · rw [sgn_left (p := ⟨turnL p.left, p.left.getD (p.left.length - 1) 0 :: p.part, p.right, p.at_ - 1⟩) h1, sgn_left (by omega)]
      show cyc (turnL p.left) (i - (p.at_ - 1)) = _
      rw [cyc_turnL hl]
      congr 1
      omega
    · by_cases h0 : i = p.at_ - 1
      · rw [sgn_mid (p := ⟨turnL p.left, p.left.getD (p.left.length - 1) 0 :: p.part, p.right, p.at_ - 1⟩) (by show p.at_ - 1 ≤ i; omega) (by rw [hb]; unfold Parts.behind; omega), sgn_left (by omega)]
        show (p.left.getD (p.left.length - 1) 0 :: p.part).getD (i - (p.at_ - 1)).toNat 0 = _
        rw [show (i - (p.at_ - 1)).toNat = 0 by omega, show i - p.at_ = ((p.left.length - 1 : Nat) : Int) + (p.left.length : Int) * (-1) by omega, cyc_add, cyc_nat (by omega)]
        rfl
      · by_cases h2 : i < p.behind
        · rw [sgn_mid (p := ⟨turnL p.left, p.left.getD (p.left.length - 1) 0 :: p.part, p.right, p.at_ - 1⟩) (by show p.at_ - 1 ≤ i; omega) (by rw [hb]; exact h2), sgn_mid (by omega) h2]
          show (p.left.getD (p.left.length - 1) 0 :: p.part).getD (i - (p.at_ - 1)).toNat 0 = _
          rw [show (i - (p.at_ - 1)).toNat = (i - p.at_).toNat + 1 by omega]
          rfl
        · rw [sgn_right (p := ⟨turnL p.left, p.left.getD (p.left.length - 1) 0 :: p.part, p.right, p.at_ - 1⟩) (by rw [hb]; omega), sgn_right (by omega), hb]
  | outR =>
    have hb : (Parts.mk p.left (p.part ++ [p.right.getD 0 0]) (turnR p.right) p.at_).behind = p.behind + 1 := by
      unfold Parts.behind
      simp only [List.length_append, List.length_singleton]
      omega
    by_cases h1 : i < p.at_
    · rw [sgn_left (p := ⟨p.left, p.part ++ [p.right.getD 0 0], turnR p.right, p.at_⟩) h1, sgn_left h1]
    · by_cases h2 : i < p.behind
      · rw [sgn_mid (p := ⟨p.left, p.part ++ [p.right.getD 0 0], turnR p.right, p.at_⟩) (by show p.at_ ≤ i; omega) (by rw [hb]; omega), sgn_mid (by omega) h2]
        show (p.part ++ [p.right.getD 0 0]).getD (i - p.at_).toNat 0 = _
        unfold Parts.behind at h2
        rw [List.getD_eq_getElem?_getD, List.getElem?_append_left (by omega), ← List.getD_eq_getElem?_getD]
      · by_cases h3 : i = p.behind
        · rw [sgn_mid (p := ⟨p.left, p.part ++ [p.right.getD 0 0], turnR p.right, p.at_⟩) (by show p.at_ ≤ i; omega) (by rw [hb]; omega), sgn_right (by omega), h3]
          show (p.part ++ [p.right.getD 0 0]).getD (p.behind - p.at_).toNat 0 = cyc p.right (p.behind - p.behind)
          have e : (p.behind - p.at_).toNat = p.part.length := by unfold Parts.behind; omega
          rw [e, List.getD_eq_getElem?_getD, List.getElem?_append_right (Nat.le_refl _), Nat.sub_self, Int.sub_self]
          have := cyc_nat (w := p.right) (i := 0) l2
          exact this.symm
        · rw [sgn_right (p := ⟨p.left, p.part ++ [p.right.getD 0 0], turnR p.right, p.at_⟩) (by rw [hb]; omega), sgn_right (by omega), hb]
          show cyc (turnR p.right) _ = _
          rw [cyc_turnR hr]
          congr 1
          omega
/-- two rows with rounds of like lengths are the same, if they are on a long enough stretch -/
theorem same_by {p q : Parts} (hl : p.left ≠ []) (hr : p.right ≠ []) (el : q.left.length = p.left.length) (er : q.right.length = p.right.length) {lo hi a c : Int} (a1 : a ≤ p.at_) (a2 : a ≤ q.at_) (c1 : p.behind ≤ c) (c2 : q.behind ≤ c)
    (h1 : lo + p.left.length ≤ a) (h2 : c + p.right.length ≤ hi) (h : ∀ i, lo ≤ i → i < hi → sgn p i = sgn q i) (i : Int) : sgn p i = sgn q i := by
  have l1 : 0 < p.left.length := List.length_pos_iff.mpr hl
  have l2 : 0 < p.right.length := List.length_pos_iff.mpr hr
  have kl : q.left ≠ [] := fun e => by rw [e] at el; simp at el; omega
  have kr : q.right ≠ [] := fun e => by rw [e] at er; simp at er; omega
  have ac : a ≤ c := by unfold Parts.behind at c1; omega
  by_cases hi1 : i < a
  · have m1 := Int.emod_nonneg (i - a) (by omega : (p.left.length : Int) ≠ 0)
    have m2 := Int.emod_lt_of_pos (i - a) (by omega : (0 : Int) < p.left.length)
    have e1 := per_emod (f := sgn p) (b := p.left.length) (c := a) (by omega) (fun j hj => (sgn_L hl).2 j (by omega)) hi1
    have e2 := per_emod (f := sgn q) (b := p.left.length) (c := a) (by omega) (fun j hj => by have := (sgn_L kl).2 j (by omega); rw [el] at this; exact this) hi1
    rw [← e1, ← e2]
    exact h _ (by omega) (by omega)
  · by_cases hi2 : i < c
    · exact h i (by omega) (by omega)
    · have m1 := Int.emod_nonneg (i - c) (by omega : (p.right.length : Int) ≠ 0)
      have m2 := Int.emod_lt_of_pos (i - c) (by omega : (0 : Int) < p.right.length)
      have e1 := per_emodR (f := sgn p) (b := p.right.length) (c := c) (by omega) (fun j hj => (sgn_R hr).2 j (by omega)) (by omega : c ≤ i)
      have e2 := per_emodR (f := sgn q) (b := p.right.length) (c := c) (by omega) (fun j hj => by have := (sgn_R kr).2 j (by omega); rw [er] at this; exact this) (by omega : c ≤ i)
      rw [← e1, ← e2]
      exact h _ (by omega) (by omega)
end RW
set_option maxRecDepth 100000
/-! rows moved, rounds, the letters of a row -/
namespace RW
/-- the same telling, so many places further to the left -/
def shift (p : Parts) (by_ : Int) : Parts := ⟨p.left, p.part, p.right, p.at_ - by_⟩
theorem sgn_shift (p : Parts) (k i : Int) : sgn (shift p k) i = sgn p (i + k) := by
  unfold sgn shift
  simp only
  rw [show i - (p.at_ - k) = i + k - p.at_ by omega]
  by_cases h1 : i + k < p.at_
  · rw [if_pos h1, if_pos (by omega)]
  · rw [if_neg h1, if_neg (by omega)]
    by_cases h2 : i + k < p.at_ + (p.part.length : Int)
    · rw [if_pos h2, if_pos (by omega)]
    · rw [if_neg h2, if_neg (by omega)]
/-- a word again and again, a begin of it at 0 -/
def ring (w : List Nat) : Parts := ⟨w, [], w, 0⟩
theorem sgn_ring (w : List Nat) (i : Int) : sgn (ring w) i = cyc w i := by
  by_cases h : i < 0
  · rw [sgn_left (p := ring w) h]
    show cyc w (i - 0) = _
    rw [Int.sub_zero]
  · have hb : (ring w).behind = 0 := rfl
    rw [sgn_right (p := ring w) (by rw [hb]; omega), hb]
    show cyc w (i - 0) = _
    rw [Int.sub_zero]
theorem up_id {P : Int → Bool} {n : Nat} {x : Int} (h : ∀ i, P i = true) : up P n x = x + n := up_full P n x fun i _ _ => h i
/-- a round is told as one -/
theorem plain_ring {w : List Nat} (h : w ≠ []) : ∃ b : Int, plain (ring w) = ⟨str (ring w) 0 b, [], str (ring w) 0 b, 0⟩ := by
  obtain ⟨⟨l1, l2, _⟩, _, l3, l4⟩ := short_least h
  refine ⟨(short w).length, ?_⟩
  unfold plain tell
  simp only
  have hb : (ring w).behind = 0 := rfl
  have ho : ∀ i, onL (ring w) (short (ring w).left).length i = true := fun i => by
    unfold onL
    rw [sgn_ring, sgn_ring]
    have e := l2 (i - (short w).length)
    rw [Int.sub_add_cancel] at e
    exact decide_eq_true e.symm
  rw [up_id ho, hb]
  have ha : (ring w).at_ = 0 := rfl
  rw [ha]
  rw [if_pos (by
    show (0 : Int) + ((0 + ((short w).length : Int) + ((short w).length : Int) - 0).toNat : Nat) = 0 + ((short w).length : Int) + ((short w).length : Int)
    omega)]
  rfl
theorem cyc_againK {w : List Nat} (h : w ≠ []) {k : Nat} (hk : 1 ≤ k) (i : Int) : cyc (again w k) i = cyc w i := by
  have l : 0 < w.length := List.length_pos_iff.mpr h
  unfold cyc
  rw [again_len]
  have hn : 0 < k * w.length := Nat.mul_pos hk l
  have m1 := Int.emod_nonneg i (by omega : ((k * w.length : Nat) : Int) ≠ 0)
  have m2 := Int.emod_lt_of_pos i (by omega : (0 : Int) < ((k * w.length : Nat) : Int))
  rw [again_get w k _ (by omega)]
  congr 1
  have d : (w.length : Int) ∣ ((k * w.length : Nat) : Int) := ⟨k, by rw [Int.natCast_mul, Int.mul_comm]⟩
  have e := Int.emod_emod_of_dvd i d
  have m3 := Int.emod_nonneg i (by omega : (w.length : Int) ≠ 0)
  have : (((i % ((k * w.length : Nat) : Int)).toNat % w.length : Nat) : Int) = i % (w.length : Int) := by
    rw [Int.natCast_emod, Int.toNat_of_nonneg m1, e]
  omega
/-- each letter that is told stands somewhere -/
theorem told_stands {p : Parts} (hl : p.left ≠ []) (hr : p.right ≠ []) {c : Nat} (hc : c ∈ p.left ++ p.part ++ p.right) : ∃ i, sgn p i = c := by
  have l1 : 0 < p.left.length := List.length_pos_iff.mpr hl
  have l2 : 0 < p.right.length := List.length_pos_iff.mpr hr
  rcases List.mem_append.mp hc with hc | hc
  · rcases List.mem_append.mp hc with hc | hc
    · obtain ⟨n, hn, e⟩ := List.getElem_of_mem hc
      refine ⟨p.at_ - p.left.length + n, ?_⟩
      rw [sgn_left (by omega), show p.at_ - (p.left.length : Int) + n - p.at_ = (n : Int) + (p.left.length : Int) * (-1) by omega, cyc_add, cyc_nat hn, List.getD_eq_getElem?_getD, List.getElem?_eq_getElem hn]
      exact e
    · obtain ⟨n, hn, e⟩ := List.getElem_of_mem hc
      refine ⟨p.at_ + n, ?_⟩
      rw [sgn_mid (by omega) (by unfold Parts.behind; omega), show p.at_ + (n : Int) - p.at_ = n by omega, Int.toNat_natCast, List.getD_eq_getElem?_getD, List.getElem?_eq_getElem hn]
      exact e
  · obtain ⟨n, hn, e⟩ := List.getElem_of_mem hc
    refine ⟨p.behind + n, ?_⟩
    rw [sgn_right (by omega), show p.behind + (n : Int) - p.behind = n by omega, cyc_nat hn, List.getD_eq_getElem?_getD, List.getElem?_eq_getElem hn]
    exact e
/-- two tellings of one row have the same letters -/
theorem same_letters {p q : Parts} (hl : p.left ≠ []) (hr : p.right ≠ []) (kl : q.left ≠ []) (kr : q.right ≠ []) (h : ∀ i, sgn p i = sgn q i) (c : Nat) : c ∈ p.left ++ p.part ++ p.right ↔ c ∈ q.left ++ q.part ++ q.right := by
  constructor
  · intro hc
    obtain ⟨i, rfl⟩ := told_stands hl hr hc
    rw [h i]
    exact sgn_mem kl kr i
  · intro hc
    obtain ⟨i, rfl⟩ := told_stands kl kr hc
    rw [← h i]
    exact sgn_mem hl hr i
theorem str_ring {w : List Nat} (h : w ≠ []) {n : Nat} {k : Nat} (hk : n ≤ k * w.length) : str (ring w) 0 n = (again w k).take n := by
  have l : 0 < w.length := List.length_pos_iff.mpr h
  apply List.ext_getElem?
  intro i
  by_cases hi : i < n
  · rw [str_get (by omega), List.getElem?_take_of_lt hi, sgn_ring]
    have hi2 : i < k * w.length := by omega
    have e := again_get w k i hi2
    rw [List.getD_eq_getElem?_getD, List.getElem?_eq_getElem (by rw [again_len]; exact hi2)] at e
    rw [List.getElem?_eq_getElem (by rw [again_len]; exact hi2)]
    simp only [Option.getD_some] at e
    rw [e]
    unfold cyc
    congr 2
    rw [show (0 : Int) + (i : Nat) = (i : Int) by omega]
    have : ((i : Int) % (w.length : Int)) = ((i % w.length : Nat) : Int) := by rw [Int.natCast_emod]
    rw [this]
    rfl
  · rw [List.getElem?_eq_none (by rw [str_len]; omega), List.getElem?_eq_none (by rw [List.length_take]; omega)]
/-- a round moved by its own letters -/
theorem ring_turn {w : List Nat} (i : Int) : cyc w (i + w.length) = cyc w i := by
  have := cyc_add (w := w) i 1
  rw [Int.mul_one] at this
  exact this
/-- a row whose rounds are one, without a part -/
theorem sgn_one {p : Parts} (h1 : p.part = []) (h2 : p.left = p.right) (i : Int) : sgn p i = cyc p.left (i - p.at_) := by
  by_cases h : i < p.at_
  · exact sgn_left h
  · have hb : p.behind = p.at_ := by unfold Parts.behind; rw [h1]; simp
    rw [sgn_right (by rw [hb]; omega), hb, h2]
theorem cyc_str {f : Int → Nat} {n : Int} (hn : 0 < n) (hp : ∀ i, f (i + n) = f i) (a i : Int) : cyc ((ran a (a + n)).map f) i = f (a + i) := by
  have hl : (((ran a (a + n)).map f).length : Int) = n := by rw [List.length_map, ran_len]; omega
  have m1 := Int.emod_nonneg i (by omega : n ≠ 0)
  have m2 := Int.emod_lt_of_pos i hn
  unfold cyc
  rw [hl, List.getD_eq_getElem?_getD, List.getElem?_map, ran_get (by omega)]
  simp only [Option.map_some, Option.getD_some]
  have key : ∀ (k : Nat) (j : Int), f (j + n * k) = f j := by
    intro k
    induction k with
    | zero => intro j; simp
    | succ k ih => intro j; rw [show j + n * ((k + 1 : Nat) : Int) = (j + n * (k : Nat)) + n by rw [Int.natCast_succ, Int.mul_add, Int.mul_one, Int.add_assoc], hp, ih]
  have e := Int.mul_ediv_add_emod i n
  rw [Int.toNat_of_nonneg m1]
  by_cases hq : 0 ≤ i / n
  · obtain ⟨k, hk⟩ : ∃ k : Nat, i / n = k := ⟨(i / n).toNat, by omega⟩
    have := key k (a + i % n)
    rw [← this, ← hk]
    congr 1
    omega
  · obtain ⟨k, hk⟩ : ∃ k : Nat, -(i / n) = k := ⟨(-(i / n)).toNat, by omega⟩
    have := key k (a + i)
    rw [← this, ← hk, Int.mul_neg]
    congr 1
    omega
end RW
set_option maxRecDepth 100000
/-! where a moved row's part begins -/
namespace RW
theorem LP.move {f g : Int → Nat} {k d : Int} (h : ∀ i, g i = f (i + k)) : LP g d ↔ LP f d := by
  constructor
  · rintro ⟨h1, a, ha⟩
    refine ⟨h1, a + k, fun i hi => ?_⟩
    have e := ha (i - k) (by omega)
    rw [h, h] at e
    rw [show i - k + k = i by omega, show i - k - d + k = i - d by omega] at e
    exact e
  · rintro ⟨h1, a, ha⟩
    refine ⟨h1, a - k, fun i hi => ?_⟩
    rw [h, h, ha (i + k) (by omega)]
    congr 1
    omega
theorem LeastLP.move {f g : Int → Nat} {k d : Int} (h : ∀ i, g i = f (i + k)) (x : LeastLP f d) : LeastLP g d :=
  ⟨(LP.move h).mpr x.1, fun e he => x.2 e ((LP.move h).mp he)⟩
/-- the place of a row told plainly moves with it, unless it is one round -/
theorem plain_move {p q : Parts} (hl : p.left ≠ []) (hr : p.right ≠ []) (kl : q.left ≠ []) (kr : q.right ≠ []) {k : Int} (h : ∀ i, sgn q i = sgn p (i + k)) : (plain q).at_ = (plain p).at_ - k ∨ (plain q).at_ = 0 := by
  obtain ⟨b, o, hb, ho, c⟩ := plain_is hl hr
  obtain ⟨b', o', hb', ho', c'⟩ := plain_is kl kr
  have eb : b' = b := hb'.uniq (hb.move h)
  subst eb
  rcases c' with ⟨w', e'⟩ | ⟨x', e1', cut', e'⟩
  · right; rw [e']
  · left
    rcases c with ⟨w, e⟩ | ⟨x, e1, cut, e⟩
    · have z := cut'.x0
      rw [h, h] at z
      have := w (x' + k)
      rw [show x' - b' + k = x' + k - b' by omega] at z
      exact absurd this z
    · rw [e', e]
      show x' = x - k
      have a1 : ¬ x' < x - k := fun hx => by
        have z := cut'.x0
        rw [h, h] at z
        have := cut.l (x' + k) (by omega)
        rw [show x' - b' + k = x' + k - b' by omega] at z
        exact z this
      have a2 : ¬ x - k < x' := fun hx => by
        have z := cut.x0
        have := cut'.l (x - k) (by omega)
        rw [h, h, show x - k + k = x by omega, show x - k - b' + k = x - b' by omega] at this
        exact z this
      omega
end RW
set_option maxRecDepth 100000
set_option maxHeartbeats 4000000
namespace DL
open PySem L2 PySem.Spec PyProof.Rows
def top (i : Nat) : Stmt := PySem.Challenge.pw_windowlaw_k05_whole_rows_sign_by_sign.main.body.getD i (.Pass ⟨0, 0, 0, 0⟩)
abbrev s_is_place : Stmt := top 8
def n_is_place : List Str := ["thing"]
theorem sc_is_place : FnScope n_is_place ["thing"] (defScope s_is_place) := ⟨rfl, rfl, rfl, by decide +kernel, rfl, by decide +kernel, by decide +kernel⟩
abbrev s_are_letters : Stmt := top 9
def n_are_letters : List Str := ["thing", "least", "most", "sign"]
theorem sc_are_letters : FnScope n_are_letters ["thing", "least", "most"] (defScope s_are_letters) := ⟨rfl, rfl, rfl, by decide +kernel, rfl, by decide +kernel, by decide +kernel⟩
abbrev s_is_round : Stmt := top 10
def n_is_round : List Str := ["thing"]
theorem sc_is_round : FnScope n_is_round ["thing"] (defScope s_is_round) := ⟨rfl, rfl, rfl, by decide +kernel, rfl, by decide +kernel, by decide +kernel⟩
abbrev s_shortest_round : Stmt := top 11
def n_shortest_round : List Str := ["word", "size"]
theorem sc_shortest_round : FnScope n_shortest_round ["word"] (defScope s_shortest_round) := ⟨rfl, rfl, rfl, by decide +kernel, rfl, by decide +kernel, by decide +kernel⟩
abbrev s_sign_by : Stmt := top 12
def n_sign_by : List Str := ["parts", "place", "left", "part", "right", "at"]
theorem sc_sign_by : FnScope n_sign_by ["parts", "place"] (defScope s_sign_by) := ⟨rfl, rfl, rfl, by decide +kernel, rfl, by decide +kernel, by decide +kernel⟩
abbrev s_stretch_by : Stmt := top 13
def n_stretch_by : List Str := ["parts", "begin", "end", "place"]
theorem sc_stretch_by : FnScope n_stretch_by ["parts", "begin", "end"] (defScope s_stretch_by) := ⟨rfl, rfl, rfl, by decide +kernel, rfl, by decide +kernel, by decide +kernel⟩
abbrev s_plain_parts : Stmt := top 14
def n_plain_parts : List Str := ["parts", "left", "part", "right", "at", "back", "on", "behind_part", "begin", "whole", "end", "ahead", "later"]
theorem sc_plain_parts : FnScope n_plain_parts ["parts"] (defScope s_plain_parts) := ⟨rfl, rfl, rfl, by decide +kernel, rfl, by decide +kernel, by decide +kernel⟩
abbrev s_Row___init__ : Stmt := inClass (top 15) 0
def n_Row___init__ : List Str := ["self", "left", "part", "right", "at"]
theorem sc_Row___init__ : FnScope n_Row___init__ ["self", "left", "part", "right", "at"] (defScope s_Row___init__) := ⟨rfl, rfl, rfl, by decide +kernel, rfl, by decide +kernel, by decide +kernel⟩
abbrev s_Row_told : Stmt := inClass (top 15) 2
def n_Row_told : List Str := ["self"]
theorem sc_Row_told : FnScope n_Row_told ["self"] (defScope s_Row_told) := ⟨rfl, rfl, rfl, by decide +kernel, rfl, by decide +kernel, by decide +kernel⟩
abbrev s_Row___eq__ : Stmt := inClass (top 15) 1
def n_Row___eq__ : List Str := ["self", "other"]
theorem sc_Row___eq__ : FnScope n_Row___eq__ ["self", "other"] (defScope s_Row___eq__) := ⟨rfl, rfl, rfl, by decide +kernel, rfl, by decide +kernel, by decide +kernel⟩
abbrev s_Row_stretch : Stmt := inClass (top 15) 4
def n_Row_stretch : List Str := ["self", "begin", "end"]
theorem sc_Row_stretch : FnScope n_Row_stretch ["self", "begin", "end"] (defScope s_Row_stretch) := ⟨rfl, rfl, rfl, by decide +kernel, rfl, by decide +kernel, by decide +kernel⟩
abbrev s_Row_sign : Stmt := inClass (top 15) 3
def n_Row_sign : List Str := ["self", "place"]
theorem sc_Row_sign : FnScope n_Row_sign ["self", "place"] (defScope s_Row_sign) := ⟨rfl, rfl, rfl, by decide +kernel, rfl, by decide +kernel, by decide +kernel⟩
abbrev s_Row_moved : Stmt := inClass (top 15) 5
def n_Row_moved : List Str := ["self", "by", "left", "part", "right", "at"]
theorem sc_Row_moved : FnScope n_Row_moved ["self", "by"] (defScope s_Row_moved) := ⟨rfl, rfl, rfl, by decide +kernel, rfl, by decide +kernel, by decide +kernel⟩
abbrev s_Row_signs : Stmt := inClass (top 15) 6
def n_Row_signs : List Str := ["self"]
theorem sc_Row_signs : FnScope n_Row_signs ["self"] (defScope s_Row_signs) := ⟨rfl, rfl, rfl, by decide +kernel, rfl, by decide +kernel, by decide +kernel⟩
abbrev s_round_row : Stmt := top 16
def n_round_row : List Str := ["word"]
theorem sc_round_row : FnScope n_round_row ["word"] (defScope s_round_row) := ⟨rfl, rfl, rfl, by decide +kernel, rfl, by decide +kernel, by decide +kernel⟩
abbrev s__law_begun : Stmt := top 18
def n__law_begun : List Str := ["_law_script", "_law_cell"]
theorem sc__law_begun : FnScope n__law_begun ["_law_script"] (defScope s__law_begun) := ⟨rfl, rfl, rfl, by decide +kernel, rfl, by decide +kernel, by decide +kernel⟩
abbrev s__law_draw : Stmt := top 19
def n__law_draw : List Str := ["_law_state", "_law_size_of", "_law_cells", "_law_spot_at", "_law_cell"]
theorem sc__law_draw : FnScope n__law_draw ["_law_state", "_law_size_of"] (defScope s__law_draw) := ⟨rfl, rfl, rfl, by decide +kernel, rfl, by decide +kernel, by decide +kernel⟩
abbrev s__law_letters : Stmt := top 20
def n__law_letters : List Str := ["_law_state", "_law_few", "_law_size", "_law_k"]
theorem sc__law_letters : FnScope n__law_letters ["_law_state", "_law_few", "_law_size"] (defScope s__law_letters) := ⟨rfl, rfl, rfl, by decide +kernel, rfl, by decide +kernel, by decide +kernel⟩
abbrev s__law_round : Stmt := top 21
def n__law_round : List Str := ["_law_state", "_law_few", "_law_size", "_law_text"]
theorem sc__law_round : FnScope n__law_round ["_law_state", "_law_few"] (defScope s__law_round) := ⟨rfl, rfl, rfl, by decide +kernel, rfl, by decide +kernel, by decide +kernel⟩
abbrev s__law_far : Stmt := top 23
def n__law_far : List Str := ["_law_pieces"]
theorem sc__law_far : FnScope n__law_far ["_law_pieces"] (defScope s__law_far) := ⟨rfl, rfl, rfl, by decide +kernel, rfl, by decide +kernel, by decide +kernel⟩
abbrev s__law_sign : Stmt := top 24
def n__law_sign : List Str := ["_law_pieces", "_law_spot", "_law_ahead", "_law_middle", "_law_later", "_law_start"]
theorem sc__law_sign : FnScope n__law_sign ["_law_pieces", "_law_spot"] (defScope s__law_sign) := ⟨rfl, rfl, rfl, by decide +kernel, rfl, by decide +kernel, by decide +kernel⟩
abbrev s__law_stretch : Stmt := top 25
def n__law_stretch : List Str := ["_law_pieces", "_law_first", "_law_close_by", "_law_spot"]
theorem sc__law_stretch : FnScope n__law_stretch ["_law_pieces", "_law_first", "_law_close_by"] (defScope s__law_stretch) := ⟨rfl, rfl, rfl, by decide +kernel, rfl, by decide +kernel, by decide +kernel⟩
/-! ### the package's rows -/
abbrev TX : List Nat → D := D.txt
def Parts.d (p : RW.Parts) : D := .tup [.txt p.left, .txt p.part, .txt p.right, .int p.at_]
def Parts.ok (p : RW.Parts) : Prop := p.left ≠ [] ∧ p.right ≠ [] ∧ p.left.length ≤ 1000 ∧ p.part.length ≤ 10000 ∧ p.right.length ≤ 1000 ∧ -1000000000 ≤ p.at_ ∧ p.at_ ≤ 1000000000
def small : List Nat := [97, 98, 99, 100, 101, 102, 103, 104, 105, 106, 107, 108, 109, 110, 111, 112, 113, 114, 115, 116, 117, 118, 119, 120, 121, 122]
def isPlace (i : Int) : Bool := decide (-100000000 ≤ i) && decide (i ≤ 100000000)
def areLetters (l : List Nat) (lo hi : Int) : Bool := (decide (lo ≤ (l.length : Int)) && decide ((l.length : Int) ≤ hi)) && l.all fun c => decide (c ∈ small)
def isRound (l : List Nat) : Bool := areLetters l 1 200
structure GRow (mg : Str → Option Value) : Prop where
  SMALL : GT mg "SMALL" small
  MOST_ROUND : GI mg "MOST_ROUND" 200
  MOST_PART : GI mg "MOST_PART" 400
  FARTHEST : GI mg "FARTHEST" 100000000
theorem rep_again (w : List Nat) (k : Int) : repT w k = RW.again w k.toNat := rfl
section
variable {C : SC}
theorem F_is_place (B : Blts C.mg) (G : GRow C.mg) (D1 : Dn C "is_place" s_is_place ["thing"]) : FnD C 1 "is_place" ["thing"] (cP1 D.int (fun _ => True) fun i => .bl (isPlace i)) := by
  have nd : n_is_place.Nodup := sc_is_place.nd
  refine D1.p1 sc_is_place fun i _ => ?_
  exact w1_retP (PV.eq (p_and (p_isi B rfl (p_vr 0 rfl rfl) rfl B.int bt_int (.int _) (kit1 k_ii)) fun hb => p_and (p_not (p_isi B rfl (p_vr 0 rfl rfl) rfl B.bool bt_bool (.int _) (kit1 k_ib))) fun hb => p_one (p_chain (p_negI (p_gI rfl G.FARTHEST)) (p_vr 0 rfl rfl) o_le (p_gI rfl G.FARTHEST) o_le)) (by
    show XV.d (.bl (true && (!false && _))) = _
    simp [isPlace]))
theorem F_are_letters (B : Blts C.mg) (G : GRow C.mg) (D1 : Dn C "are_letters" s_are_letters ["thing", "least", "most"]) : FnD C 1 "are_letters" ["thing", "least", "most"] (cP3 TX D.int D.int (fun l _ _ => l.length ≤ 16777216) fun l a b => .bl (areLetters l a b)) := by
  have nd : n_are_letters.Nodup := sc_are_letters.nd
  refine D1.p3 sc_are_letters fun l a b hl => ?_
  refine w1_retP (PV.eq (p_and (p_isi B rfl (p_vr 0 rfl rfl) rfl B.str bt_str (.txt l) (kit1 k_ss)) fun hb => p_and (p_chain (p_vr 1 rfl rfl) (p_lenT B.len rfl (p_vr 0 rfl rfl) (sz_of hl)) o_le (p_vr 2 rfl rfl) o_le) fun hb => p_one (p_all (bs := l.map fun c => decide (c ∈ small)) B rfl (PV.eq (p_lcT (n := 3) (.nm (.of nd)) nd (show BlkOk n_are_letters (defScope s_are_letters) _ [("sign", 3)] from ⟨rfl, by decide +kernel, by decide +kernel, by decide +kernel, by decide +kernel⟩) (by decide) (p_vr 0 rfl rfl) (fun c hc => p_cmp (p_vr 3 rfl rfl) (p_gT rfl G.SMALL) o_in) (sz_of hl)) ?_))) ?_)
  · rw [List.map_map]; rfl
  · show XV.d (.bl (true && _)) = _
    rw [List.all_map]
    rfl
theorem F_is_round (B : Blts C.mg) (G : GRow C.mg) (F_are_letters : FnD C 1 "are_letters" ["thing", "least", "most"] (cP3 TX D.int D.int (fun l _ _ => l.length ≤ 16777216) fun l a b => .bl (areLetters l a b))) (D1 : Dn C "is_round" s_is_round ["thing"]) : FnD C 2 "is_round" ["thing"] (cP1 TX (fun l => l.length ≤ 16777216) fun l => .bl (isRound l)) := by
  have nd : n_is_round.Nodup := sc_is_round.nd
  refine D1.p1 sc_is_round fun l hl => ?_
  exact w1_retP (PV.eq (p_call3 (a := l) (b := 1) (c := 200) F_are_letters.to (Nat.le_refl 1) rfl (p_vr 0 rfl rfl) (p_int) (p_gI rfl G.MOST_ROUND) hl) rfl)
theorem F_shortest_round (B : Blts C.mg) (D1 : Dn C "shortest_round" s_shortest_round ["word"]) : FnD C 1 "shortest_round" ["word"] (cP1 TX (fun l => l.length ≤ 1000) fun l => .txt (RW.short l)) := by
  have nd : n_shortest_round.Nodup := sc_shortest_round.nd
  refine D1.p1 sc_shortest_round fun l hl => ?_
  have hl' : l.length ≤ 1000 := hl
  have hz : l.length ≤ sizeLine := sz_of (by omega)
  refine ws_cons (w1_forP (t := .nm 1) (I := fun i ρ' => (∃ o, ρ' = [some (.d (.txt l)), o]) ∧ ∀ j : Nat, j < i → RW.roundBy l (1 + (j : Int)) = false) (.nm (.of nd)) (wi_range2 rfl B.range (PV.go p_int (PV.go (p_lenT B.len rfl (p_vr 0 rfl rfl) hz) ⟨1, _, rfl, rfl, ⟨by decide, by decide, by omega, by omega⟩, rfl, trivial, ⟨⟨none, rfl⟩, fun j hj => absurd hj (by omega)⟩, ?_, ?_⟩))))
  · rintro i x ρ' hx ⟨⟨o, rfl⟩, hno⟩
    obtain ⟨hi, rfl⟩ := rng_get hx
    refine ⟨_, rfl, ?_⟩
    have hi2 : 1 + (i : Int) < l.length := by omega
    refine ws_cons (PB.ite (k := RW.roundBy l (1 + (i : Int))) (PB.eq (b_bool (w_and (b_cmp (p_modI (p_lenT B.len rfl (p_vr 0 rfl rfl) hz) (p_vr 1 rfl rfl) (by omega)) (p_int) o_eqI) fun hb => w_and1 (b_cmp (p_mulT (p_slT (p_vr 0 rfl rfl) o_none (o_some (p_vr 1 rfl rfl)) hz) (p_fdivI (p_lenT B.len rfl (p_vr 0 rfl rfl) hz) (p_vr 1 rfl rfl) ⟨by omega, by omega⟩) ?_ ?_) (p_vr 0 rfl rfl) o_eqT))) ?_) (fun hc => ?_) (fun hc => ?_))
    · have h0 : 0 ≤ (l.length : Int) / (1 + (i : Int)) := Int.ediv_nonneg (by omega) (by omega)
      have h1 : (l.length : Int) / (1 + (i : Int)) ≤ l.length := Int.ediv_le_self _ (by omega)
      constructor <;> omega
    · have h0 : 0 ≤ (l.length : Int) / (1 + (i : Int)) := Int.ediv_nonneg (by omega) (by omega)
      have h1 : (l.length : Int) / (1 + (i : Int)) ≤ l.length := Int.ediv_le_self _ (by omega)
      have h2 : (cut l none (some (1 + (i : Int)))).length ≤ 1000 := by rw [cut_to (by omega), List.length_take]; omega
      have h3 : ((l.length : Int) / (1 + (i : Int))).toNat ≤ 1000 := by omega
      exact sz_of (Nat.le_trans (Nat.mul_le_mul h2 h3) (by decide))
    · unfold RW.roundBy
      rw [cut_to (by omega), rep_again]
    · refine w1_retQ (p_slT (p_vr 0 rfl rfl) o_none (o_some (p_vr 1 rfl rfl)) hz) ?_
      show XV.d (.txt (cut l none (some (1 + (i : Int))))) = .d (.txt (RW.short l))
      rw [cut_to (by omega), RW.short_at hi2 hno hc]
    · refine ws_nil (ws_nil ⟨rfl, ⟨⟨_, rfl⟩, fun j hj => ?_⟩⟩)
      by_cases e : j = i
      · rw [e]; exact hc
      · exact hno j (by omega)
  · rintro ρ' ⟨⟨o, rfl⟩, hno⟩
    rw [rng_len] at hno
    refine w1_retQ (p_vr 0 rfl rfl) ?_
    show XV.d (.txt l) = .d (.txt (RW.short l))
    rw [RW.short_no hno]
theorem F_sign_by (B : Blts C.mg) (D1 : Dn C "sign_by" s_sign_by ["parts", "place"]) : FnD C 1 "sign_by" ["parts", "place"] (cP2 Parts.d D.int (fun p _ => Parts.ok p) fun p i => .txt [RW.sgn p i]) := by
  have nd : n_sign_by.Nodup := sc_sign_by.nd
  refine D1.p2 sc_sign_by fun p i hp => ?_
  obtain ⟨h1, h2, h3, h4, h5, h6, h7⟩ := id hp
  have l1 : 0 < p.left.length := List.length_pos_iff.mpr h1
  have l2 : 0 < p.right.length := List.length_pos_iff.mpr h2
  refine ws_cons (w1_asg (t := .tp [2, 3, 4, 5]) (.tp (.cons (.of nd) (.cons (.of nd) (.cons (.of nd) (.cons (.of nd) .nil))))) (PV.go (p_vr 0 rfl rfl) ⟨_, ⟨_, rfl, rfl, rfl⟩, ?_⟩))
  refine ws_cons (PB.ite (b_cmp (p_vr 1 rfl rfl) (p_vr 5 rfl rfl) o_lt) (fun hc => ?_) (fun hc => ?_))
  · have hc := of_decide_eq_true hc
    have m1 := Int.emod_nonneg (i - p.at_) (by omega : (p.left.length : Int) ≠ 0)
    have m2 := Int.emod_lt_of_pos (i - p.at_) (by omega : (0 : Int) < p.left.length)
    refine w1_retQ (p_ixT (p_vr 2 rfl rfl) (p_modI (p_subI (p_vr 1 rfl rfl) (p_vr 5 rfl rfl)) (p_lenT B.len rfl (p_vr 2 rfl rfl) (sz_of (by omega))) (by omega)) (sz_of (by omega)) (atI_in m1 m2 0)) ?_
    show XV.d (.txt [_]) = .d (.txt [RW.sgn p i])
    unfold RW.sgn
    rw [if_pos hc]
  · have hc := of_decide_eq_false hc
    refine ws_nil ?_
    refine ws_cons (PB.ite (b_cmp (p_vr 1 rfl rfl) (p_addI (p_vr 5 rfl rfl) (p_lenT B.len rfl (p_vr 3 rfl rfl) (sz_of (by omega)))) o_lt) (fun hc2 => ?_) (fun hc2 => ?_))
    · have hc2 := of_decide_eq_true hc2
      refine w1_retQ (p_ixT (p_vr 3 rfl rfl) (p_subI (p_vr 1 rfl rfl) (p_vr 5 rfl rfl)) (sz_of (by omega)) (atI_in (by omega) (by omega) 0)) ?_
      show XV.d (.txt [_]) = .d (.txt [RW.sgn p i])
      unfold RW.sgn
      rw [if_neg hc, if_pos hc2]
    · have hc2 := of_decide_eq_false hc2
      have m1 := Int.emod_nonneg (i - p.at_ - (p.part.length : Int)) (by omega : (p.right.length : Int) ≠ 0)
      have m2 := Int.emod_lt_of_pos (i - p.at_ - (p.part.length : Int)) (by omega : (0 : Int) < p.right.length)
      refine ws_nil ?_
      refine w1_retQ (p_ixT (p_vr 4 rfl rfl) (p_modI (p_subI (p_subI (p_vr 1 rfl rfl) (p_vr 5 rfl rfl)) (p_lenT B.len rfl (p_vr 3 rfl rfl) (sz_of (by omega)))) (p_lenT B.len rfl (p_vr 4 rfl rfl) (sz_of (by omega))) (by omega)) (sz_of (by omega)) (atI_in m1 m2 0)) ?_
      show XV.d (.txt [_]) = .d (.txt [RW.sgn p i])
      unfold RW.sgn
      rw [if_neg hc, if_neg hc2]
/-- what a stretch asks of its ends -/
def Ends2 (p : RW.Parts) (lo hi : Int) : Prop := Parts.ok p ∧ -1000000000000 ≤ lo ∧ lo ≤ 1000000000000 ∧ -1000000000000 ≤ hi ∧ hi ≤ 1000000000000 ∧ hi - lo ≤ 1000000
theorem upto_ran : upto = RW.ran := rfl
theorem join_ones (f : Int → Nat) (is : List Int) : TL.joinL [] (is.map fun i => [f i]) = is.map f := by
  rw [joinL_nil]
  induction is with
  | nil => rfl
  | cons i is ih => rw [List.map_cons, List.flatten_cons, ih]; rfl
theorem sum_ones (f : Int → Nat) (is : List Int) : ((is.map fun i => [f i]).map (·.length)).sum = is.length := by
  induction is with
  | nil => rfl
  | cons i is ih => rw [List.map_cons, List.map_cons, List.sum_cons, ih]; simp; omega
theorem F_stretch_by (B : Blts C.mg) (F_sign_by : FnD C 1 "sign_by" ["parts", "place"] (cP2 Parts.d D.int (fun p _ => Parts.ok p) fun p i => .txt [RW.sgn p i])) (D1 : Dn C "stretch_by" s_stretch_by ["parts", "begin", "end"]) : FnD C 2 "stretch_by" ["parts", "begin", "end"] (cP3 Parts.d D.int D.int Ends2 fun p lo hi => .txt (RW.str p lo hi)) := by
  have nd : n_stretch_by.Nodup := sc_stretch_by.nd
  refine D1.p3 sc_stretch_by fun p lo hi hp => ?_
  obtain ⟨h1, h2, h3, h4, h5, h6⟩ := hp
  refine w1_retP (PV.eq (p_join (ls := (upto lo hi).map fun i => [RW.sgn p i]) (p_txt (l := []) rfl) (PV.eq (p_lcR (n := 3) B.range rfl (.nm (.of nd)) nd (show BlkOk n_stretch_by (defScope s_stretch_by) _ [("place", 3)] from ⟨rfl, by decide +kernel, by decide +kernel, by decide +kernel, by decide +kernel⟩) (by decide) (p_vr 1 rfl rfl) (p_vr 2 rfl rfl) (fun i hi1 hi2 => p_call2 (a := p) (b := i) F_sign_by.tb (Nat.le_refl 1) rfl (p_vr 0 rfl rfl) (p_vr 3 rfl rfl) h1) ⟨⟨by omega, by omega, by omega, by omega⟩, sz_of (by omega)⟩) ?_) ?_) ?_)
  · rw [List.map_map]; rfl
  · rw [sum_ones, upto_len, List.length_nil, Nat.mul_zero]; omega
  · rw [join_ones, upto_ran]; rfl
/-- a row as it may be handed in, or told -/
def Parts.low (p : RW.Parts) : Prop := p.left ≠ [] ∧ p.right ≠ [] ∧ p.left.length ≤ 400 ∧ p.part.length ≤ 1000 ∧ p.right.length ≤ 400 ∧ -200000000 ≤ p.at_ ∧ p.at_ ≤ 200000000
theorem Parts.low.ok {p : RW.Parts} (h : Parts.low p) : Parts.ok p := by
  obtain ⟨h1, h2, h3, h4, h5, h6, h7⟩ := h
  exact ⟨h1, h2, by omega, by omega, by omega, by omega, by omega⟩
abbrev SSign : Con := cP2 Parts.d D.int (fun p _ => Parts.ok p) fun p i => .txt [RW.sgn p i]
abbrev SStr : Con := cP3 Parts.d D.int D.int Ends2 fun p lo hi => .txt (RW.str p lo hi)
theorem F_plain_parts (B : Blts C.mg) (F_shortest_round : FnD C 1 "shortest_round" ["word"] (cP1 TX (fun l => l.length ≤ 1000) fun l => .txt (RW.short l))) (F_sign_by : FnD C 1 "sign_by" ["parts", "place"] SSign) (F_stretch_by : FnD C 2 "stretch_by" ["parts", "begin", "end"] SStr) (D1 : Dn C "plain_parts" s_plain_parts ["parts"]) : FnD C 3 "plain_parts" ["parts"] (cP1 Parts.d Parts.low fun p => Parts.d (RW.plain p)) := by
  have nd : n_plain_parts.Nodup := sc_plain_parts.nd
  refine D1.p1 sc_plain_parts fun p hp => ?_
  have hok := hp.ok
  obtain ⟨h1, h2, h3, h4, h5, h6, h7⟩ := id hp
  obtain ⟨_, _, a2, a3⟩ := RW.short_least h1
  obtain ⟨_, _, b2, b3⟩ := RW.short_least h2
  generalize hb : (RW.short p.left).length = b at *
  generalize ho : (RW.short p.right).length = o at *
  -- left, part, right, at = parts
  refine ws_cons (w1_asg (t := .tp [1, 2, 3, 4]) (.tp (.cons (.of nd) (.cons (.of nd) (.cons (.of nd) (.cons (.of nd) .nil))))) (PV.go (p_vr 0 rfl rfl) ⟨_, ⟨_, rfl, rfl, rfl⟩, ?_⟩))
  -- back, on = (len(shortest_round(left)), len(shortest_round(right)))
  refine ws_cons (w1_pr (i := 5) (j := 6) (.of nd) (.of nd) (by decide) (PV.go (p_lenT B.len rfl (PV.eq (p_call1 (a := p.left) F_shortest_round.to (by show 1 ≤ 2; decide) rfl (p_vr 1 rfl rfl) (by show p.left.length ≤ 1000; omega)) rfl) (sz_of (by omega))) (PV.go (p_lenT B.len rfl (PV.eq (p_call1 (a := p.right) F_shortest_round.to (by show 1 ≤ 2; decide) rfl (p_vr 3 rfl rfl) (by show p.right.length ≤ 1000; omega)) rfl) (sz_of (by omega))) ?_)))
  rw [hb, ho]
  -- behind_part = at + len(part)
  refine ws_cons (w1_set (i := 7) (.of nd) (PV.go (p_addI (p_vr 4 rfl rfl) (p_lenT B.len rfl (p_vr 2 rfl rfl) (sz_of (by omega)))) ?_))
  -- begin = at
  refine ws_cons (w1_set (i := 8) (.of nd) (PV.go (p_vr 4 rfl rfl) ?_))
  -- while begin < behind_part + back + on and sign_by(parts, begin) == sign_by(parts, begin - back)
  have k1 : 1 ≤ (2 : Nat) := by decide
  refine ws_cons (w1_whileP (fun m ρ' => ∃ x : Int, ρ' = [some (.d (Parts.d p)), some (.d (.txt p.left)), some (.d (.txt p.part)), some (.d (.txt p.right)), some (.d (.int p.at_)), some (.d (.int b)), some (.d (.int o)), some (.d (.int (p.at_ + p.part.length))), some (.d (.int x)), none, none, none, none] ∧ p.at_ ≤ x ∧ (m : Int) = p.at_ + p.part.length + b + o - x ∧
      RW.up (RW.onL p b) m x = RW.up (RW.onL p b) (p.at_ + p.part.length + b + o - p.at_).toNat p.at_) (p.at_ + p.part.length + b + o - p.at_).toNat ⟨p.at_, rfl, by omega, by omega, rfl⟩ ?_)
  · rintro m ρ' ⟨x, rfl, hx1, hx2, hx3⟩
    refine ⟨decide (x < p.at_ + p.part.length + b + o) && RW.onL p b x, PB.eq (b_bool (w_and (b_cmp (p_vr 8 rfl rfl) (p_addI (p_addI (p_vr 7 rfl rfl) (p_vr 5 rfl rfl)) (p_vr 6 rfl rfl)) o_lt) fun hb => w_and1 (b_cmp (PV.eq (p_call2 (a := p) (b := x) F_sign_by.to k1 rfl (p_vr 0 rfl rfl) (p_vr 8 rfl rfl) hok) rfl) (PV.eq (p_call2 (a := p) (b := x - b) F_sign_by.to k1 rfl (p_vr 0 rfl rfl) (p_subI (p_vr 8 rfl rfl) (p_vr 5 rfl rfl)) hok) rfl) o_eqT))) ?_, fun hc => ?_, fun hc => ?_⟩
    · unfold RW.onL
      congr 1
      simp
    · rw [Bool.and_eq_true] at hc
      have hc1 := of_decide_eq_true hc.1
      obtain ⟨m', rfl⟩ : ∃ m', m = m' + 1 := ⟨m - 1, by omega⟩
      refine ws_cons (w1_addI (i := 8) (.of nd) rfl (PV.go (p_int) ⟨_, rfl, ?_⟩))
      refine ws_nil ⟨rfl, m', Nat.lt_succ_self _, x + 1, rfl, by omega, by omega, ?_⟩
      rw [← hx3]
      show _ = if RW.onL p b x then _ else _
      rw [if_pos hc.2]
    -- the loop has ended at x
    · have hx : x = RW.up (RW.onL p b) (p.at_ + p.part.length + b + o - p.at_).toNat p.at_ := by
        rw [← hx3]
        cases m with
        | zero => rfl
        | succ m =>
          have : RW.onL p b x = false := by
            rw [Bool.and_eq_false_iff] at hc
            rcases hc with hc | hc
            · have := of_decide_eq_false hc; omega
            · exact hc
          show _ = if RW.onL p b x then _ else _
          rw [if_neg (by rw [this]; decide)]
      have hxl : x ≤ p.at_ + p.part.length + b + o := by omega
      refine ws_cons (PB.ite (b_cmp (p_vr 8 rfl rfl) (p_addI (p_addI (p_vr 7 rfl rfl) (p_vr 5 rfl rfl)) (p_vr 6 rfl rfl)) o_eqI) (fun hc => ?_) (fun hc => ?_))
      · have hc := of_decide_eq_true hc
        -- whole = stretch_by(parts, 0, back)
        refine ws_cons (w1_set (i := 9) (.of nd) (PV.go (p_call3 (a := p) (b := (0 : Int)) (c := (b : Int)) F_stretch_by.to (Nat.le_refl 2) rfl (p_vr 0 rfl rfl) (p_int) (p_vr 5 rfl rfl) ⟨hok, by omega, by omega, by omega, by omega, by omega⟩) ?_))
        refine w1_retQ (p_tup (pa_cs (p_vr 9 rfl rfl) (pa_cs (p_txt (l := []) rfl) (pa_cs (p_vr 9 rfl rfl) (pa_cs (p_int) (pa_nl))))) rfl) ?_
        show XV.d _ = XV.d (Parts.d (RW.plain p))
        unfold RW.plain RW.tell RW.Parts.behind
        simp only
        rw [hb, ho, ← hx, if_pos hc]
        rfl
      · have hc := of_decide_eq_false hc
        refine ws_nil ?_
        -- end = max(begin, behind_part)
        refine ws_cons (w1_set (i := 10) (.of nd) (PV.go (p_max B rfl (p_vr 8 rfl rfl) (p_vr 7 rfl rfl)) ?_))
        generalize he0 : (if p.at_ + (p.part.length : Int) > x then p.at_ + (p.part.length : Int) else x) = e0
        have he1 : x ≤ e0 ∧ e0 ≤ x + p.part.length := by rw [← he0]; split <;> omega
        -- while end > begin and sign_by(parts, end - 1) == sign_by(parts, end - 1 + on)
        refine ws_cons (w1_whileP (fun m ρ' => ∃ y : Int, ρ' = [some (.d (Parts.d p)), some (.d (.txt p.left)), some (.d (.txt p.part)), some (.d (.txt p.right)), some (.d (.int p.at_)), some (.d (.int b)), some (.d (.int o)), some (.d (.int (p.at_ + p.part.length))), some (.d (.int x)), none, some (.d (.int y)), none, none] ∧ y ≤ e0 ∧ (m : Int) = y - x ∧
            RW.down (RW.onR p o) m y = RW.down (RW.onR p o) (e0 - x).toNat e0) (e0 - x).toNat ⟨e0, rfl, by omega, by omega, rfl⟩ ?_)
        rintro m ρ' ⟨y, rfl, hy1, hy2, hy3⟩
        refine ⟨decide (x < y) && RW.onR p o y, PB.eq (b_bool (w_and (b_cmp (p_vr 10 rfl rfl) (p_vr 8 rfl rfl) o_gt) fun hb => w_and1 (b_cmp (PV.eq (p_call2 (a := p) (b := y - 1) F_sign_by.to k1 rfl (p_vr 0 rfl rfl) (p_subI (p_vr 10 rfl rfl) (p_int)) hok) rfl) (PV.eq (p_call2 (a := p) (b := y - 1 + o) F_sign_by.to k1 rfl (p_vr 0 rfl rfl) (p_addI (p_subI (p_vr 10 rfl rfl) (p_int)) (p_vr 6 rfl rfl)) hok) rfl) o_eqT))) ?_, fun hd => ?_, fun hd => ?_⟩
        · unfold RW.onR
          congr 1
          simp
        · rw [Bool.and_eq_true] at hd
          have hd1 := of_decide_eq_true hd.1
          obtain ⟨m', rfl⟩ : ∃ m', m = m' + 1 := ⟨m - 1, by omega⟩
          refine ws_cons (w1_subI (i := 10) (.of nd) rfl (PV.go (p_int) ⟨_, rfl, ?_⟩))
          refine ws_nil ⟨rfl, m', Nat.lt_succ_self _, y - 1, rfl, by omega, by omega, ?_⟩
          rw [← hy3]
          show _ = if RW.onR p o y then _ else _
          rw [if_pos hd.2]
        · have hy : y = RW.down (RW.onR p o) (e0 - x).toNat e0 := by
            rw [← hy3]
            cases m with
            | zero => rfl
            | succ m =>
              have : RW.onR p o y = false := by
                rw [Bool.and_eq_false_iff] at hd
                rcases hd with hd | hd
                · have := of_decide_eq_false hd; omega
                · exact hd
              show _ = if RW.onR p o y then _ else _
              rw [if_neg (by rw [this]; decide)]
          -- ahead, later = (stretch_by(parts, begin - back, begin), stretch_by(parts, end, end + on))
          refine ws_cons (w1_pr (i := 11) (j := 12) (.of nd) (.of nd) (by decide) (PV.go (p_call3 (a := p) (b := x - b) (c := x) F_stretch_by.to (Nat.le_refl 2) rfl (p_vr 0 rfl rfl) (p_subI (p_vr 8 rfl rfl) (p_vr 5 rfl rfl)) (p_vr 8 rfl rfl) ⟨hok, by omega, by omega, by omega, by omega, by omega⟩) (PV.go (p_call3 (a := p) (b := y) (c := y + o) F_stretch_by.to (Nat.le_refl 2) rfl (p_vr 0 rfl rfl) (p_vr 10 rfl rfl) (p_addI (p_vr 10 rfl rfl) (p_vr 6 rfl rfl)) ⟨hok, by omega, by omega, by omega, by omega, by omega⟩) ?_)))
          refine w1_retQ (p_tup (pa_cs (p_vr 11 rfl rfl) (pa_cs (p_call3 (a := p) (b := x) (c := y) F_stretch_by.to (Nat.le_refl 2) rfl (p_vr 0 rfl rfl) (p_vr 8 rfl rfl) (p_vr 10 rfl rfl) ⟨hok, by omega, by omega, by omega, by omega, by omega⟩) (pa_cs (p_vr 12 rfl rfl) (pa_cs (p_vr 8 rfl rfl) (pa_nl))))) rfl) ?_
          show XV.d _ = XV.d (Parts.d (RW.plain p))
          unfold RW.plain RW.tell RW.Parts.behind
          simp only
          rw [hb, ho, ← hx, if_neg hc, he0, ← hy]
          rfl
/-! ### the class -/
def isRow (p : RW.Parts) : Bool := isRound p.left && areLetters p.part 0 400 && isRound p.right && isPlace p.at_
theorem isRound_of {l : List Nat} (h : isRound l = true) : l ≠ [] ∧ l.length ≤ 200 := by
  unfold isRound areLetters at h
  simp only [Bool.and_eq_true, decide_eq_true_eq] at h
  refine ⟨fun e => ?_, by omega⟩
  rw [e] at h
  simp at h
theorem isRow_low {p : RW.Parts} (h : isRow p = true) : Parts.low p := by
  unfold isRow at h
  simp only [Bool.and_eq_true] at h
  obtain ⟨⟨⟨h1, h2⟩, h3⟩, h4⟩ := h
  obtain ⟨a1, a2⟩ := isRound_of h1
  obtain ⟨b1, b2⟩ := isRound_of h3
  unfold areLetters at h2
  unfold isPlace at h4
  simp only [Bool.and_eq_true, decide_eq_true_eq] at h2 h4
  exact ⟨a1, b1, by omega, by omega, by omega, by omega, by omega⟩
/-- a row's instance -/
def rowD (Cl : Addr) (p : RW.Parts) : D := .ins Cl ["plain"] [Parts.d p]
/-- a new row -/
def cRow (Cl : Addr) : Con := ⟨RW.Parts, fun p => [.l 0, .d (.txt p.left), .d (.txt p.part), .d (.txt p.right), .d (.int p.at_)], fun _ => [some (.ins Cl [] [])], fun p => isRow p = true, fun p o => o = .ret (.d .non) [some (.ins Cl ["plain"] [.d (Parts.d (RW.plain p))])]⟩
theorem wf_cRow (Cl : Addr) : (cRow Cl).Wf := by
  refine ⟨fun a _ x hx => ?_, fun a _ m hm => ?_, fun a o _ ho => by cases ho; exact Nat.le_refl _⟩
  · have hx' : x ∈ [XV.l 0, .d (.txt a.left), .d (.txt a.part), .d (.txt a.right), .d (.int a.at_)] := hx
    simp only [List.mem_cons, List.not_mem_nil, or_false] at hx'
    rcases hx' with rfl | rfl | rfl | rfl | rfl
    · show 0 < 1; decide
    all_goals trivial
  · have hm' : some m ∈ [some (MO.ins Cl [] [])] := hm
    simp only [List.mem_cons, Option.some.injEq, List.not_mem_nil, or_false] at hm'
    subst hm'
    exact fun x hx => (List.not_mem_nil hx).elim
structure GCls (C : SC) (Cl : Addr) : Prop where
  cls : Cls C.K Cl
  no_plain : NoAttr C.K Cl "plain"
abbrev SPlain : Con := cP1 Parts.d Parts.low fun p => Parts.d (RW.plain p)
theorem B_Row_init {Cl : Addr} (B : Blts C.mg) (G : GRow C.mg) (GC : GCls C Cl) (F_is_place : FnD C 1 "is_place" ["thing"] (cP1 D.int (fun _ => True) fun i => .bl (isPlace i))) (F_are_letters : FnD C 1 "are_letters" ["thing", "least", "most"] (cP3 TX D.int D.int (fun l _ _ => l.length ≤ 16777216) fun l a b => .bl (areLetters l a b)))
    (F_is_round : FnD C 2 "is_round" ["thing"] (cP1 TX (fun l => l.length ≤ 16777216) fun l => .bl (isRound l))) (F_plain_parts : FnD C 3 "plain_parts" ["parts"] SPlain) : Body C (cRow Cl) n_Row___init__ s_Row___init__ 3 := fun p hp => by
  have nd : n_Row___init__.Nodup := sc_Row___init__.nd
  have hrow : isRow p = true := hp
  have hlow := isRow_low hrow
  obtain ⟨h1, h2, h3, h4, h5, h6, h7⟩ := id hlow
  refine ws_cons (PB.ite (PB.eq (b_bool (w_or (b_not (b_val (PV.eq (p_call1 (a := p.left) F_is_round.to (by show 2 ≤ 3; decide) rfl (p_vr 1 rfl rfl) (by show p.left.length ≤ 16777216; omega)) rfl))) fun hb => w_or (b_not (b_val (PV.eq (p_call3 (a := p.part) (b := (0 : Int)) (c := (400 : Int)) F_are_letters.to (by show 1 ≤ 3; decide) rfl (p_vr 2 rfl rfl) (p_int) (p_gI rfl G.MOST_PART) (by show p.part.length ≤ 16777216; omega)) rfl))) fun hb => w_or (b_not (b_val (PV.eq (p_call1 (a := p.right) F_is_round.to (by show 2 ≤ 3; decide) rfl (p_vr 3 rfl rfl) (by show p.right.length ≤ 16777216; omega)) rfl))) fun hb => w_or1 (b_not (b_val (PV.eq (p_call1 (a := p.at_) F_is_place.to (by show 1 ≤ 3; decide) rfl (p_vr 4 rfl rfl) trivial) rfl))))) (k' := !isRow p) ?_) (fun hc => ?_) (fun hc => ?_))
  · unfold isRow
    simp [Bool.not_and, Bool.or_assoc]
  · rw [hrow] at hc; cases hc
  · refine ws_nil ?_
    refine ws_cons (w1_newFld GC.cls GC.no_plain (PV.go (p_call1 (a := p) F_plain_parts.to (Nat.le_refl 3) rfl (PV.eq (p_tup (pa_cs (p_vr 1 rfl rfl) (pa_cs (p_vr 2 rfl rfl) (pa_cs (p_vr 3 rfl rfl) (pa_cs (p_vr 4 rfl rfl) pa_nl)))) rfl) rfl) hlow) (PV.go (p_vr 0 rfl rfl) ⟨0, [], [], rfl, rfl, (by simp), (by simp), ?_⟩)))
    refine ws_nil ⟨_, rfl, ⟨[], by simp [cRow]⟩, trivial, fun m hm => ?_⟩
    simp only [List.mem_cons, Option.some.injEq, List.not_mem_nil, or_false] at hm
    subst hm
    intro x hx
    simp only [List.mem_cons, List.not_mem_nil, or_false] at hx
    subst hx
    trivial
theorem F_Row {Cl : Addr} (I : In0 C "Row" Cl "Row.__init__" s_Row___init__ ["self", "left", "part", "right", "at"]) (b : Body C (cRow Cl) n_Row___init__ s_Row___init__ 3) : MkD C 4 "Row" Cl ["self", "left", "part", "right", "at"] (cRow Cl) := I.mkd sc_Row___init__ (wf_cRow Cl) (fun _ _ => rfl) b
theorem F_Row_told {Cl : Addr} (GC : GCls C Cl) (D1 : Mn C Cl "told" "Row.told" s_Row_told ["self"]) : MtD C 1 Cl "told" ["self"] (cP1 (fun p : RW.Parts => rowD Cl p) (fun _ => True) Parts.d) := by
  have nd : n_Row_told.Nodup := sc_Row_told.nd
  exact D1.p1 GC.cls sc_Row_told fun p _ => w1_retQ (p_fld GC.cls GC.no_plain (p_vr 0 rfl rfl) rfl) rfl
/-! ### rows held against one another -/
theorem eqv_parts (p q : RW.Parts) : PyData.eqv (Parts.d p).py (Parts.d q).py = decide (p = q) := by
  have e : PyData.eqv (Parts.d p).py (Parts.d q).py = ((SX.S p.left == SX.S q.left) && ((SX.S p.part == SX.S q.part) && ((SX.S p.right == SX.S q.right) && ((p.at_ == q.at_) && true)))) := by
    unfold Parts.d
    simp only [D.py, D.pys, PyData.eqv, PyData.eqvAll]
  rw [e, SX.S_beq_eq, SX.S_beq_eq, SX.S_beq_eq]
  have : p = q ↔ p.left = q.left ∧ p.part = q.part ∧ p.right = q.right ∧ p.at_ = q.at_ := by
    cases p; cases q; simp
  rw [show decide (p = q) = decide (p.left = q.left ∧ p.part = q.part ∧ p.right = q.right ∧ p.at_ = q.at_) from decide_eq_decide.mpr this]
  simp [Bool.beq_eq_decide_eq]
/-- what may be held against a row -/
inductive Oth where
  | row (q : RW.Parts) | tup (q : RW.Parts) | txt (l : List Nat)
def Oth.d (Cl : Addr) : Oth → D
  | .row q => rowD Cl q
  | .tup q => Parts.d q
  | .txt l => .txt l
def eqRow (p : RW.Parts) : Oth → Bool
  | .row q => decide (p = q)
  | _ => false
def plainOk (p : RW.Parts) : Prop := (Parts.d p).okEq
def Oth.ok : Oth → Prop
  | .row q => plainOk q
  | _ => True
abbrev SEq (Cl : Addr) : Con := cP2 (fun p : RW.Parts => rowD Cl p) (Oth.d Cl) (fun p o => plainOk p ∧ o.ok) fun p o => .bl (eqRow p o)
/-- an own class held by isinstance -/
structure GIsi (C : SC) (Cl : Addr) : Prop where
  mg : C.mg "Row" = some (.ref Cl)
  isi : IsiC C.K Cl
  own : PySem.W.kitOne C.K (.ref Cl) (.ref Cl) = some true
  tup : PySem.W.kitOne C.K (.type "tuple") (.ref Cl) = some false
  str : PySem.W.kitOne C.K (.type "str") (.ref Cl) = some false
theorem F_Row_eq {Cl : Addr} (B : Blts C.mg) (GC : GCls C Cl) (GI : GIsi C Cl) (h : Mn C Cl "__eq__" "Row.__eq__" s_Row___eq__ ["self", "other"]) (hne : PySem.W.findIn C.K (.ref Cl) "__ne__" = some (some (.builtin "object.__ne__"))) : EqD C 1 Cl (SEq Cl) := by
  have nd : n_Row___eq__.Nodup := sc_Row___eq__.nd
  have M : MtD C 1 Cl "__eq__" ["self", "other"] (SEq Cl) := by
    refine h.p2 GC.cls sc_Row___eq__ fun p o hp => ?_
    obtain ⟨h1, h2⟩ := hp
    match o, h2 with
    | .row q, h2 =>
      exact w1_retQ (PV.eq (p_and (p_isiC B rfl (p_vr 1 rfl rfl) rfl GI.mg (.ins _ _ GI.isi) GI.own) fun hb => p_one (p_cmp (p_fld GC.cls GC.no_plain (p_vr 0 rfl rfl) (d := Parts.d p) rfl) (p_fld GC.cls GC.no_plain (p_vr 1 rfl rfl) (d := Parts.d q) rfl) (o_eqD h1 h2))) rfl) (by
        show XV.d (.bl (true && PyData.eqv (Parts.d p).py (Parts.d q).py)) = .d (.bl (decide (p = q)))
        rw [eqv_parts, Bool.true_and])
    | .tup q, _ => exact w1_retW (we_and (PV.go (p_isiC B rfl (p_vr 1 rfl rfl) rfl GI.mg (.tup _) GI.tup) ⟨false, rfl, (fun z => (nomatch z)), fun _ => rfl⟩))
    | .txt l, _ => exact w1_retW (we_and (PV.go (p_isiC B rfl (p_vr 1 rfl rfl) rfl GI.mg (.txt _) GI.str) ⟨false, rfl, (fun z => (nomatch z)), fun _ => rfl⟩))
  obtain ⟨f, fd, F, hm, hb⟩ := M.ex
  exact ⟨⟨f, fd, _, F, hm.at_, hm.fn, hb⟩, hne, GI.isi.hm, M.wf⟩
theorem F_Row_stretch {Cl : Addr} (GC : GCls C Cl) (F_stretch_by : FnD C 2 "stretch_by" ["parts", "begin", "end"] SStr) (h : Mn C Cl "stretch" "Row.stretch" s_Row_stretch ["self", "begin", "end"]) : MtD C 3 Cl "stretch" ["self", "begin", "end"] (cP3 (fun p : RW.Parts => rowD Cl p) D.int D.int Ends2 fun p lo hi => .txt (RW.str p lo hi)) := by
  have nd : n_Row_stretch.Nodup := sc_Row_stretch.nd
  exact h.p3 GC.cls sc_Row_stretch fun p lo hi hp => w1_retQ (p_call3 (a := p) (b := lo) (c := hi) F_stretch_by.to (Nat.le_refl 2) rfl (p_fld GC.cls GC.no_plain (p_vr 0 rfl rfl) rfl) (p_vr 1 rfl rfl) (p_vr 2 rfl rfl) hp) rfl
/-! ### the law's store -/
theorem F_law_begun (B : Blts C.mg) (D1 : Dn C "_law_begun" s__law_begun ["_law_script"]) : FnD C 1 "_law_begun" ["_law_script"] cBegun := by
  have nd : n__law_begun.Nodup := sc__law_begun.nd
  refine D1.fnd sc__law_begun wf_cBegun (fun _ _ => rfl) fun (ns : List Int) hl => ?_
  have hl' : ns.length ≤ 63 := hl
  have hz : ns.length ≤ sizeLine := by rw [sizeLine_eq]; omega
  refine ws_cons (w1_ret (we_lstC (wa_cons (we_bin (PV.go (p_lcS (n := 1) (.nm (.of nd)) nd (show BlkOk n__law_begun (defScope s__law_begun) _ [("_law_cell", 1)] from ⟨rfl, by decide +kernel, by decide +kernel, by decide +kernel, by decide +kernel⟩) (by decide) (p_vr 0 rfl rfl) (fun c hc => p_abs B rfl (p_vr 1 rfl rfl)) hz) (PV.go (p_mulL (p_lst (ds := [D.int 1]) (pa_cs p_int pa_nl) rfl) (p_intB B rfl (p_cmp (p_lenS B.len rfl (p_vr 0 rfl rfl)) p_int o_eqI)) ?_ ?_) (go_add_lstC ?_ ?_)))) (by intro _; rfl))))
  · split <;> decide
  · split <;> decide
  · rw [List.length_map]
    have : (List.replicate (if decide ((ns.length : Int) = 0) = true then (1 : Int) else 0).toNat [D.int 1]).flatten.length ≤ 1 := by split <;> simp
    rw [sizeLine_eq]
    omega
  · refine wa_cons (PV.go p_int (wa_cons (PV.go p_int (wa_nil ?_))))
    refine ⟨by show 3 ≤ sizeLine; decide, ?_⟩
    exact begun_fits hl'
theorem F_law_draw (B : Blts C.mg) (D1 : Dn C "_law_draw" s__law_draw ["_law_state", "_law_size_of"]) : FnD C 1 "_law_draw" ["_law_state", "_law_size_of"] cDraw := by
  have nd : n__law_draw.Nodup := sc__law_draw.nd
  refine D1.fnd sc__law_draw wf_cSt (fun _ _ => rfl) fun a hp => ?_
  obtain ⟨S, n⟩ := a
  obtain ⟨hS, h6, h7⟩ := hp
  have hS : S.ok := hS
  obtain ⟨h1, h1b, h2, h3, h4, h5⟩ := id hS
  have h6 : 0 < n := h6
  have h7 : n ≤ 1000000000 := h7
  have lc : 0 < S.cells.length := List.length_pos_iff.mpr h1
  have m1 := Int.emod_nonneg S.at_ (by omega : (S.cells.length : Int) ≠ 0)
  have m2 := Int.emod_lt_of_pos S.at_ (by omega : (0 : Int) < S.cells.length)
  generalize hsp : S.at_ % (S.cells.length : Int) = sp at m1 m2
  generalize hcl : S.cells.getD sp.toNat 0 = cl
  have hcl0 : 0 ≤ cl := by
    rw [← hcl, List.getD_eq_getElem?_getD, List.getElem?_eq_getElem (by omega)]
    exact h2 _ (List.getElem_mem _)
  have at0 : atI (S.cells.map fun i => XV.d (.int i)) sp = some (.d (.int cl)) := by
    rw [atI_in m1 (by rw [List.length_map]; exact m2) (.d (.int 0)), ← hcl, List.getD_eq_getElem?_getD, List.getElem?_map, List.getD_eq_getElem?_getD]
    cases S.cells[sp.toNat]? <;> rfl
  change WS _ _ (startE _ [.l 1, .d (.int n)]) S.mem _ _
  refine ws_cons (w1_set (i := 2) (.of nd) (PV.go (p_ixC (m := 1) (p_vr 0 rfl rfl) rfl p_int rfl) ?_))
  refine ws_cons (w1_set (i := 3) (.of nd) (PV.go (p_modI (p_ixC (m := 1) (p_vr 0 rfl rfl) rfl p_int rfl) (p_lenC (m := 0) B.len rfl (p_vr 2 rfl rfl) rfl) (by rw [List.length_map]; omega)) ?_))
  rw [List.length_map, hsp]
  refine ws_cons (w1_set (i := 4) (.of nd) (PV.go (p_ixC (m := 0) (p_vr 2 rfl rfl) rfl (p_vr 3 rfl rfl) at0) ?_))
  refine ws_cons (PB.ite (b_cmp (p_vr 4 rfl rfl) p_int o_ge) (fun hc => ?_) (fun hc => ?_))
  · refine ws_cons (w1_setIx (PV.go (p_fdivI (p_vr 4 rfl rfl) (p_vr 1 rfl rfl) ⟨h6, by omega⟩) (PV.go (p_vr 2 rfl rfl) (PV.go (p_vr 3 rfl rfl) ⟨0, _, sp, sp.toNat, rfl, rfl, rfl, ?_, ?_⟩))))
    · unfold ixN; rw [if_pos m1, if_pos (by rw [List.length_map]; exact m2)]
    · refine w1_retQ (p_modI (p_vr 4 rfl rfl) (p_vr 1 rfl rfl) h6) ?_
      have r1 := Int.emod_nonneg cl (by omega : n ≠ 0)
      have r2 := Int.emod_lt_of_pos cl h6
      exact draw_big hS hsp m1 m2 hcl0 h6 r1 r2
  · refine ws_nil ?_
    have q1 := Int.emod_nonneg (S.mix * 48271 + cl + 12345) (by decide : (2147483647 : Int) ≠ 0)
    have q2 := Int.emod_lt_of_pos (S.mix * 48271 + cl + 12345) (by decide : (0 : Int) < 2147483647)
    refine ws_cons (w1_setIx (PV.go (p_addI (p_ixC (m := 1) (p_vr 0 rfl rfl) rfl p_int rfl) p_int) (PV.go (p_vr 0 rfl rfl) (PV.go p_int ⟨1, _, 1, 1, rfl, rfl, rfl, rfl, ?_⟩))))
    refine ws_cons (w1_setIx (PV.go (p_modI (p_addI (p_addI (p_mulI (i := S.mix) (k := 48271) (p_ixC (m := 1) (p_vr 0 rfl rfl) rfl p_int rfl) p_int (cmul_s (by omega) (by omega))) (p_vr 4 rfl rfl)) p_int) p_int (by decide)) (PV.go (p_vr 0 rfl rfl) (PV.go p_int ⟨1, _, 2, 2, rfl, rfl, rfl, rfl, ?_⟩))))
    generalize hm : (S.mix * 48271 + cl + 12345) % 2147483647 = mx at *
    have e1 := Int.emod_nonneg (mx * mx) (by decide : (2147483629 : Int) ≠ 0)
    have r1 := Int.emod_nonneg (mx * mx % 2147483629 / 16) (by omega : n ≠ 0)
    have r2 := Int.emod_lt_of_pos (mx * mx % 2147483629 / 16) h6
    refine w1_retQ (p_modI (p_fdivI (p_modI (p_mulI (i := mx) (k := mx) (p_ixC (m := 1) (p_vr 0 rfl rfl) rfl p_int rfl) (p_ixC (m := 1) (p_vr 0 rfl rfl) rfl p_int rfl) (cmul_s (by omega) (by omega))) p_int (by decide)) p_int ⟨by decide, by decide⟩) (p_vr 1 rfl rfl) h6) ?_
    exact draw_mix hS q1 q2 r1 r2
/-! ### the law's own look at rows -/
theorem F_law_far (B : Blts C.mg) (D1 : Dn C "_law_far" s__law_far ["_law_pieces"]) : FnD C 1 "_law_far" ["_law_pieces"] (cP1 Parts.d Parts.low fun p => .int (RW.far p)) := by
  have nd : n__law_far.Nodup := sc__law_far.nd
  refine D1.p1 sc__law_far fun p hp => ?_
  obtain ⟨h1, h2, h3, h4, h5, h6, h7⟩ := hp
  refine w1_retP (PV.eq (p_addI (p_mulI (p_int) (p_max B rfl (p_lenT B.len rfl (PV.eq (p_ixU (n := .txt p.left) (p_vr 0 rfl rfl) (p_int) rfl) rfl) (sz_of (by omega))) (p_lenT B.len rfl (PV.eq (p_ixU (n := .txt p.right) (p_vr 0 rfl rfl) (p_int) rfl) rfl) (sz_of (by omega)))) (cmul_s (by omega) (by omega))) (p_int)) ?_)
  rfl
theorem left_ix {n : Int} {x : Int} (hn : 0 < n) : n - 1 - (x - 1) % n = (-x) % n := by
  have h1 := Int.emod_nonneg (x - 1) (by omega : n ≠ 0)
  have h2 := Int.emod_lt_of_pos (x - 1) hn
  have h3 := Int.mul_ediv_add_emod (x - 1) n
  have e : -x = (n - 1 - (x - 1) % n) + n * (-((x - 1) / n) - 1) := by
    rw [Int.mul_sub, Int.mul_neg, Int.mul_one]
    omega
  rw [e, Int.add_mul_emod_self_left]
  generalize (x - 1) % n = r at *
  rw [Int.emod_eq_of_lt (by omega) (by omega)]
theorem F_law_sign (B : Blts C.mg) (D1 : Dn C "_law_sign" s__law_sign ["_law_pieces", "_law_spot"]) : FnD C 1 "_law_sign" ["_law_pieces", "_law_spot"] SSign := by
  have nd : n__law_sign.Nodup := sc__law_sign.nd
  refine D1.p2 sc__law_sign fun p i hp => ?_
  obtain ⟨h1, h2, h3, h4, h5, h6, h7⟩ := id hp
  have l1 : 0 < p.left.length := List.length_pos_iff.mpr h1
  have l2 : 0 < p.right.length := List.length_pos_iff.mpr h2
  refine ws_cons (w1_asg (t := .tp [2, 3, 4, 5]) (.tp (.cons (.of nd) (.cons (.of nd) (.cons (.of nd) (.cons (.of nd) .nil))))) (PV.go (p_vr 0 rfl rfl) ⟨_, ⟨_, rfl, rfl, rfl⟩, ?_⟩))
  refine ws_cons (PB.ite (b_cmp (p_vr 1 rfl rfl) (p_vr 5 rfl rfl) o_lt) (fun hc => ?_) (fun hc => ?_))
  · have hc := of_decide_eq_true hc
    have m1 := Int.emod_nonneg (i - p.at_) (by omega : (p.left.length : Int) ≠ 0)
    have m2 := Int.emod_lt_of_pos (i - p.at_) (by omega : (0 : Int) < p.left.length)
    have e := left_ix (n := (p.left.length : Int)) (x := p.at_ - i) (by omega)
    have e2 : p.at_ - i - 1 = p.at_ - 1 - i := by omega
    rw [e2, show -(p.at_ - i) = i - p.at_ by omega] at e
    refine w1_retQ (p_ixT (p_vr 2 rfl rfl) (p_subI (p_subI (p_lenT B.len rfl (p_vr 2 rfl rfl) (sz_of (by omega))) (p_int)) (p_modI (p_subI (p_subI (p_vr 5 rfl rfl) (p_int)) (p_vr 1 rfl rfl)) (p_lenT B.len rfl (p_vr 2 rfl rfl) (sz_of (by omega))) (by omega))) (sz_of (by omega)) (by rw [e]; exact atI_in m1 m2 0)) ?_
    show XV.d (.txt [_]) = .d (.txt [RW.sgn p i])
    unfold RW.sgn
    rw [if_pos hc]
  · have hc := of_decide_eq_false hc
    refine ws_nil ?_
    refine ws_cons (PB.ite (b_cmp (p_vr 1 rfl rfl) (p_addI (p_vr 5 rfl rfl) (p_lenT B.len rfl (p_vr 3 rfl rfl) (sz_of (by omega)))) o_lt) (fun hc2 => ?_) (fun hc2 => ?_))
    · have hc2 := of_decide_eq_true hc2
      refine w1_retQ (p_ixT (p_vr 3 rfl rfl) (p_subI (p_vr 1 rfl rfl) (p_vr 5 rfl rfl)) (sz_of (by omega)) (atI_in (by omega) (by omega) 0)) ?_
      show XV.d (.txt [_]) = .d (.txt [RW.sgn p i])
      unfold RW.sgn
      rw [if_neg hc, if_pos hc2]
    · have hc2 := of_decide_eq_false hc2
      have m1 := Int.emod_nonneg (i - p.at_ - (p.part.length : Int)) (by omega : (p.right.length : Int) ≠ 0)
      have m2 := Int.emod_lt_of_pos (i - p.at_ - (p.part.length : Int)) (by omega : (0 : Int) < p.right.length)
      refine ws_nil ?_
      refine w1_retQ (p_ixT (p_vr 4 rfl rfl) (p_modI (p_subI (p_subI (p_vr 1 rfl rfl) (p_vr 5 rfl rfl)) (p_lenT B.len rfl (p_vr 3 rfl rfl) (sz_of (by omega)))) (p_lenT B.len rfl (p_vr 4 rfl rfl) (sz_of (by omega))) (by omega)) (sz_of (by omega)) (atI_in m1 m2 0)) ?_
      show XV.d (.txt [_]) = .d (.txt [RW.sgn p i])
      unfold RW.sgn
      rw [if_neg hc, if_neg hc2]
theorem F_law_stretch (B : Blts C.mg) (F__law_sign : FnD C 1 "_law_sign" ["_law_pieces", "_law_spot"] SSign) (D1 : Dn C "_law_stretch" s__law_stretch ["_law_pieces", "_law_first", "_law_close_by"]) : FnD C 2 "_law_stretch" ["_law_pieces", "_law_first", "_law_close_by"] SStr := by
  have nd : n__law_stretch.Nodup := sc__law_stretch.nd
  refine D1.p3 sc__law_stretch fun p lo hi hp => ?_
  obtain ⟨h1, h2, h3, h4, h5, h6⟩ := hp
  refine w1_retP (PV.eq (p_join (ls := (upto lo hi).map fun i => [RW.sgn p i]) (p_txt (l := []) rfl) (PV.eq (p_lcR (n := 3) B.range rfl (.nm (.of nd)) nd (show BlkOk n__law_stretch (defScope s__law_stretch) _ [("_law_spot", 3)] from ⟨rfl, by decide +kernel, by decide +kernel, by decide +kernel, by decide +kernel⟩) (by decide) (p_vr 1 rfl rfl) (p_vr 2 rfl rfl) (fun i hi1 hi2 => p_call2 (a := p) (b := i) F__law_sign.tb (Nat.le_refl 1) rfl (p_vr 0 rfl rfl) (p_vr 3 rfl rfl) h1) ⟨⟨by omega, by omega, by omega, by omega⟩, sz_of (by omega)⟩) ?_) ?_) ?_)
  · rw [List.map_map]; rfl
  · rw [sum_ones, upto_len, List.length_nil, Nat.mul_zero]; omega
  · rw [join_ones, upto_ran]; rfl
/-! ### what the law draws -/
/-- a text of the signs few -/
def ofFew (few l : List Nat) : Prop := ∀ c ∈ l, c ∈ few
def cLetters : Con := cSt (List Nat × Int) (fun a => [.txt a.1, .int a.2]) (fun a => a.1 ≠ [] ∧ a.1.length ≤ 1000 ∧ 0 ≤ a.2 ∧ a.2 ≤ 10000) fun a d => ∃ l, d = .txt l ∧ (l.length : Int) = a.2 ∧ ofFew a.1 l
theorem F_law_letters (B : Blts C.mg) (F_draw : FnD C 1 "_law_draw" ["_law_state", "_law_size_of"] cDraw) (D1 : Dn C "_law_letters" s__law_letters ["_law_state", "_law_few", "_law_size"]) : FnD C 2 "_law_letters" ["_law_state", "_law_few", "_law_size"] cLetters := by
  have nd : n__law_letters.Nodup := sc__law_letters.nd
  refine D1.sto sc__law_letters (fun _ _ => rfl) fun S a hS hp => ?_
  obtain ⟨few, size⟩ := a
  obtain ⟨h1, h2, h3, h4⟩ := hp
  have h1 : few ≠ [] := h1
  have h2 : few.length ≤ 1000 := h2
  have h3 : 0 ≤ size := h3
  have h4 : size ≤ 10000 := h4
  have lf : 0 < few.length := List.length_pos_iff.mpr h1
  refine w1_retW (w_join (p_txt (l := []) rfl) (we_lcStore (n := 3) (size := size) (fun i acc => ∃ l : List Nat, acc = l.map (fun c => D.txt [c]) ∧ l.length = i ∧ ofFew few l) B.range rfl (.nm (.of nd)) nd (show BlkOk n__law_letters (defScope s__law_letters) _ [("_law_k", 3)] from ⟨rfl, by decide +kernel, by decide +kernel, by decide +kernel, by decide +kernel⟩) (by decide) (p_vr 2 rfl rfl) hS (by omega) (by omega) ⟨[], rfl, rfl, fun c hc => (List.not_mem_nil hc).elim⟩ ?_ ?_))
  · rintro i acc S' hS' hi ⟨l, rfl, hl, hf⟩
    refine we_ix (PV.go (p_vr 1 rfl rfl) (we_draw (n := (few.length : Int)) F_draw.tb (Nat.le_refl 1) rfl (p_vr 0 rfl rfl) (p_lenT B.len rfl (p_vr 1 rfl rfl) (sz_of (by omega))) hS' ⟨by omega, by omega⟩ fun r S2 hS2 r1 r2 => ?_))
    obtain ⟨c, hc, hm⟩ := atI_all (P := fun c => c ∈ few) (fun c hc => hc) r1 r2
    refine gi_txt (sz_of (by omega)) hc ⟨_, S2, rfl, rfl, hS2, l ++ [c], by simp, by rw [List.length_append, hl]; rfl, fun d hd => ?_⟩
    rcases List.mem_append.mp hd with q | q
    · exact hf d q
    · rw [List.mem_singleton.mp q]; exact hm
  · rintro acc S' hS' ⟨l, rfl, hl, hf⟩
    refine ⟨l.map fun c => [c], by rw [List.map_map]; rfl, by rw [sum_one, List.length_nil, Nat.mul_zero]; omega, _, S', [], by rw [joinL_ones], rfl, hS', l, rfl, by show (l.length : Int) = size; omega, hf⟩
/-- a text that a row may go round by -/
def roundOf (few : List Nat) (l : List Nat) : Prop := 1 ≤ l.length ∧ l.length ≤ 200 ∧ ofFew few l
def cRound : Con := cSt (List Nat) (fun a => [.txt a]) (fun a => a ≠ [] ∧ a.length ≤ 1000) fun a d => ∃ l, d = .txt l ∧ roundOf a l
theorem F_law_round (B : Blts C.mg) (F_draw : FnD C 1 "_law_draw" ["_law_state", "_law_size_of"] cDraw) (F_letters : FnD C 2 "_law_letters" ["_law_state", "_law_few", "_law_size"] cLetters) (D1 : Dn C "_law_round" s__law_round ["_law_state", "_law_few"]) : FnD C 3 "_law_round" ["_law_state", "_law_few"] cRound := by
  have nd : n__law_round.Nodup := sc__law_round.nd
  have k1 : 1 ≤ (2 : Nat) := by decide
  refine D1.sto sc__law_round (fun _ _ => rfl) fun S few hS hp => ?_
  obtain ⟨h1, h2⟩ := hp
  refine ws_cons (w1_set (i := 2) (.of nd) (we_ix (PV.go (p_lst (pa_cs p_int (pa_cs p_int (pa_cs p_int (pa_cs p_int (pa_cs p_int (pa_cs p_int (pa_cs p_int (pa_cs p_int pa_nl)))))))) rfl) (we_draw (n := 8) F_draw.to k1 rfl (p_vr 0 rfl rfl) p_int hS ⟨by decide, by decide⟩ fun r S hS r1 r2 => ?_))))
  obtain ⟨d, hd, z, rfl, hz1, hz2⟩ := atI_all (l := [D.int 1, D.int 1, D.int 2, D.int 2, D.int 3, D.int 4, D.int 6, D.int 30]) (P := fun d => ∃ z : Int, d = .int z ∧ 1 ≤ z ∧ z ≤ 30) (by simp) r1 r2
  refine gi_lst hd ?_
  refine ws_seq (fun ρ' μ' => ∃ (z : Int) (S : DS), ρ' = [some (.l 1), some (.d (.txt few)), some (.d (.int z)), none] ∧ μ' = S.mem ++ [] ∧ S.ok ∧ 1 ≤ z ∧ (z ≤ 30 ∨ 199 ≤ z ∧ z ≤ 200)) (w1_if (wt_cmp (we_draw (n := 16) F_draw.to k1 rfl (p_vr 0 rfl rfl) p_int hS ⟨by decide, by decide⟩ fun r S hS r1 r2 => PV.go p_int (go_eq_int ⟨_, rfl, fun hc => ?_, fun hc => ?_⟩)))) ?_
  · refine ws_cons (w1_set (i := 2) (.of nd) (we_bin (PV.go p_int (we_draw (n := 2) F_draw.to k1 rfl (p_vr 0 rfl rfl) p_int hS ⟨by decide, by decide⟩ fun r S hS r1 r2 => go_add_int ?_))))
    exact ws_nil ⟨_, S, rfl, rfl, hS, by omega, .inr ⟨by omega, by omega⟩⟩
  · exact ws_nil ⟨z, S, rfl, rfl, hS, hz1, .inl hz2⟩
  · rintro ρ' μ' ⟨z, S, rfl, rfl, hS, hz1, hz2⟩
    refine ws_cons (w1_set (i := 3) (.of nd) (we_store (few, z) F_letters.to (Nat.le_refl 2) rfl (pa_cs (p_vr 0 rfl rfl) (pa_cs (p_vr 1 rfl rfl) (pa_cs (p_vr 2 rfl rfl) pa_nl))) rfl hS ⟨h1, h2, by show 0 ≤ z; omega, by show z ≤ 10000; omega⟩ fun d S hS hd => ?_))
    obtain ⟨l, rfl, hl, hf⟩ := hd
    have hl : (l.length : Int) = z := hl
    have hf : ofFew few l := hf
    refine w1_retW (we_if (PB.go (b_cmp (p_vr 2 rfl rfl) p_int o_lt) ⟨fun hc => ?_, fun hc => ?_⟩))
    · have hc := of_decide_eq_true hc
      refine we_bin (PV.go (p_vr 3 rfl rfl) (we_ix (PV.go (p_lst (pa_cs p_int (pa_cs p_int (pa_cs p_int (pa_cs p_int pa_nl)))) rfl) (we_draw (n := 4) F_draw.to k1 rfl (p_vr 0 rfl rfl) p_int hS ⟨by decide, by decide⟩ fun r S hS r1 r2 => ?_))))
      obtain ⟨d, hd, m, rfl, hm1, hm2⟩ := atI_all (l := [D.int 1, D.int 1, D.int 2, D.int 3]) (P := fun d => ∃ z : Int, d = .int z ∧ 1 ≤ z ∧ z ≤ 3) (by simp) r1 r2
      have e := repT_len l m
      have b1 : l.length ≤ 30 := by omega
      have b2 : m.toNat ≤ 3 := by omega
      have b3 : m.toNat * l.length ≤ 3 * 30 := Nat.mul_le_mul b2 b1
      have b4 : 1 * l.length ≤ m.toNat * l.length := Nat.mul_le_mul_right _ (by omega)
      refine gi_lst hd (go_mul_txt (by omega) (by omega) (sz_of (by rw [Nat.mul_comm]; omega)) ⟨_, S, [], rfl, rfl, hS, repT l m, rfl, by omega, by omega, fun c hc => hf c (repT_mem hc)⟩)
    · refine PV.go (p_vr 3 rfl rfl) ⟨_, S, [], rfl, rfl, hS, l, rfl, by omega, by omega, hf⟩
end
end DL
set_option maxRecDepth 100000
set_option maxHeartbeats 4000000
namespace DL
open PySem L2 PySem.Spec PyProof.Rows
abbrev s__law_row : Stmt := top 22
def n__law_row : List Str := ["_law_state", "_law_few", "_law_ahead", "_law_later", "_law_way", "_law_middle", "_law_size", "_law_cut", "_law_spots"]
theorem sc__law_row : FnScope n__law_row ["_law_state"] (defScope s__law_row) := ⟨rfl, rfl, rfl, by decide +kernel, rfl, by decide +kernel, by decide +kernel⟩
section
variable {C : SC}
theorem few_small : ∀ d ∈ [D.txt [97, 98], D.txt [97, 98], D.txt [97, 98, 99], D.txt [97, 122], D.txt [97], D.txt [97, 98, 99, 100, 101, 102, 103, 104]], ∃ f : List Nat, d = .txt f ∧ f ≠ [] ∧ f.length ≤ 8 ∧ ∀ c ∈ f, c ∈ small := by
  intro d hd
  simp only [List.mem_cons, List.not_mem_nil, or_false] at hd
  rcases hd with rfl | rfl | rfl | rfl | rfl | rfl <;> exact ⟨_, rfl, by decide, by decide, by decide⟩
/-- a side, a middle of a drawn row -/
def sideOk (l : List Nat) : Prop := 1 ≤ l.length ∧ l.length ≤ 200 ∧ ∀ c ∈ l, c ∈ small
def midOk (n : Nat) (l : List Nat) : Prop := l.length ≤ n ∧ ∀ c ∈ l, c ∈ small
def cPieces : Con := cSt Unit (fun _ => []) (fun _ => True) fun _ d => ∃ p : RW.Parts, d = Parts.d p ∧ isRow p = true ∧ -99998000 ≤ p.at_ ∧ p.at_ ≤ 99998000
theorem isRow_of {a m r : List Nat} {i : Int} (h1 : sideOk a) (h2 : midOk 400 m) (h3 : sideOk r) (h4 : -100000000 ≤ i ∧ i ≤ 100000000) : isRow ⟨a, m, r, i⟩ = true := by
  obtain ⟨a1, a2, a3⟩ := h1
  obtain ⟨m1, m2⟩ := h2
  obtain ⟨r1, r2, r3⟩ := h3
  have s : ∀ l : List Nat, (∀ c ∈ l, c ∈ small) → (l.all fun c => decide (c ∈ small)) = true := fun l h => List.all_eq_true.mpr fun c hc => decide_eq_true (h c hc)
  unfold isRow isRound areLetters isPlace
  simp only [s a a3, s m m2, s r r3, Bool.and_eq_true, decide_eq_true_eq, and_true]
  refine ⟨⟨⟨⟨?_, ?_⟩, ?_, ?_⟩, ?_, ?_⟩, h4⟩ <;> omega
theorem F_law_row (B : Blts C.mg) (F_draw : FnD C 1 "_law_draw" ["_law_state", "_law_size_of"] cDraw) (F_letters : FnD C 2 "_law_letters" ["_law_state", "_law_few", "_law_size"] cLetters) (F_round : FnD C 3 "_law_round" ["_law_state", "_law_few"] cRound) (D1 : Dn C "_law_row" s__law_row ["_law_state"]) : FnD C 4 "_law_row" ["_law_state"] cPieces := by
  have nd : n__law_row.Nodup := sc__law_row.nd
  have k1 : 1 ≤ (3 : Nat) := by decide
  have k2 : 2 ≤ (3 : Nat) := by decide
  refine D1.sto sc__law_row (fun _ _ => rfl) fun S a hS hp => ?_
  -- few
  refine ws_cons (w1_set (i := 1) (.of nd) (we_ix (PV.go (p_lst (pa_cs (p_txt (l := [97, 98]) rfl) (pa_cs (p_txt (l := [97, 98]) rfl) (pa_cs (p_txt (l := [97, 98, 99]) rfl) (pa_cs (p_txt (l := [97, 122]) rfl) (pa_cs (p_txt (l := [97]) rfl) (pa_cs (p_txt (l := [97, 98, 99, 100, 101, 102, 103, 104]) rfl) pa_nl)))))) rfl) (we_draw (n := 6) F_draw.to k1 rfl (p_vr 0 rfl rfl) p_int hS ⟨by decide, by decide⟩ fun r S hS r1 r2 => ?_))))
  obtain ⟨d, hd, few, rfl, f1, f2, f3⟩ := atI_all few_small r1 r2
  refine gi_lst hd ?_
  have side : ∀ {l : List Nat}, roundOf few l → sideOk l := fun h => ⟨h.1, h.2.1, fun c hc => f3 c (h.2.2 c hc)⟩
  have fl : few.length ≤ 1000 := by omega
  -- ahead, later, way
  refine ws_cons (w1_pr3 (i := 2) (j := 3) (l := 4) (.of nd) (.of nd) (.of nd) (by decide) (we_store few F_round.to (Nat.le_refl 3) rfl (pa_cs (p_vr 0 rfl rfl) (pa_cs (p_vr 1 rfl rfl) pa_nl)) rfl hS ⟨f1, fl⟩ fun d S hS hd => ?_))
  obtain ⟨ah, rfl, hah⟩ := hd
  refine we_store few F_round.to (Nat.le_refl 3) rfl (pa_cs (p_vr 0 rfl rfl) (pa_cs (p_vr 1 rfl rfl) pa_nl)) rfl hS ⟨f1, fl⟩ fun d S hS hd => ?_
  obtain ⟨la, rfl, hla⟩ := hd
  refine we_draw (n := 6) F_draw.to k1 rfl (p_vr 0 rfl rfl) p_int hS ⟨by decide, by decide⟩ fun way S hS w1 w2 => ?_
  replace hah := side hah
  replace hla := side hla
  -- middle
  refine ws_cons (w1_set (i := 5) (.of nd) (we_call F_letters.to k2 rfl (wa_cons (PV.go (p_vr 0 rfl rfl) (wa_cons (PV.go (p_vr 1 rfl rfl) (wa_cons (we_ix (PV.go (p_lst (pa_cs p_int (pa_cs p_int (pa_cs p_int (pa_cs p_int (pa_cs p_int (pa_cs p_int (pa_cs p_int (pa_cs p_int pa_nl)))))))) rfl) (we_draw (n := 8) F_draw.to k1 rfl (p_vr 0 rfl rfl) p_int hS ⟨by decide, by decide⟩ fun r S hS r1 r2 => ?_))))))))))
  obtain ⟨d, hd, z, rfl, hz1, hz2⟩ := atI_all (l := [D.int 0, D.int 0, D.int 1, D.int 2, D.int 3, D.int 7, D.int 20, D.int 60]) (P := fun d => ∃ z : Int, d = .int z ∧ 0 ≤ z ∧ z ≤ 60) (by simp) r1 r2
  refine gi_lst hd (wa_nil (calls_S (few, z) hS ⟨f1, fl, hz1, by show z ≤ 10000; omega⟩ rfl fun d S hS hd => ?_))
  obtain ⟨mi, rfl, hmi, hmf⟩ := hd
  have hmi : (mi.length : Int) = z := hmi
  have mid : midOk 60 mi := ⟨by omega, fun c hc => f3 c (hmf c hc)⟩
  have txs : ∀ {l : List Nat}, ofFew few l → ∀ c ∈ l, c ∈ small := fun h c hc => f3 c (h c hc)
  obtain ⟨a1, a2, a3⟩ := id hah
  obtain ⟨b1, b2, b3⟩ := id hla
  obtain ⟨m1, m2⟩ := id mid
  -- a longer middle
  refine ws_seq (fun ρ' μ' => ∃ (mi : List Nat) (S : DS), ρ' = [some (.l 1), some (.d (.txt few)), some (.d (.txt ah)), some (.d (.txt la)), some (.d (.int way)), some (.d (.txt mi)), none, none, none] ∧ μ' = S.mem ++ [] ∧ S.ok ∧ midOk 380 mi) (w1_if (wt_bool (ww_and (PB.go (b_cmp (p_lenT B.len rfl (p_addT (p_vr 2 rfl rfl) (p_vr 3 rfl rfl) (sz_of (by omega))) (sz_of (by rw [List.length_append]; omega))) p_int o_lt) ⟨fun hc => ww_and1 (wt_cmp (we_draw (n := 12) F_draw.to k1 rfl (p_vr 0 rfl rfl) p_int hS ⟨by decide, by decide⟩ fun r S hS r1 r2 => PV.go p_int (go_eq_int ⟨_, rfl, fun hc => ?_, fun hc => ?_⟩))), fun hc => ⟨fun z => (nomatch z), fun _ => ?_⟩⟩)))) ?_
  · refine ws_cons (w1_set (i := 5) (.of nd) (we_store (few, 380) F_letters.to k2 rfl (pa_cs (p_vr 0 rfl rfl) (pa_cs (p_vr 1 rfl rfl) (pa_cs p_int pa_nl))) rfl hS ⟨f1, fl, by show (0 : Int) ≤ 380; decide, by show (380 : Int) ≤ 10000; decide⟩ fun d S hS hd => ?_))
    obtain ⟨l, rfl, hl, hf⟩ := hd
    have hl : (l.length : Int) = 380 := hl
    exact ws_nil ⟨l, S, rfl, rfl, hS, by omega, txs hf⟩
  · exact ws_nil ⟨mi, S, rfl, rfl, hS, by omega, m2⟩
  · exact ws_nil ⟨mi, S, rfl, rfl, hS, by omega, m2⟩
  rintro _ _ ⟨mi, S, rfl, rfl, hS, mid⟩
  -- two of nearly one kind
  refine ws_seq (fun ρ' μ' => ∃ (ah la : List Nat) (o6 : Option XV) (S : DS), ρ' = [some (.l 1), some (.d (.txt few)), some (.d (.txt ah)), some (.d (.txt la)), some (.d (.int way)), some (.d (.txt mi)), o6, none, none] ∧ μ' = S.mem ++ [] ∧ S.ok ∧ sideOk ah ∧ sideOk la) (w1_if (wt_cmp (we_draw (n := 16) F_draw.to k1 rfl (p_vr 0 rfl rfl) p_int hS ⟨by decide, by decide⟩ fun r S hS r1 r2 => PV.go p_int (go_eq_int ⟨_, rfl, fun hc => ?_, fun hc => ?_⟩)))) ?_
  · refine ws_cons (w1_set (i := 6) (.of nd) (we_bin (PV.go p_int (we_draw (n := 100) F_draw.to k1 rfl (p_vr 0 rfl rfl) p_int hS ⟨by decide, by decide⟩ fun r S hS r1 r2 => go_add_int ?_))))
    have fp : 0 < few.length := List.length_pos_iff.mpr f1
    obtain ⟨c0, hc0, hs0⟩ := atI_all (i := 0) f3 (by decide) (by omega)
    obtain ⟨c1, hc1, hs1⟩ := atI_neg (i := -1) f3 (by decide) (by omega)
    have one : ∀ {k : Int}, 1 ≤ k → k ≤ 101 → (repT [c0] k ++ [c1]).length ≤ 102 ∧ 1 ≤ (repT [c0] k ++ [c1]).length ∧ ∀ c ∈ repT [c0] k ++ [c1], c ∈ small := fun {k} h1 h2 => by
      have e := repT_len [c0] k
      simp only [List.length_singleton, Nat.mul_one] at e
      refine ⟨by rw [List.length_append, List.length_singleton]; omega, by rw [List.length_append, List.length_singleton]; omega, fun c hc => ?_⟩
      rcases List.mem_append.mp hc with q | q
      · rw [List.mem_singleton.mp (repT_mem q)]; exact hs0
      · rw [List.mem_singleton.mp q]; exact hs1
    have o1 := one (k := 1 + r) (by omega) (by omega)
    have o2 := one (k := 1 + r + 1) (by omega) (by omega)
    have fz : few.length ≤ sizeLine := sz_of (by omega)
    have rl : ∀ k : Int, k ≤ 101 → (repT [c0] k).length ≤ 101 := fun k hk => by
      have e := repT_len [c0] k
      simp only [List.length_singleton, Nat.mul_one] at e
      omega
    have r1' := rl (1 + r) (by omega)
    have r2' := rl (1 + r + 1) (by omega)
    refine ws_cons (w1_pr (i := 2) (j := 3) (.of nd) (.of nd) (by decide) (PV.go (p_addT (p_mulT (p_ixT (p_vr 1 rfl rfl) p_int fz hc0) (p_vr 6 rfl rfl) ⟨by omega, by omega⟩ (sz_of (by simp only [List.length_singleton]; omega))) (p_ixT (p_vr 1 rfl rfl) (p_negI p_int) fz hc1) (sz_of (by simp only [List.length_singleton]; omega))) (PV.go (p_addT (p_mulT (p_ixT (p_vr 1 rfl rfl) p_int fz hc0) (p_addI (p_vr 6 rfl rfl) p_int) ⟨by omega, by omega⟩ (sz_of (by simp only [List.length_singleton]; omega))) (p_ixT (p_vr 1 rfl rfl) (p_negI p_int) fz hc1) (sz_of (by simp only [List.length_singleton]; omega))) ?_)))
    exact ws_nil ⟨_, _, _, S, rfl, rfl, hS, ⟨o1.2.1, by omega, o1.2.2⟩, ⟨o2.2.1, by omega, o2.2.2⟩⟩
  · exact ws_nil ⟨ah, la, none, S, rfl, rfl, hS, hah, hla⟩
  rintro _ _ ⟨ah, la, o6, S, rfl, rfl, hS, hah, hla⟩
  obtain ⟨a1, a2, a3⟩ := id hah
  obtain ⟨b1, b2, b3⟩ := id hla
  obtain ⟨m1, m2⟩ := id mid
  have rep12 : ∀ {l : List Nat}, l.length ≤ 200 → (repT l 12).length ≤ 2400 := fun {l} h => by
    rw [repT_len]
    exact Nat.mul_le_mul (by decide : (12 : Int).toNat ≤ 12) h
  -- a part that goes on as the left round
  refine ws_seq (fun ρ' μ' => ∃ (mi : List Nat) (S : DS), ρ' = [some (.l 1), some (.d (.txt few)), some (.d (.txt ah)), some (.d (.txt la)), some (.d (.int way)), some (.d (.txt mi)), o6, none, none] ∧ μ' = S.mem ++ [] ∧ S.ok ∧ midOk 3000 mi) (w1_if (PB.go (b_cmp (p_vr 4 rfl rfl) p_int o_eqI) ⟨fun hc => ?_, fun hc => ?_⟩)) ?_
  · refine ws_cons (w1_set (i := 5) (.of nd) (we_bin (we_sl (PV.go (p_mulT (p_vr 2 rfl rfl) p_int ⟨by decide, by decide⟩ (sz_of (Nat.le_trans (Nat.mul_le_mul a2 (by decide : (12 : Int).toNat ≤ 12)) (by decide)))) (wo_none (wo_some (we_draw (n := 13) F_draw.to k1 rfl (p_vr 0 rfl rfl) p_int hS ⟨by decide, by decide⟩ fun r S hS r1 r2 => ⟨_, rfl, gs_txt (sz_of (Nat.le_trans (rep12 a2) (by decide))) (PV.go (p_vr 5 rfl rfl) (go_add_txt (sz_of ?_) ?_))⟩)))))))
    · have := cut_len (repT ah 12) none (some r)
      have := rep12 a2
      omega
    · refine ws_nil ⟨_, S, rfl, rfl, hS, ?_, fun c hc => ?_⟩
      · have := cut_len (repT ah 12) none (some r)
        have := rep12 a2
        rw [List.length_append]
        omega
      · rcases List.mem_append.mp hc with q | q
        · exact a3 c (repT_mem (cut_mem q))
        · exact m2 c q
  · exact ws_nil ⟨mi, S, rfl, rfl, hS, by omega, m2⟩
  rintro _ _ ⟨mi, S, rfl, rfl, hS, mid⟩
  obtain ⟨m1, m2⟩ := id mid
  -- a part that comes as the right round
  refine ws_seq (fun ρ' μ' => ∃ (mi : List Nat) (S : DS), ρ' = [some (.l 1), some (.d (.txt few)), some (.d (.txt ah)), some (.d (.txt la)), some (.d (.int way)), some (.d (.txt mi)), o6, none, none] ∧ μ' = S.mem ++ [] ∧ S.ok ∧ midOk 6000 mi) (w1_if (PB.go (b_cmp (p_vr 4 rfl rfl) p_int o_eqI) ⟨fun hc => ?_, fun hc => ?_⟩)) ?_
  · refine ws_cons (w1_set (i := 5) (.of nd) (we_bin (PV.go (p_vr 5 rfl rfl) (we_sl (PV.go (p_mulT (p_vr 3 rfl rfl) p_int ⟨by decide, by decide⟩ (sz_of (Nat.le_trans (Nat.mul_le_mul b2 (by decide : (12 : Int).toNat ≤ 12)) (by decide)))) (wo_some (we_draw (n := (la.length : Int)) F_draw.to k1 rfl (p_vr 0 rfl rfl) (p_lenT B.len rfl (p_vr 3 rfl rfl) (sz_of (by omega))) hS ⟨by omega, by omega⟩ fun r S hS r1 r2 => ⟨_, rfl, wo_some (PV.go p_int ⟨_, rfl, gs_txt (sz_of (Nat.le_trans (rep12 b2) (by decide))) (go_add_txt (sz_of ?_) ?_)⟩)⟩)))))))
    · have := cut_len (repT la 12) (some r) (some 12)
      have := rep12 b2
      omega
    · refine ws_nil ⟨_, S, rfl, rfl, hS, ?_, fun c hc => ?_⟩
      · have := cut_len (repT la 12) (some r) (some 12)
        have := rep12 b2
        rw [List.length_append]
        omega
      · rcases List.mem_append.mp hc with q | q
        · exact m2 c q
        · exact b3 c (repT_mem (cut_mem q))
  · exact ws_nil ⟨mi, S, rfl, rfl, hS, by omega, m2⟩
  rintro _ _ ⟨mi, S, rfl, rfl, hS, mid⟩
  obtain ⟨m1, m2⟩ := id mid
  -- all of it one round
  refine ws_seq (fun ρ' μ' => ∃ (la mi : List Nat) (o7 : Option XV) (S : DS), ρ' = [some (.l 1), some (.d (.txt few)), some (.d (.txt ah)), some (.d (.txt la)), some (.d (.int way)), some (.d (.txt mi)), o6, o7, none] ∧ μ' = S.mem ++ [] ∧ S.ok ∧ sideOk la ∧ midOk 6000 mi) (w1_if (PB.go (b_cmp (p_vr 4 rfl rfl) p_int o_eqI) ⟨fun hc => ?_, fun hc => ?_⟩)) ?_
  · refine ws_cons (w1_pr (i := 3) (j := 7) (.of nd) (.of nd) (by decide) (PV.go (p_vr 2 rfl rfl) (we_draw (n := (ah.length : Int)) F_draw.to k1 rfl (p_vr 0 rfl rfl) (p_lenT B.len rfl (p_vr 2 rfl rfl) (sz_of (by omega))) hS ⟨by omega, by omega⟩ fun r S hS r1 r2 => ?_)))
    have az : ah.length ≤ sizeLine := sz_of (by omega)
    have c1 := cut_len ah none (some r)
    have c2 := cut_len ah (some r) none
    refine ws_cons (w1_pr (i := 5) (j := 3) (.of nd) (.of nd) (by decide) (we_bin (we_bin (PV.go (p_vr 2 rfl rfl) (we_draw (n := 2) F_draw.to k1 rfl (p_vr 0 rfl rfl) p_int hS ⟨by decide, by decide⟩ fun t S hS t1 t2 => go_mul_txt (by omega) (by omega) (sz_of (Nat.le_trans (Nat.mul_le_mul a2 (by omega : t.toNat ≤ 2)) (by decide))) (PV.go (p_slT (p_vr 2 rfl rfl) o_none (o_some (p_vr 7 rfl rfl)) az) (go_add_txt (sz_of ?_) (PV.go (p_addT (p_slT (p_vr 2 rfl rfl) (o_some (p_vr 7 rfl rfl)) o_none az) (p_slT (p_vr 2 rfl rfl) o_none (o_some (p_vr 7 rfl rfl)) az) (sz_of (by omega))) ?_))))))))
    · have : (repT ah t).length ≤ 2 * 200 := by rw [repT_len]; exact Nat.mul_le_mul (by omega) a2
      omega
    · have : (repT ah t).length ≤ 2 * 200 := by rw [repT_len]; exact Nat.mul_le_mul (by omega) a2
      refine ws_nil ⟨_, _, _, S, rfl, rfl, hS, ⟨?_, ?_, fun c hc => ?_⟩, ?_, fun c hc => ?_⟩
      · rw [cut_from r1, cut_to r1, List.length_append, List.length_drop, List.length_take]; omega
      · rw [cut_from r1, cut_to r1, List.length_append, List.length_drop, List.length_take]; omega
      · rcases List.mem_append.mp hc with q | q <;> exact a3 c (cut_mem q)
      · rw [List.length_append]; omega
      · rcases List.mem_append.mp hc with q | q
        · exact a3 c (repT_mem q)
        · exact a3 c (cut_mem q)
  · exact ws_nil ⟨la, mi, none, S, rfl, rfl, hS, hla, mid⟩
  rintro _ _ ⟨la, mi, o7, S, rfl, rfl, hS, hla, mid⟩
  obtain ⟨m1, m2⟩ := id mid
  -- spots
  refine ws_cons (w1_set (i := 8) (.of nd) (we_lst (wa_cons (PV.go p_int (wa_cons (PV.go p_int (wa_cons (we_bin (we_draw (n := 20) F_draw.to k1 rfl (p_vr 0 rfl rfl) p_int hS ⟨by decide, by decide⟩ fun x S hS x1 x2 => PV.go p_int (go_sub_int (wa_cons (we_bin (we_draw (n := 20000) F_draw.to k1 rfl (p_vr 0 rfl rfl) p_int hS ⟨by decide, by decide⟩ fun y S hS y1 y2 => PV.go p_int (go_sub_int (wa_cons (PV.go (p_subI (p_powI (i := 10) (k := 8) p_int p_int ⟨by decide, by decide, by decide⟩) p_int) (wa_cons (PV.go (p_subI p_int (p_powI (i := 10) (k := 8) p_int p_int ⟨by decide, by decide, by decide⟩)) (wa_nil ⟨_, rfl, by show 6 ≤ sizeLine; decide, ?_⟩)))))))))))))))))))
  have mz : mi.length ≤ sizeLine := sz_of (by omega)
  refine w1_retW (we_tup (wa_cons (PV.go (p_vr 2 rfl rfl) (wa_cons (PV.go (p_slT (p_vr 5 rfl rfl) o_none (o_some p_int) mz) (wa_cons (PV.go (p_vr 3 rfl rfl) (wa_cons (we_ix (PV.go (p_vr 8 rfl rfl) (we_draw (n := 6) F_draw.to k1 rfl (p_vr 0 rfl rfl) p_int hS ⟨by decide, by decide⟩ fun r S hS r1 r2 => ?_)))))))))))
  obtain ⟨d, hd, z, rfl, hz1, hz2⟩ := atI_all (l := [D.int 0, D.int 0, D.int (x - 10), D.int (y - 10000), D.int (10 ^ (8 : Int).toNat - 2000), D.int (2000 - 10 ^ (8 : Int).toNat)]) (P := fun d => ∃ z : Int, d = .int z ∧ -99998000 ≤ z ∧ z ≤ 99998000) (by
    intro d hd
    simp only [List.mem_cons, List.not_mem_nil, or_false] at hd
    rcases hd with rfl | rfl | rfl | rfl | rfl | rfl
    · exact ⟨0, rfl, by decide, by decide⟩
    · exact ⟨0, rfl, by decide, by decide⟩
    · exact ⟨_, rfl, by omega, by omega⟩
    · exact ⟨_, rfl, by omega, by omega⟩
    · exact ⟨_, rfl, by decide, by decide⟩
    · exact ⟨_, rfl, by decide, by decide⟩) r1 r2
  refine gi_lst hd (wa_nil ⟨_, rfl, by show 4 ≤ sizeLine; decide, _, S, [], rfl, rfl, hS, ⟨ah, cut mi none (some 400), la, z⟩, rfl, isRow_of hah ⟨?_, fun c hc => m2 c (cut_mem hc)⟩ hla ⟨by omega, by omega⟩, hz1, hz2⟩)
  rw [cut_to (by decide), List.length_take]
  exact Nat.min_le_left _ _
/-! ### the law k02 -/
theorem code_small {c : Nat} (h : c ∈ small) : c < 1114112 := by
  have : ∀ c ∈ small, c < 1114112 := by decide
  exact this c h
theorem row_small {p : RW.Parts} (h : isRow p = true) : ∀ c, c ∈ p.left ++ p.part ++ p.right → c ∈ small := by
  unfold isRow isRound areLetters at h
  simp only [Bool.and_eq_true, List.all_eq_true, decide_eq_true_eq] at h
  obtain ⟨⟨⟨h1, h2⟩, h3⟩, _⟩ := h
  intro c hc
  rcases List.mem_append.mp hc with hc | hc
  · rcases List.mem_append.mp hc with hc | hc
    · exact h1.2 c hc
    · exact h2.2 c hc
  · exact h3.2 c hc
theorem plain_R {p : RW.Parts} (h : isRow p = true) : (Parts.d (RW.plain p)).okR := by
  obtain ⟨h1, h2, h3, h4, h5, h6, h7⟩ := isRow_low h
  obtain ⟨⟨a1, a2⟩, ⟨b1, b2⟩, c1, d1, d2, m⟩ := RW.plain_told h1 h2
  have s := row_small h
  generalize RW.plain p = q at *
  have t : ∀ l : List Nat, (∀ c ∈ l, c < 1114112) → (D.txt l).plain = true := fun l hl => by
    unfold D.plain
    exact List.all_eq_true.mpr fun c hc => decide_eq_true (hl c hc)
  have t1 := t q.left fun c hc => code_small (s c (m c (.inl hc)))
  have t2 := t q.part fun c hc => code_small (s c (m c (.inr (.inl hc))))
  have t3 := t q.right fun c hc => code_small (s c (m c (.inr (.inr hc))))
  refine ⟨?_, ?_, ?_, ?_, trivial⟩
  · show D.plains [.txt q.left, .txt q.part, .txt q.right, .int q.at_] = true
    simp only [D.plains, t1, t2, t3]
    rfl
  · simp [Parts.d, D.py, D.pys, PyData.depth, PyData.depthAll]
  · show D.ishs [.txt q.left, .txt q.part, .txt q.right, .int q.at_] = true
    have : (D.int q.at_).ish = true := by unfold D.ish; exact decide_eq_true (log_small (by omega) (by omega))
    simp only [D.ishs, this]
    rfl
  · show D.szs [.txt q.left, .txt q.part, .txt q.right, .int q.at_] + 3 ≤ _
    simp only [D.szs, D.sz]
    omega
theorem ix0 {C : SC} {ρ : Env} {μ : Mem} {E : EPost} {e : Expr} {pos p1 : Pos} {j : Nat} {p : RW.Parts} (h : PV C e ρ μ E (.d (Parts.d p))) : PV C (.Subscript e (.Constant (.int 0) j p1) pos) ρ μ E (.d (.txt p.left)) := p_ixU (n := .txt p.left) h p_int rfl
theorem ix1 {C : SC} {ρ : Env} {μ : Mem} {E : EPost} {e : Expr} {pos p1 : Pos} {j : Nat} {p : RW.Parts} (h : PV C e ρ μ E (.d (Parts.d p))) : PV C (.Subscript e (.Constant (.int 1) j p1) pos) ρ μ E (.d (.txt p.part)) := p_ixU (n := .txt p.part) h p_int rfl
theorem ix2 {C : SC} {ρ : Env} {μ : Mem} {E : EPost} {e : Expr} {pos p1 : Pos} {j : Nat} {p : RW.Parts} (h : PV C e ρ μ E (.d (Parts.d p))) : PV C (.Subscript e (.Constant (.int 2) j p1) pos) ρ μ E (.d (.txt p.right)) := p_ixU (n := .txt p.right) h p_int rfl
theorem ix3 {C : SC} {ρ : Env} {μ : Mem} {E : EPost} {e : Expr} {pos p1 : Pos} {j : Nat} {p : RW.Parts} (h : PV C e ρ μ E (.d (Parts.d p))) : PV C (.Subscript e (.Constant (.int 3) j p1) pos) ρ μ E (.d (.int p.at_)) := p_ixU (n := .int p.at_) h p_int rfl
theorem make_row {Cl : Addr} {p : RW.Parts} {μ : Mem} {Q : XV → Mem → Prop} {EX : Addr → List (Str × D) → Mem → Prop} (h : isRow p = true) (q : Q (.d (rowD Cl (RW.plain p))) μ) : MakeG (cRow Cl) Cl [.d (.txt p.left), .d (.txt p.part), .d (.txt p.right), .d (.int p.at_)] μ Q EX :=
  ⟨_, rfl, p, h, rfl, rfl, fun o ho => by cases ho; exact ⟨rfl, _, [Parts.d (RW.plain p)], rfl, q⟩⟩
theorem isRow_side {p : RW.Parts} (h : isRow p = true) : sideOk p.left ∧ midOk 400 p.part ∧ sideOk p.right ∧ -100000000 ≤ p.at_ ∧ p.at_ ≤ 100000000 := by
  have s := row_small h
  unfold isRow isRound areLetters isPlace at h
  simp only [Bool.and_eq_true, decide_eq_true_eq] at h
  obtain ⟨⟨⟨h1, h2⟩, h3⟩, h4⟩ := h
  exact ⟨⟨by omega, by omega, fun c hc => s c (by simp [hc])⟩, ⟨by omega, fun c hc => s c (by simp [hc])⟩, ⟨by omega, by omega, fun c hc => s c (by simp [hc])⟩, h4⟩
theorem plain_row {p : RW.Parts} (h : isRow p = true) (h1 : -99998000 ≤ p.at_) (h2 : p.at_ ≤ 99999000) : isRow (RW.plain p) = true := by
  have s := row_small h
  obtain ⟨a, m, b, _⟩ := isRow_side h
  obtain ⟨l1, l2, _⟩ := isRow_low h
  obtain ⟨⟨c1, c2⟩, ⟨d1, d2⟩, e1, f1, f2, g⟩ := RW.plain_told l1 l2
  obtain ⟨a1, a2, a3⟩ := a
  obtain ⟨b1, b2, b3⟩ := b
  obtain ⟨m1, m2⟩ := m
  have n1 := List.length_pos_iff.mpr c1
  have n2 := List.length_pos_iff.mpr d1
  have := isRow_of (a := (RW.plain p).left) (m := (RW.plain p).part) (r := (RW.plain p).right) (i := (RW.plain p).at_) ⟨by omega, by omega, fun c hc => s c (g c (.inl hc))⟩ ⟨by omega, fun c hc => s c (g c (.inr (.inl hc)))⟩ ⟨by omega, by omega, fun c hc => s c (g c (.inr (.inr hc)))⟩ ⟨by omega, by omega⟩
  exact this
/-! ### the law k03 -/
theorem first_own {K : PySem.W.Frag} {Cl : Addr} : PySem.W.notFirst K Cl (.ref Cl) = true := by
  unfold PySem.W.notFirst
  simp
theorem first_tup {K : PySem.W.Frag} {Cl : Addr} : PySem.W.notFirst K Cl (.type "tuple") = true := by
  have e : fastBuiltinMro "tuple" = some [.type "tuple", .type "object"] := by decide +kernel
  have s : PySem.W.subIn K (.type "tuple") (.ref Cl) = some false := by
    show (fastBuiltinMro "tuple").map (·.contains (.ref Cl)) = some false
    rw [e]
    first | rfl | simp
  unfold PySem.W.notFirst
  rw [s]
  simp
theorem first_str {K : PySem.W.Frag} {Cl : Addr} : PySem.W.notFirst K Cl (.type "str") = true := by
  have e : fastBuiltinMro "str" = some [.type "str", .type "object"] := by decide +kernel
  have s : PySem.W.subIn K (.type "str") (.ref Cl) = some false := by
    show (fastBuiltinMro "str").map (·.contains (.ref Cl)) = some false
    rw [e]
    first | rfl | simp
  unfold PySem.W.notFirst
  rw [s]
  simp
theorem oth_ty {K : PySem.W.Frag} {Cl : Addr} (isi : IsiC K Cl) (o : Oth) : ∃ t, TyD2 K (.d (o.d Cl)) t ∧ PySem.W.notFirst K Cl t = true := by
  cases o with
  | row q => exact ⟨_, .ins _ _ isi, first_own⟩
  | tup q => exact ⟨_, .tup _, first_tup⟩
  | txt l => exact ⟨_, .txt _, first_str⟩
section
variable {Cl : Addr} {μ : Mem} {k : Nat}
theorem o_eqRow {p : RW.Parts} (o : Oth) (F : EqD C k Cl (SEq Cl)) (hk : k ≤ C.room) (isi : IsiC C.K Cl) (hp : plainOk p) (ho : o.ok) : OpB C .Eq (.d (rowD Cl p)) (.d (o.d Cl)) μ (eqRow p o) := fun Q q => by
  obtain ⟨t, h1, h2⟩ := oth_ty isi o
  exact go_eq_own F hk h1 h2 (calls_P (c := SEq Cl) (p, o) ⟨hp, ho⟩ rfl rfl (fun o h => h) ⟨_, rfl, q⟩)
theorem o_neRow {p : RW.Parts} (o : Oth) (F : EqD C k Cl (SEq Cl)) (hk : k + 1 ≤ C.room) (isi : IsiC C.K Cl) (hp : plainOk p) (ho : o.ok) : OpB C .NotEq (.d (rowD Cl p)) (.d (o.d Cl)) μ (!eqRow p o) := fun Q q => by
  obtain ⟨t, h1, h2⟩ := oth_ty isi o
  exact go_ne_own F hk h1 h2 (calls_P (c := SEq Cl) (p, o) ⟨hp, ho⟩ rfl rfl (fun o h => h) ⟨_, rfl, q⟩)
end
theorem plain_eq_iff {p q : RW.Parts} (hl : p.left ≠ []) (hr : p.right ≠ []) (kl : q.left ≠ []) (kr : q.right ≠ []) : RW.plain p = RW.plain q ↔ ∀ i, RW.sgn p i = RW.sgn q i :=
  ⟨fun h i => by rw [← RW.sgn_plain hl hr i, h, RW.sgn_plain kl kr i], RW.plain_same hl hr kl kr⟩
theorem str_eq_iff {p q : RW.Parts} {lo hi : Int} : RW.str p lo hi = RW.str q lo hi ↔ ∀ i, lo ≤ i → i < hi → RW.sgn p i = RW.sgn q i := by
  constructor
  · intro h i h1 h2
    have e : (RW.str p lo hi)[(i - lo).toNat]? = (RW.str q lo hi)[(i - lo).toNat]? := by rw [h]
    rw [RW.str_get (by omega), RW.str_get (by omega)] at e
    have := Option.some.inj e
    rw [show lo + (((i - lo).toNat : Nat) : Int) = i by omega] at this
    exact this
  · intro h
    unfold RW.str
    apply List.map_congr_left
    intro i hi'
    obtain ⟨h1, h2⟩ := RW.ran_mem.mp hi'
    exact h i h1 h2
end
end DL
set_option maxRecDepth 100000
set_option maxHeartbeats 4000000
namespace DL
open PySem L2 PySem.Spec PyProof.Rows
abbrev s__law_signs_of : Stmt := top 26
def n__law_signs_of : List Str := ["_law_pieces"]
theorem sc__law_signs_of : FnScope n__law_signs_of ["_law_pieces"] (defScope s__law_signs_of) := ⟨rfl, rfl, rfl, by decide +kernel, rfl, by decide +kernel, by decide +kernel⟩
section
variable {C : SC}
/-! ### rows moved, their letters, rounds -/
def insN (c : Nat) : List Nat → List Nat
  | [] => [c]
  | d :: r => if c < d then c :: d :: r else if c = d then d :: r else d :: insN c r
def riseN : List Nat → List Nat
  | [] => []
  | c :: l => insN c (riseN l)
theorem insN_mem {c x : Nat} : ∀ {l : List Nat}, x ∈ insN c l ↔ x = c ∨ x ∈ l
  | [] => by simp [insN]
  | d :: r => by
    unfold insN
    split
    · simp
    · split
      · rename_i h
        subst h
        simp
      · rw [List.mem_cons, insN_mem, List.mem_cons]
        exact ⟨fun h => h.elim (fun e => .inr (.inl e)) fun h => h.elim .inl fun h => .inr (.inr h), fun h => h.elim (fun e => .inr (.inl e)) fun h => h.elim .inl fun h => .inr (.inr h)⟩
theorem insN_rise {c : Nat} : ∀ {l : List Nat}, l.Pairwise (· < ·) → (insN c l).Pairwise (· < ·)
  | [], _ => List.pairwise_singleton _ _
  | d :: r, h => by
    obtain ⟨h1, h2⟩ := List.pairwise_cons.mp h
    unfold insN
    split
    · rename_i hc
      exact List.pairwise_cons.mpr ⟨fun x hx => (List.mem_cons.mp hx).elim (fun e => e ▸ hc) fun e => Nat.lt_trans hc (h1 x e), h⟩
    · split
      · exact h
      · exact List.pairwise_cons.mpr ⟨fun x hx => (insN_mem.mp hx).elim (fun e => by omega) (h1 x), insN_rise h2⟩
theorem riseN_mem {x : Nat} : ∀ {l : List Nat}, x ∈ riseN l ↔ x ∈ l
  | [] => Iff.rfl
  | c :: l => by rw [riseN, insN_mem, riseN_mem, List.mem_cons]
theorem riseN_rise : ∀ {l : List Nat}, (riseN l).Pairwise (· < ·)
  | [] => List.Pairwise.nil
  | _ :: _ => insN_rise riseN_rise
theorem riseN_eq {l cs : List Nat} (h : cs.Pairwise (· < ·)) (m : ∀ c, c ∈ cs ↔ c ∈ l) : cs = riseN l :=
  rise_uniq (fun a b h1 h2 => by omega) h riseN_rise fun c => (m c).trans riseN_mem.symm
theorem insN_len {c : Nat} : ∀ {l : List Nat}, (insN c l).length ≤ l.length + 1
  | [] => Nat.le_refl _
  | d :: r => by
    have := @insN_len c r
    unfold insN
    split
    · simp
    · split <;> simp
      omega
theorem riseN_len : ∀ {l : List Nat}, (riseN l).length ≤ l.length
  | [] => Nat.le_refl _
  | c :: l => by
    have := @riseN_len l
    have := @insN_len c (riseN l)
    rw [riseN, List.length_cons]
    omega
theorem p_sortSetT {E : EPost} {ρ : Env} {μ : Mem} {e : Expr} {l : List Nat} {p p2 pos pos2 : Pos} (B : Blts C.mg) (g1 : C.Glob "sorted") (g2 : C.Glob "set") (h : PV C e ρ μ E (.d (.txt l))) (hz : l.length + 1 < scanBound)
    (he : ∀ env, starEach [e] env = (false, eval e env) :: starEach [] env := by intro _; rfl) (he2 : ∀ env, starEach [Expr.Call (.Name "set" p2) [e] [] pos2] env = (false, eval (.Call (.Name "set" p2) [e] [] pos2) env) :: starEach [] env := by intro _; rfl) :
    PV C (.Call (.Name "sorted" p) [.Call (.Name "set" p2) [e] [] pos2] [] pos) ρ μ E (.d (.lst (((riseN l).map fun c => [c]).map D.txt))) := fun Q q =>
  we_sortSetT B g1 g2 (h _ ⟨l, rfl, hz, fun cs h1 h2 => by
    rw [riseN_eq h1 h2]
    rw [List.map_map] at q
    exact q⟩) he he2
def lettersOf (p : RW.Parts) : List Nat := riseN (p.left ++ p.part ++ p.right)
/-- the plain telling of a row moved -/
def mv (p : RW.Parts) (k : Int) : RW.Parts := if p.part = [] ∧ p.left = p.right then RW.plain (RW.ring (RW.str p k (k + p.left.length))) else RW.plain (RW.shift p k)
def mvOk (p : RW.Parts) (k : Int) : Prop := isRow p = true ∧ -100000000 ≤ p.at_ - k ∧ p.at_ - k ≤ 100000000 ∧ -1000000000 ≤ k ∧ k ≤ 1000000000
theorem isRound_side {w : List Nat} (h : sideOk w) : isRound w = true := by
  obtain ⟨h1, h2, h3⟩ := h
  unfold isRound areLetters
  have s : (w.all fun c => decide (c ∈ small)) = true := List.all_eq_true.mpr fun c hc => decide_eq_true (h3 c hc)
  simp only [s, Bool.and_eq_true, decide_eq_true_eq, and_true]
  omega
theorem ring_row {w : List Nat} (h : sideOk w) : isRow (RW.ring w) = true := isRow_of h ⟨by show 0 ≤ 400; decide, fun c hc => (List.not_mem_nil hc).elim⟩ h ⟨by show (-100000000 : Int) ≤ 0; decide, by show (0 : Int) ≤ 100000000; decide⟩
theorem str_side {p : RW.Parts} (hp : isRow p = true) (k : Int) : sideOk (RW.str p k (k + p.left.length)) := by
  obtain ⟨⟨a1, a2, a3⟩, b, c, _⟩ := isRow_side hp
  obtain ⟨l1, l2, _⟩ := isRow_low hp
  refine ⟨?_, ?_, fun x hx => row_small hp x (RW.str_mem l1 l2 hx)⟩
  · rw [RW.str_len]; omega
  · rw [RW.str_len]; omega
theorem shift_row {p : RW.Parts} {k : Int} (hp : isRow p = true) (h : -100000000 ≤ p.at_ - k ∧ p.at_ - k ≤ 100000000) : isRow (RW.shift p k) = true := by
  obtain ⟨a, b, c, _⟩ := isRow_side hp
  exact isRow_of a b c h
theorem sgn_mv {p : RW.Parts} (hp : isRow p = true) (k i : Int) : RW.sgn (mv p k) i = RW.sgn p (i + k) := by
  obtain ⟨l1, l2, _⟩ := isRow_low hp
  unfold mv
  split
  · rename_i h
    have sd := str_side hp k
    have ne : RW.str p k (k + p.left.length) ≠ [] := fun z => by have := sd.1; rw [z] at this; simp at this
    rw [RW.sgn_plain (p := RW.ring (RW.str p k (k + p.left.length))) ne ne, RW.sgn_ring]
    have n0 : 0 < p.left.length := List.length_pos_iff.mpr l1
    have := RW.cyc_str (f := RW.sgn p) (n := p.left.length) (by omega) (fun j => by
      rw [RW.sgn_one h.1 h.2, RW.sgn_one h.1 h.2, show j + (p.left.length : Int) - p.at_ = (j - p.at_) + p.left.length by omega, RW.ring_turn]) k i
    rw [Int.add_comm i k]
    exact this
  · rw [RW.sgn_plain (p := RW.shift p k) l1 l2, RW.sgn_shift]
/-- moved rows are plain tellings -/
theorem mv_plain {p : RW.Parts} {k : Int} (h : mvOk p k) : ∃ q, isRow q = true ∧ mv p k = RW.plain q ∧ (∀ i, RW.sgn q i = RW.sgn p (i + k)) ∧ (q.at_ = 0 ∨ q.at_ = p.at_ - k) := by
  obtain ⟨hp, h1, h2, _⟩ := h
  obtain ⟨l1, l2, _⟩ := isRow_low hp
  have s := fun i => sgn_mv hp k i
  unfold mv at s ⊢
  split
  · rename_i hc
    rw [if_pos hc] at s
    have sd := str_side hp k
    have ne : RW.str p k (k + p.left.length) ≠ [] := fun z => by have := sd.1; rw [z] at this; simp at this
    exact ⟨_, ring_row sd, rfl, fun i => by rw [← s i, RW.sgn_plain (p := RW.ring (RW.str p k (k + p.left.length))) ne ne], .inl rfl⟩
  · exact ⟨_, shift_row hp ⟨h1, h2⟩, rfl, fun i => RW.sgn_shift p k i, .inr rfl⟩
abbrev SMsign (Cl : Addr) : Con := cP2 (fun p : RW.Parts => rowD Cl p) D.int (fun p _ => Parts.ok p) fun p i => .txt [RW.sgn p i]
abbrev SMstr (Cl : Addr) : Con := cP3 (fun p : RW.Parts => rowD Cl p) D.int D.int Ends2 fun p lo hi => .txt (RW.str p lo hi)
abbrev SMmv (Cl : Addr) : Con := cP2 (fun p : RW.Parts => rowD Cl p) D.int mvOk fun p k => rowD Cl (mv p k)
abbrev SMlet (Cl : Addr) : Con := cP1 (fun p : RW.Parts => rowD Cl p) (fun p => Parts.low p) fun p => .txt (lettersOf p)
abbrev SRing (Cl : Addr) : Con := cP1 TX sideOk fun w => rowD Cl (RW.plain (RW.ring w))
theorem B_Row_sign {Cl : Addr} (GC : GCls C Cl) (F_sign_by : FnD C 1 "sign_by" ["parts", "place"] SSign) : Body C (SMsign Cl) n_Row_sign s_Row_sign 1 := by
  have nd : n_Row_sign.Nodup := sc_Row_sign.nd
  exact body_P (c := SMsign Cl) (fun a => .txt [RW.sgn a.1 a.2]) (fun _ => rfl) (fun _ => rfl) fun a hp => w1_retQ (p_call2 (a := a.1) (b := a.2) F_sign_by.to (Nat.le_refl 1) rfl (p_fld GC.cls GC.no_plain (p_vr 0 rfl rfl) rfl) (p_vr 1 rfl rfl) hp) rfl
theorem B_Row_stretch {Cl : Addr} (GC : GCls C Cl) (F_stretch_by : FnD C 2 "stretch_by" ["parts", "begin", "end"] SStr) : Body C (SMstr Cl) n_Row_stretch s_Row_stretch 2 := by
  have nd : n_Row_stretch.Nodup := sc_Row_stretch.nd
  exact body_P (c := SMstr Cl) (fun a => .txt (RW.str a.1 a.2.1 a.2.2)) (fun _ => rfl) (fun _ => rfl) fun a hp => w1_retQ (p_call3 (a := a.1) (b := a.2.1) (c := a.2.2) F_stretch_by.to (Nat.le_refl 2) rfl (p_fld GC.cls GC.no_plain (p_vr 0 rfl rfl) rfl) (p_vr 1 rfl rfl) (p_vr 2 rfl rfl) hp) rfl
theorem B_round_row {Cl : Addr} (F_Row : MkD C 4 "Row" Cl ["self", "left", "part", "right", "at"] (cRow Cl)) : Body C (SRing Cl) n_round_row s_round_row 5 := by
  have nd : n_round_row.Nodup := sc_round_row.nd
  exact body_P (c := SRing Cl) (fun w => rowD Cl (RW.plain (RW.ring w))) (fun _ => rfl) (fun _ => rfl) fun (w : List Nat) hw => w1_retW (we_make F_Row.to (Nat.le_refl 5) rfl rfl ((pa_cs (p_vr 0 rfl rfl) (pa_cs (p_txt (l := []) rfl) (pa_cs (p_vr 0 rfl rfl) (pa_cs p_int pa_nl)))) _ ⟨rfl, make_row (p := RW.ring w) (ring_row hw) rfl⟩))
theorem B_Row_moved {Cl : Addr} (GC : GCls C Cl) (F_Row : MkD C 4 "Row" Cl ["self", "left", "part", "right", "at"] (cRow Cl)) (F_round : FnD C 6 "round_row" ["word"] (SRing Cl)) (F_str : MtD C 3 Cl "stretch" ["self", "begin", "end"] (SMstr Cl)) (B : Blts C.mg) : Body C (SMmv Cl) n_Row_moved s_Row_moved 6 := by
  have nd : n_Row_moved.Nodup := sc_Row_moved.nd
  refine body_P (c := SMmv Cl) (fun a => rowD Cl (mv a.1 a.2)) (fun _ => rfl) (fun _ => rfl) fun a hp => ?_
  obtain ⟨p, k⟩ := a
  have hp : mvOk p k := hp
  obtain ⟨hr, h1, h2, h3, h4⟩ := id hp
  obtain ⟨l1, l2, lb1, lb2, lb3, lb4, lb5⟩ := isRow_low hr
  refine ws_cons (w1_asg (t := .tp [2, 3, 4, 5]) (.tp (.cons (.of nd) (.cons (.of nd) (.cons (.of nd) (.cons (.of nd) .nil))))) (PV.go (p_fld GC.cls GC.no_plain (p_vr 0 rfl rfl) (d := Parts.d p) rfl) ⟨_, ⟨_, rfl, rfl, rfl⟩, ?_⟩))
  refine ws_cons (PB.ite (b_bool (w_and (b_cmp (p_vr 3 rfl rfl) (p_txt (l := []) rfl) o_eqT) fun hb => w_and1 (b_cmp (p_vr 2 rfl rfl) (p_vr 4 rfl rfl) o_eqT))) (fun hc => ?_) (fun hc => ?_))
  · rw [Bool.and_eq_true, decide_eq_true_eq, decide_eq_true_eq] at hc
    refine w1_retQ (PV.eq (p_call1 (a := RW.str p k (k + p.left.length)) F_round.to (Nat.le_refl 6) rfl (PV.eq (p_meth2 p (b := k) (c := k + p.left.length) F_str.to (by show 3 ≤ 6; decide) (p_vr 0 rfl rfl) rfl (by decide) (p_vr 1 rfl rfl) (p_addI (p_vr 1 rfl rfl) (p_lenT B.len rfl (p_vr 2 rfl rfl) (sz_of (by omega)))) ⟨(isRow_low hr).ok, by omega, by omega, by omega, by omega, by omega⟩) rfl) (str_side hr k)) rfl) ?_
    show XV.d _ = XV.d (rowD Cl (mv p k))
    unfold mv
    rw [if_pos hc]
  · have hc' : ¬ (p.part = [] ∧ p.left = p.right) := fun z => by
      rw [decide_eq_true z.1, decide_eq_true z.2] at hc
      cases hc
    refine ws_nil ?_
    refine w1_retW (we_make F_Row.to (by show 5 ≤ 6; decide) rfl rfl ((pa_cs (p_vr 2 rfl rfl) (pa_cs (p_vr 3 rfl rfl) (pa_cs (p_vr 4 rfl rfl) (pa_cs (p_subI (p_vr 5 rfl rfl) (p_vr 1 rfl rfl)) pa_nl)))) _ ⟨rfl, make_row (p := RW.shift p k) (shift_row hr ⟨h1, h2⟩) ?_⟩))
    show XV.d _ = XV.d (rowD Cl (mv p k))
    unfold mv
    rw [if_neg hc']
theorem F_Row_signs {Cl : Addr} (B : Blts C.mg) (GC : GCls C Cl) (h : Mn C Cl "signs" "Row.signs" s_Row_signs ["self"]) : MtD C 1 Cl "signs" ["self"] (SMlet Cl) := by
  have nd : n_Row_signs.Nodup := sc_Row_signs.nd
  refine h.p1 GC.cls sc_Row_signs fun p hp => ?_
  obtain ⟨h1, h2, h3, h4, h5, _⟩ := hp
  have fl : ∀ {ρ : Env}, ρ[0]? = some (some (.d (rowD Cl p))) → ∀ {pos pos2}, PV (C.defC n_Row_signs (defScope s_Row_signs) 0) (.Attribute (.Name "self" pos) "plain" pos2) ρ [] noE (.d (Parts.d p)) := fun hr => p_fld GC.cls GC.no_plain (p_vr 0 rfl hr) rfl
  refine w1_retQ (PV.eq (p_join (ls := (lettersOf p).map fun c => [c]) (p_txt (l := []) rfl) (p_sortSetT B rfl rfl (p_addT (p_addT (ix0 (fl rfl)) (ix1 (fl rfl)) (sz_of (by omega))) (ix2 (fl rfl)) (sz_of (by rw [List.length_append]; omega))) ?_) ?_) ?_) rfl
  · have : scanBound = 4096 := by decide
    rw [List.length_append, List.length_append]
    omega
  · have := @riseN_len (p.left ++ p.part ++ p.right)
    rw [List.length_append, List.length_append] at this
    rw [sum_one, List.length_nil, Nat.mul_zero]
    show (riseN _).length + 0 ≤ _
    omega
  · rw [joinL_ones]
end
end DL
set_option maxRecDepth 100000
set_option maxHeartbeats 4000000
namespace DL
open PySem L2 PySem.Spec PyProof.Rows
abbrev s__law_moves_right : Stmt := top 27
def n__law_moves_right : List Str := ["_law_state", "_law_row_here", "_law_pieces", "_law_long", "_law_one", "_law_other", "_law_moved", "_law_far_here", "_law_first", "_law_close_by", "_law_shifted"]
theorem sc__law_moves_right : FnScope n__law_moves_right ["_law_state", "_law_row_here", "_law_pieces"] (defScope s__law_moves_right) := ⟨rfl, rfl, rfl, by decide +kernel, rfl, by decide +kernel, by decide +kernel⟩
abbrev s__law_round_right : Stmt := top 28
def n__law_round_right : List Str := ["_law_text", "_law_spot", "_law_row_here"]
theorem sc__law_round_right : FnScope n__law_round_right ["_law_text", "_law_spot"] (defScope s__law_round_right) := ⟨rfl, rfl, rfl, by decide +kernel, rfl, by decide +kernel, by decide +kernel⟩
section
variable {C : SC}
/-! ### the law k05 -/
theorem pa_go {ρ : Env} {μ : Mem} {E : EPost} {es : List Expr} {xs : List XV} {Q : List XV → Mem → Prop} (h : PA C es ρ μ E xs) (q : Q xs μ) : WA C es ρ μ E Q := h Q q
theorem pk_go {ρ : Env} {μ : Mem} {E : EPost} {es : List Keyword} {xs : List XV} {Q : List XV → Mem → Prop} (h : PK C es ρ μ E xs) (q : Q xs μ) : WK C es ρ μ E Q := h Q q
theorem p_mulT' {ρ : Env} {μ : Mem} {E : EPost} {a b : Expr} {pos : Pos} {s : List Nat} {k : Int} (h1 : PV C a ρ μ E (.d (.txt s))) (h2 : PV C b ρ μ E (.d (.int k))) (hb : 0 ≤ k ∧ k ≤ 1000) (hz : s.length ≤ 1000) : PV C (.BinOp a .Mult b pos) ρ μ E (.d (.txt (RW.again s k.toNat))) :=
  p_mulT h1 h2 ⟨by omega, by omega⟩ (sz_of (Nat.le_trans (Nat.mul_le_mul hz (by omega : k.toNat ≤ 1000)) (by decide)))
theorem F_law_signs_of (B : Blts C.mg) (D1 : Dn C "_law_signs_of" s__law_signs_of ["_law_pieces"]) : FnD C 1 "_law_signs_of" ["_law_pieces"] (cP1 Parts.d Parts.low fun p => .txt (lettersOf p)) := by
  have nd : n__law_signs_of.Nodup := sc__law_signs_of.nd
  refine D1.p1 sc__law_signs_of fun p hp => ?_
  obtain ⟨h1, h2, h3, h4, h5, _⟩ := hp
  refine w1_retP (PV.eq (p_join (ls := (lettersOf p).map fun c => [c]) (p_txt (l := []) rfl) (p_sortSetT B rfl rfl (p_addT (p_addT (ix0 (p_vr 0 rfl rfl)) (ix1 (p_vr 0 rfl rfl)) (sz_of (by omega))) (ix2 (p_vr 0 rfl rfl)) (sz_of (by rw [List.length_append]; omega))) ?_) ?_) ?_)
  · have : scanBound = 4096 := by decide
    rw [List.length_append, List.length_append]
    omega
  · have := @riseN_len (p.left ++ p.part ++ p.right)
    rw [List.length_append, List.length_append] at this
    rw [sum_one, List.length_nil, Nat.mul_zero]
    show (riseN _).length + 0 ≤ _
    omega
  · rw [joinL_ones]
theorem plain_ok {p : RW.Parts} (hp : isRow p = true) : plainOk (RW.plain p) := ⟨(plain_R hp).plain, (plain_R hp).depth⟩
theorem plain_row2 {p : RW.Parts} (h : isRow p = true) (h1 : -100000000 ≤ (RW.plain p).at_) (h2 : (RW.plain p).at_ ≤ 100000000) : isRow (RW.plain p) = true := by
  have s := row_small h
  obtain ⟨⟨a1, a2, a3⟩, ⟨m1, m2⟩, ⟨b1, b2, b3⟩, _⟩ := isRow_side h
  obtain ⟨l1, l2, _⟩ := isRow_low h
  obtain ⟨⟨c1, c2⟩, ⟨d1, d2⟩, e1, f1, f2, g⟩ := RW.plain_told l1 l2
  have n1 := List.length_pos_iff.mpr c1
  have n2 := List.length_pos_iff.mpr d1
  exact isRow_of (a := (RW.plain p).left) (m := (RW.plain p).part) (r := (RW.plain p).right) (i := (RW.plain p).at_) ⟨by omega, by omega, fun c hc => s c (g c (.inl hc))⟩ ⟨by omega, fun c hc => s c (g c (.inr (.inl hc)))⟩ ⟨by omega, by omega, fun c hc => s c (g c (.inr (.inr hc)))⟩ ⟨h1, h2⟩
/-- what the law knows of a drawn row -/
def Drawn (p : RW.Parts) : Prop := isRow p = true ∧ -99998000 ≤ p.at_ ∧ p.at_ ≤ 99998000
def cMoves (Cl : Addr) : Con := cSt RW.Parts (fun p => [rowD Cl (RW.plain p), Parts.d p]) Drawn fun _ d => d = .bl true
theorem plain_at {p : RW.Parts} (hp : isRow p = true) : (p.at_ ≤ (RW.plain p).at_ ∨ (RW.plain p).at_ = 0) ∧ ((RW.plain p).at_ ≤ p.at_ + 800 ∨ (RW.plain p).at_ = 0) := by
  obtain ⟨a, m, b, _⟩ := isRow_side hp
  obtain ⟨l1, l2, _⟩ := isRow_low hp
  obtain ⟨_, _, _, f1, f2, _⟩ := RW.plain_told l1 l2
  obtain ⟨a1, a2, a3⟩ := a
  obtain ⟨b1, b2, b3⟩ := b
  obtain ⟨m1, m2⟩ := m
  exact ⟨f1, f2.elim (fun h => .inl (by omega)) .inr⟩
theorem same_moved {p : RW.Parts} (hp : isRow p = true) {k : Int} (k1 : -100 ≤ k) (k2 : k ≤ 100) {a b : Int} (ea : a = p.at_ - (RW.far p + 100)) (eb : b = p.at_ + p.part.length + (RW.far p + 100)) :
    RW.str p (a + k) (b + k) = RW.str p a b ↔ ∀ i, RW.sgn p (i + k) = RW.sgn p i := by
  obtain ⟨l1, l2, _⟩ := isRow_low hp
  have f1 : 2 * (p.left.length : Int) + 10 ≤ RW.far p := by unfold RW.far; split <;> omega
  have f2 : 2 * (p.right.length : Int) + 10 ≤ RW.far p := by unfold RW.far; split <;> omega
  have e1 : RW.str p (a + k) (b + k) = RW.str (RW.shift p k) a b := by
    apply List.ext_getElem?
    intro n
    by_cases hn : n < (b - a).toNat
    · rw [RW.str_get (by omega), RW.str_get hn, RW.sgn_shift]
      congr 2
      omega
    · rw [List.getElem?_eq_none (by rw [RW.str_len]; omega), List.getElem?_eq_none (by rw [RW.str_len]; omega)]
  rw [e1, str_eq_iff]
  have n1 : 0 < p.left.length := List.length_pos_iff.mpr l1
  have n2 : 0 < p.right.length := List.length_pos_iff.mpr l2
  constructor
  · intro h i
    have e2 : p.behind = p.at_ + (p.part.length : Int) := rfl
    have e3 : (RW.shift p k).behind = p.at_ - k + (p.part.length : Int) := rfl
    have e4 : (RW.shift p k).at_ = p.at_ - k := rfl
    have := RW.same_by (p := p) (q := RW.shift p k) l1 l2 rfl rfl (lo := a) (hi := b) (a := p.at_ - 100) (c := p.at_ + p.part.length + 100) (by omega) (by omega) (by omega) (by omega) (by omega) (by omega) (fun j j1 j2 => (h j j1 j2).symm) i
    rw [RW.sgn_shift] at this
    exact this.symm
  · intro h i _ _
    rw [RW.sgn_shift]
    exact h i
section
variable {Cl : Addr}
theorem F_law_moves (B : Blts C.mg) (isi : IsiC C.K Cl) (F_draw : FnD C 1 "_law_draw" ["_law_state", "_law_size_of"] cDraw) (F_far : FnD C 1 "_law_far" ["_law_pieces"] (cP1 Parts.d Parts.low fun p => .int (RW.far p))) (F_stretch : FnD C 2 "_law_stretch" ["_law_pieces", "_law_first", "_law_close_by"] SStr)
    (F_str : MtD C 3 Cl "stretch" ["self", "begin", "end"] (SMstr Cl)) (F_mv : MtD C 7 Cl "moved" ["self", "by"] (SMmv Cl)) (F_mvK : MtK C 7 Cl "moved" ["self", "by"] (SMmv Cl) 1 ["by"] [0, 1]) (F_eq : EqD C 1 Cl (SEq Cl)) (D1 : Dn C "_law_moves_right" s__law_moves_right ["_law_state", "_law_row_here", "_law_pieces"]) : FnD C 8 "_law_moves_right" ["_law_state", "_law_row_here", "_law_pieces"] (cMoves Cl) := by
  have nd : n__law_moves_right.Nodup := sc__law_moves_right.nd
  have k1 : 1 ≤ (7 : Nat) := by decide
  have k2 : 2 ≤ (7 : Nat) := by decide
  have k3 : 3 ≤ (7 : Nat) := by decide
  refine D1.sto sc__law_moves_right (fun _ _ => rfl) fun S p hS hp => ?_
  obtain ⟨hp, at1, at2⟩ := hp
  obtain ⟨l1, l2, lb1, lb2, lb3, lb4, lb5⟩ := isRow_low hp
  have ppr : isRow (RW.plain p) = true := plain_row hp at1 (by omega)
  obtain ⟨m1, m2, _⟩ := isRow_low ppr
  obtain ⟨pa1, pa2⟩ := plain_at hp
  have lop := (isRow_low hp).ok
  have hf : 0 ≤ RW.far p ∧ RW.far p ≤ 1000 := by unfold RW.far; split <;> omega
  have sp := fun i => RW.sgn_plain l1 l2 i
  change WS _ _ (startE _ [.l 1, .d (rowD Cl (RW.plain p)), .d (Parts.d p)]) _ _ _
  -- long
  refine ws_cons (w1_set (i := 3) (.of nd) (PV.go (p_ifI (b_cmp (ix3 (p_vr 2 rfl rfl)) p_int o_gt) (fun hc => p_powI (i := 10) (k := 6) p_int p_int ⟨by decide, by decide, by decide⟩) (fun hc => p_subI p_int (p_powI (i := 10) (k := 6) p_int p_int ⟨by decide, by decide, by decide⟩))) ?_))
  generalize hl : (if decide (0 < p.at_) = true then (10 : Int) ^ (6 : Int).toNat else 0 - 10 ^ (6 : Int).toNat) = long
  have hlong : (0 < p.at_ ∧ long = 1000000) ∨ (p.at_ ≤ 0 ∧ long = -1000000) := by
    rw [← hl]
    by_cases h : 0 < p.at_
    · exact .inl ⟨h, by rw [if_pos (decide_eq_true h)]; rfl⟩
    · exact .inr ⟨by omega, by rw [if_neg (by rw [decide_eq_false h]; decide)]; rfl⟩
  -- one, other
  refine ws_cons (w1_pr (i := 4) (j := 5) (.of nd) (.of nd) (by decide) (we_bin (we_draw (n := 200) F_draw.to k1 rfl (p_vr 0 rfl rfl) p_int hS ⟨by decide, by decide⟩ fun r S hS r1 r2 => PV.go p_int (go_sub_int ?_))))
  refine we_ix (we_lst (wa_cons (PV.go p_int (wa_cons (PV.go p_int (wa_cons (PV.go (p_vr 3 rfl rfl) (wa_cons (PV.go p_int (wa_cons (we_bin (we_draw (n := 900) F_draw.to k1 rfl (p_vr 0 rfl rfl) p_int hS ⟨by decide, by decide⟩ fun t S hS t1 t2 => PV.go p_int (go_sub_int (wa_nil ⟨_, rfl, by show 5 ≤ sizeLine; decide, ?_⟩))))))))))))))
  refine we_draw (n := 5) F_draw.to k1 rfl (p_vr 0 rfl rfl) p_int hS ⟨by decide, by decide⟩ fun u S hS u1 u2 => ?_
  obtain ⟨d, hd, o, rfl, ho⟩ := atI_all (l := [D.int 0, D.int 1, D.int long, D.int 30, D.int (t - 450)]) (P := fun d => ∃ z : Int, d = .int z ∧ (z = long ∨ -450 ≤ z ∧ z ≤ 450)) (by
    intro d hd
    simp only [List.mem_cons, List.not_mem_nil, or_false] at hd
    rcases hd with rfl | rfl | rfl | rfl | rfl
    · exact ⟨0, rfl, .inr ⟨by decide, by decide⟩⟩
    · exact ⟨1, rfl, .inr ⟨by decide, by decide⟩⟩
    · exact ⟨_, rfl, .inl rfl⟩
    · exact ⟨30, rfl, .inr ⟨by decide, by decide⟩⟩
    · exact ⟨_, rfl, .inr ⟨by omega, by omega⟩⟩) u1 u2
  refine gi_lst hd ?_
  generalize hone : r - 100 = one
  have one1 : -100 ≤ one := by omega
  have one2 : one ≤ 99 := by omega
  have mo1 : mvOk (RW.plain p) one := ⟨ppr, by omega, by omega, by omega, by omega⟩
  have mo2 : mvOk (RW.plain p) (one + o) := ⟨ppr, by omega, by omega, by omega, by omega⟩
  obtain ⟨q, hq, eq1, sq, aq⟩ := mv_plain mo1
  obtain ⟨q2, hq2, eq2, sq2, aq2⟩ := mv_plain mo2
  obtain ⟨n1, n2, nb1, nb2, nb3, nb4, nb5⟩ := isRow_low hq
  obtain ⟨o1, o2, _⟩ := isRow_low hq2
  obtain ⟨qa1, qa2⟩ := plain_at hq
  have qat : (RW.plain q).at_ = (RW.plain p).at_ - one ∨ (RW.plain q).at_ = 0 := RW.plain_move l1 l2 n1 n2 fun i => by rw [sq, sp]
  have qpr : isRow (RW.plain q) = true := plain_row2 hq (by omega) (by omega)
  have sqp := fun i => RW.sgn_plain n1 n2 i
  -- moved, far
  refine ws_cons (w1_pr (i := 6) (j := 7) (.of nd) (.of nd) (by decide) (PV.go (PV.eq (p_meth1 (RW.plain p) (b := one) F_mv.to (Nat.le_refl 7) (p_vr 1 rfl rfl) rfl (by decide) (p_vr 4 rfl rfl) mo1) (by rw [eq1]) (v' := .d (rowD Cl (RW.plain q)))) (PV.go (p_addI (PV.eq (p_call1 (a := p) F_far.to k1 rfl (p_vr 2 rfl rfl) (isRow_low hp)) rfl) p_int) ?_)))
  refine ws_cons (w1_pr (i := 8) (j := 9) (.of nd) (.of nd) (by decide) (PV.go (p_subI (ix3 (p_vr 2 rfl rfl)) (p_vr 7 rfl rfl)) (PV.go (p_addI (p_addI (ix3 (p_vr 2 rfl rfl)) (p_lenT B.len rfl (ix1 (p_vr 2 rfl rfl)) (sz_of (by omega)))) (p_vr 7 rfl rfl)) ?_)))
  generalize hlo : p.at_ - (RW.far p + 100) = lo
  generalize hhi : p.at_ + (p.part.length : Int) + (RW.far p + 100) = hi
  refine ws_cons (w1_set (i := 10) (.of nd) (PV.go (p_call3 (a := p) (b := lo + one) (c := hi + one) F_stretch.to k2 rfl (p_vr 2 rfl rfl) (p_addI (p_vr 8 rfl rfl) (p_vr 4 rfl rfl)) (p_addI (p_vr 9 rfl rfl) (p_vr 4 rfl rfl)) ⟨lop, by omega, by omega, by omega, by omega, by omega⟩) ?_))
  have es : RW.str (RW.plain q) lo (lo + 900) = RW.str p (lo + one) (lo + 900 + one) := by
    apply List.ext_getElem?
    intro n
    by_cases hn : n < 900
    · rw [RW.str_get (by omega), RW.str_get (by omega), sqp, sq, sp]
      congr 2
      omega
    · rw [List.getElem?_eq_none (by rw [RW.str_len]; omega), List.getElem?_eq_none (by rw [RW.str_len]; omega)]
  refine ws_cons (PB.ite (PB.eq (k' := false) (b_cmp (PV.eq (p_meth2 (RW.plain q) (b := lo) (c := lo + 900) F_str.to k3 (p_vr 6 rfl rfl) rfl (by decide) (p_vr 8 rfl rfl) (p_addI (p_vr 8 rfl rfl) p_int) ⟨(isRow_low qpr).ok, by omega, by omega, by omega, by omega, by omega⟩) rfl) (PV.eq (p_call3 (a := p) (b := lo + one) (c := lo + 900 + one) F_stretch.to k2 rfl (p_vr 2 rfl rfl) (p_addI (p_vr 8 rfl rfl) (p_vr 4 rfl rfl)) (p_addI (p_addI (p_vr 8 rfl rfl) p_int) (p_vr 4 rfl rfl)) ⟨lop, by omega, by omega, by omega, by omega, by omega⟩) rfl) o_neT) (by rw [es]; simp)) (fun hc => nomatch hc) (fun hc => ?_))
  refine ws_nil ?_
  -- moved on, moved back
  have mo3 : mvOk (RW.plain q) o := ⟨qpr, by omega, by omega, by omega, by omega⟩
  have mo4 : mvOk (RW.plain q) (-one) := ⟨qpr, by omega, by omega, by omega, by omega⟩
  obtain ⟨q3, hq3, eq3, sq3, _⟩ := mv_plain mo3
  obtain ⟨q4, hq4, eq4, sq4, _⟩ := mv_plain mo4
  obtain ⟨r1, r2, _⟩ := isRow_low hq3
  obtain ⟨t1, t2, _⟩ := isRow_low hq4
  have e3 : RW.plain q3 = RW.plain q2 := RW.plain_same r1 r2 o1 o2 fun i => by rw [sq3, sqp, sq, sq2]; congr 1; omega
  have e4 : RW.plain q4 = RW.plain p := RW.plain_same t1 t2 l1 l2 fun i => by rw [sq4, sqp, sq, sp]; congr 1; omega
  have okq := plain_ok hq
  have okq2 := plain_ok hq2
  have okp := plain_ok hp
  refine ws_cons (PB.ite (PB.eq (k' := false) (b_bool (w_or (b_not (b_cmp (PV.eq (p_meth1 (RW.plain q) (b := o) F_mv.to (Nat.le_refl 7) (p_vr 6 rfl rfl) rfl (by decide) (p_vr 5 rfl rfl) mo3) (by rw [eq3, e3]) (v' := .d (rowD Cl (RW.plain q2)))) (fun Q z => we_methK0 (ix := [0]) (ks := ["by"]) F_mvK.to (Nat.le_refl 7) (PV.go (p_vr 1 rfl rfl) ⟨_, _, rfl, (by decide), pk_go (pk_cs (p_addI (p_vr 4 rfl rfl) (p_vr 5 rfl rfl)) pk_nl) ⟨rfl, calls_P (c := SMmv Cl) (RW.plain p, one + o) mo2 rfl rfl (fun o h => h) (by show Q (.d (rowD Cl (mv (RW.plain p) (one + o)))) _; rw [eq2]; exact z)⟩⟩)) (o_eqRow (.row (RW.plain q2)) F_eq.to k1 isi okq2 okq2))) fun hb => w_or1 (b_not (b_cmp (PV.eq (p_meth1 (RW.plain q) (b := -one) F_mv.to (Nat.le_refl 7) (p_vr 6 rfl rfl) rfl (by decide) (p_negI (p_vr 4 rfl rfl)) mo4) (by rw [eq4, e4]) (v' := .d (rowD Cl (RW.plain p)))) (p_vr 1 rfl rfl) (o_eqRow (.row (RW.plain p)) F_eq.to k1 isi okp okp))))) (by simp [eqRow])) (fun hc => nomatch hc) (fun hc => ?_))
  refine ws_nil ?_
  refine w1_retQ (PV.eq (p_cmp (p_cmp (p_vr 6 rfl rfl) (p_vr 1 rfl rfl) (o_eqRow (.row (RW.plain p)) F_eq.to k1 isi okq okp)) (p_cmp (p_vr 10 rfl rfl) (PV.eq (p_call3 (a := p) (b := lo) (c := hi) F_stretch.to k2 rfl (p_vr 2 rfl rfl) (p_vr 8 rfl rfl) (p_vr 9 rfl rfl) ⟨lop, by omega, by omega, by omega, by omega, by omega⟩) rfl) o_eqT) o_eqB) (v' := .d (.bl true)) ?_) ⟨.bl true, S, [], rfl, rfl, hS, rfl⟩
  have e5 : eqRow (RW.plain q) (.row (RW.plain p)) = decide (RW.str p (lo + one) (hi + one) = RW.str p lo hi) := by
    show decide (RW.plain q = RW.plain p) = _
    rw [decide_eq_decide, same_moved hp one1 (by omega) hlo.symm hhi.symm, plain_eq_iff n1 n2 l1 l2]
    exact ⟨fun h i => by have := h i; rw [sq, sp] at this; exact this, fun h i => by rw [sq, sp]; exact h i⟩
  rw [e5, decide_eq_true rfl]
/-- a text that goes round -/
theorem F_law_round_right (B : Blts C.mg) (isi : IsiC C.K Cl) (F_Row : MkD C 4 "Row" Cl ["self", "left", "part", "right", "at"] (cRow Cl)) (F_round : FnD C 6 "round_row" ["word"] (SRing Cl)) (F_roundK : FnK C 6 "round_row" ["word"] (SRing Cl) 0 ["word"] [0]) (F_told : MtD C 1 Cl "told" ["self"] (cP1 (fun p : RW.Parts => rowD Cl p) (fun _ => True) Parts.d))
    (F_sign : MtD C 2 Cl "sign" ["self", "place"] (SMsign Cl)) (F_str : MtD C 3 Cl "stretch" ["self", "begin", "end"] (SMstr Cl)) (F_mv : MtD C 7 Cl "moved" ["self", "by"] (SMmv Cl)) (F_eq : EqD C 1 Cl (SEq Cl)) (D1 : Dn C "_law_round_right" s__law_round_right ["_law_text", "_law_spot"]) :
    FnD C 8 "_law_round_right" ["_law_text", "_law_spot"] (cP2 TX D.int (fun w _ => sideOk w) fun _ _ => .bl true) := by
  have nd : n__law_round_right.Nodup := sc__law_round_right.nd
  have k1 : 1 ≤ (7 : Nat) := by decide
  have k2 : 2 ≤ (7 : Nat) := by decide
  have k3 : 3 ≤ (7 : Nat) := by decide
  refine D1.p2 sc__law_round_right fun w spot hw => ?_
  obtain ⟨w1, w2, w3⟩ := id hw
  have ne : w ≠ [] := fun z => by rw [z] at w1; simp at w1
  have hp := ring_row hw
  generalize hpd : RW.plain (RW.ring w) = p
  have ppr : isRow p = true := by rw [← hpd]; exact plain_row hp (by show (-99998000 : Int) ≤ 0; decide) (by show (0 : Int) ≤ 99999000; decide)
  obtain ⟨b, hb⟩ := RW.plain_ring ne
  rw [hpd] at hb
  have pat : p.at_ = 0 := by rw [hb]
  have sp : ∀ i, RW.sgn p i = RW.cyc w i := fun i => by rw [← hpd, RW.sgn_plain (p := RW.ring w) ne ne, RW.sgn_ring]
  have okp : plainOk p := by rw [← hpd]; exact plain_ok hp
  have lop := (isRow_low ppr).ok
  obtain ⟨m1, m2, _⟩ := isRow_low ppr
  have mo : mvOk p w.length := ⟨ppr, by omega, by omega, by omega, by omega⟩
  obtain ⟨q, hq, eq1, sq, _⟩ := mv_plain mo
  obtain ⟨n1, n2, _⟩ := isRow_low hq
  have e1 : RW.plain q = p := by
    rw [← hpd]
    exact RW.plain_same n1 n2 ne ne fun i => by rw [sq, sp, RW.ring_turn, RW.sgn_ring]
  refine ws_cons (w1_set (i := 2) (.of nd) (PV.go (PV.eq (p_call1 (a := w) F_round.to (by show 6 ≤ 7; decide) rfl (p_vr 0 rfl rfl) hw) (by rw [hpd]) (v' := .d (rowD Cl p))) ?_))
  have r0 := Int.emod_nonneg spot (by omega : (w.length : Int) ≠ 0)
  have r1 := Int.emod_lt_of_pos spot (by omega : (0 : Int) < w.length)
  have e2 : RW.str p 0 500 = (RW.again w 500).take 500 := by
    have := RW.str_ring ne (n := 500) (k := 500) (by
      have : 500 * 1 ≤ 500 * w.length := Nat.mul_le_mul_left _ w1
      omega)
    rw [← this]
    unfold RW.str
    apply List.map_congr_left
    intro i _
    rw [sp, RW.sgn_ring]
  have lz : (RW.again w 500).length ≤ 100000 := by rw [RW.again_len]; exact Nat.mul_le_mul_left 500 w2
  refine ws_cons (PB.ite (PB.eq (k' := false) (b_bool (w_or (b_cmp (PV.eq (p_meth2 p (b := (0 : Int)) (c := (500 : Int)) F_str.to k3 (p_vr 2 rfl rfl) rfl (by decide) p_int p_int ⟨lop, by decide, by decide, by decide, by decide, by decide⟩) rfl) (p_slT (p_mulT' (k := 500) (p_vr 0 rfl rfl) p_int ⟨by decide, by decide⟩ (by omega)) o_none (o_some p_int) (sz_of (by show (RW.again w 500).length ≤ _; omega))) o_neT) fun hb => w_or1 (b_cmp (PV.eq (p_meth1 p (b := spot) F_sign.to k2 (p_vr 2 rfl rfl) rfl (by decide) (p_vr 1 rfl rfl) lop) rfl) (p_ixT (p_vr 0 rfl rfl) (p_modI (p_vr 1 rfl rfl) (p_lenT B.len rfl (p_vr 0 rfl rfl) (sz_of (by omega))) (by omega)) (sz_of (by omega)) (atI_in r0 r1 0)) o_neT))) ?_) (fun hc => nomatch hc) (fun hc => ?_))
  · rw [cut_to (by decide), e2, sp]
    show (!decide (List.take 500 (RW.again w 500) = List.take 500 (RW.again w 500)) || !decide ([RW.cyc w spot] = [w.getD (spot % (w.length : Int)).toNat 0])) = false
    unfold RW.cyc
    simp
  refine ws_nil ?_
  have d1 : (1 : Int) ≤ 200 / (w.length : Int) := (Int.le_ediv_iff_mul_le (by omega)).mpr (by omega)
  have d2 : 200 / (w.length : Int) ≤ 200 := Int.ediv_le_self _ (by decide)
  have d3 : (200 / (w.length : Int)).toNat * w.length ≤ 200 := by
    have := Int.ediv_mul_le 200 (by omega : (w.length : Int) ≠ 0)
    have e : (((200 / (w.length : Int)).toNat * w.length : Nat) : Int) = 200 / (w.length : Int) * w.length := by rw [Int.natCast_mul, Int.toNat_of_nonneg (by omega)]
    omega
  have d4 : 1 * w.length ≤ (200 / (w.length : Int)).toNat * w.length := Nat.mul_le_mul_right _ (by omega)
  have sd : sideOk (RW.again w (200 / (w.length : Int)).toNat) := ⟨by rw [RW.again_len]; omega, by rw [RW.again_len]; omega, fun c hc => w3 c (repT_mem (l := w) (k := 200 / (w.length : Int)) hc)⟩
  have sdn : RW.again w (200 / (w.length : Int)).toNat ≠ [] := fun z => by have := sd.1; rw [z] at this; simp at this
  have hr2 : isRow ⟨RW.again w (200 / (w.length : Int)).toNat, [], w, 0⟩ = true := isRow_of sd ⟨by show 0 ≤ 400; decide, fun c hc => (List.not_mem_nil hc).elim⟩ hw ⟨by decide, by decide⟩
  have e3 : RW.plain ⟨RW.again w (200 / (w.length : Int)).toNat, [], w, 0⟩ = p := by
    rw [← hpd]
    refine RW.plain_same sdn ne ne ne fun i => ?_
    rw [RW.sgn_ring]
    by_cases h : i < 0
    · rw [RW.sgn_left h]
      show RW.cyc (RW.again w _) (i - 0) = _
      rw [Int.sub_zero, RW.cyc_againK ne (by omega)]
    · rw [RW.sgn_right (by show (0 : Int) + 0 ≤ i; omega)]
      show RW.cyc w (i - (0 + 0)) = _
      congr 1
      omega
  refine ws_cons (PB.ite (PB.eq (k' := false) (b_bool (w_or (b_not (b_cmp (PV.eq (p_meth1 p (b := (w.length : Int)) F_mv.to (Nat.le_refl 7) (p_vr 2 rfl rfl) rfl (by decide) (p_lenT B.len rfl (p_vr 0 rfl rfl) (sz_of (by omega))) mo) (by rw [eq1, e1]) (v' := .d (rowD Cl p))) (p_vr 2 rfl rfl) (o_eqRow (.row p) F_eq.to k1 isi okp okp))) fun hb => w_or1 (b_not (b_cmp (p_vr 2 rfl rfl) (fun Q z => we_make F_Row.to (by show 5 ≤ 7; decide) rfl rfl (pa_go (pa_cs (p_mulT' (k := 200 / (w.length : Int)) (p_vr 0 rfl rfl) (p_fdivI p_int (p_lenT B.len rfl (p_vr 0 rfl rfl) (sz_of (by omega))) ⟨by omega, by omega⟩) ⟨by omega, by omega⟩ (by omega)) (pa_cs (p_txt (l := []) rfl) (pa_cs (p_vr 0 rfl rfl) (pa_cs p_int pa_nl)))) ⟨rfl, make_row (p := ⟨RW.again w (200 / (w.length : Int)).toNat, [], w, 0⟩) hr2 (by rw [e3]; exact z)⟩)) (o_eqRow (.row p) F_eq.to k1 isi okp okp))))) (by simp [eqRow])) (fun hc => nomatch hc) (fun hc => ?_))
  refine ws_nil ?_
  refine w1_retQ (PV.eq (p_and (p_cmp (ix1 (p := p) (PV.eq (p_meth0 p F_told.to k1 (p_vr 2 rfl rfl) rfl (by decide) trivial) rfl)) (p_txt (l := []) rfl) o_eqT) fun hb => p_and (p_cmp (ix0 (p := p) (PV.eq (p_meth0 p F_told.to k1 (p_vr 2 rfl rfl) rfl (by decide) trivial) rfl)) (ix2 (p := p) (PV.eq (p_meth0 p F_told.to k1 (p_vr 2 rfl rfl) rfl (by decide) trivial) rfl)) o_eqT) fun hb => p_and (p_cmp (ix3 (p := p) (PV.eq (p_meth0 p F_told.to k1 (p_vr 2 rfl rfl) rfl (by decide) trivial) rfl)) p_int o_eqI) fun hb => p_one (p_cmp (fun Q z => we_callK0 F_roundK.to (by show 6 ≤ 7; decide) rfl (pk_go (pk_cs (p_vr 0 rfl rfl) pk_nl) ⟨rfl, calls_P (c := SRing Cl) w hw rfl rfl (fun o h => h) (by show Q (.d (rowD Cl (RW.plain (RW.ring w)))) _; rw [hpd]; exact z)⟩)) (p_vr 2 rfl rfl) (o_eqRow (.row p) F_eq.to k1 isi okp okp))) (v' := .d (.bl true)) ?_) rfl
  rw [hb]
  simp [eqRow]
end
end
end DL
set_option maxRecDepth 100000
set_option maxHeartbeats 4000000
set_option pp.maxSteps 600
namespace DL
open PySem L2 PySem.Spec PyProof.Rows
abbrev s_law : Stmt := top 29
def n_law : List Str := ["_law_script", "_law_state", "_law_turn", "_law_pieces", "_law_row_here", "_law_spot", "_law_first", "_law_size"]
theorem sc_law : FnScope n_law ["_law_script"] (defScope s_law) := ⟨rfl, rfl, rfl, by decide +kernel, rfl, by decide +kernel, by decide +kernel⟩
section
variable {C : SC}
theorem B_law {Cl : Addr} (B : Blts C.mg) (F_begun : FnD C 1 "_law_begun" ["_law_script"] cBegun) (F_draw : FnD C 1 "_law_draw" ["_law_state", "_law_size_of"] cDraw) (F_row : FnD C 4 "_law_row" ["_law_state"] cPieces) (F_Row : MkD C 4 "Row" Cl ["self", "left", "part", "right", "at"] (cRow Cl))
    (F_lsign : FnD C 1 "_law_sign" ["_law_pieces", "_law_spot"] SSign) (F_stretch : FnD C 2 "_law_stretch" ["_law_pieces", "_law_first", "_law_close_by"] SStr) (F_lsigns : FnD C 1 "_law_signs_of" ["_law_pieces"] (cP1 Parts.d Parts.low fun p => .txt (lettersOf p)))
    (F_sign : MtD C 2 Cl "sign" ["self", "place"] (SMsign Cl)) (F_signK : MtK C 2 Cl "sign" ["self", "place"] (SMsign Cl) 1 ["place"] [0, 1]) (F_str : MtD C 3 Cl "stretch" ["self", "begin", "end"] (SMstr Cl)) (F_strK : MtK C 3 Cl "stretch" ["self", "begin", "end"] (SMstr Cl) 1 ["end", "begin"] [0, 2, 1])
    (F_signs : MtD C 1 Cl "signs" ["self"] (SMlet Cl)) (F_moves : FnD C 8 "_law_moves_right" ["_law_state", "_law_row_here", "_law_pieces"] (cMoves Cl)) (F_rr : FnD C 8 "_law_round_right" ["_law_text", "_law_spot"] (cP2 TX D.int (fun w _ => sideOk w) fun _ _ => .bl true)) : Body C (cLaw 63) n_law s_law 8 := fun ns hl => by
  have nd : n_law.Nodup := sc_law.nd
  have hl' : ns.length ≤ 63 := hl
  have k1 : 1 ≤ (8 : Nat) := by decide
  have k2 : 2 ≤ (8 : Nat) := by decide
  have k3 : 3 ≤ (8 : Nat) := by decide
  refine ws_cons (w1_set (i := 1) (.of nd) (we_call F_begun.to k1 rfl (wa_cons (PV.go (p_vr 0 rfl rfl) (wa_nil ⟨ns, [], hl', rfl, rfl, fun o ho => ?_⟩)))))
  obtain ⟨S, hS, rfl⟩ := ho
  refine ⟨.inr rfl, ?_⟩
  refine ws_cons (w1_for (t := .nm 2) (.nm (.of nd)) (wi_range1 rfl B.range (PV.go p_int ⟨4, rfl, by decide, by decide, fun i ρ' μ' => ∃ (S : DS) (o2 o3 o4 o5 o6 o7 : Option XV), ρ' = [some (.d (.scr ns)), some (.l 1), o2, o3, o4, o5, o6, o7] ∧ μ' = S.mem ++ [] ∧ S.ok, ⟨S, none, none, none, none, none, none, rfl, rfl, hS⟩, fun _ _ _ _ _ => trivial, ?_, ?_⟩)))
  · rintro i x ρ' μ' hx ⟨S, o2, o3, o4, o5, o6, o7, rfl, rfl, hS⟩
    obtain ⟨hi, rfl⟩ := rng_get hx
    refine ⟨_, rfl, ?_⟩
    refine ws_cons (w1_set (i := 3) (.of nd) (we_store () F_row.to (by show 4 ≤ 8; decide) rfl (pa_cs (p_vr 1 rfl rfl) pa_nl) rfl hS trivial fun d S hS hd => ?_))
    obtain ⟨p, rfl, hp, at1, at2⟩ := hd
    obtain ⟨l1, l2, lb1, lb2, lb3, lb4, lb5⟩ := isRow_low hp
    have ppr : isRow (RW.plain p) = true := plain_row hp at1 (by omega)
    have lop := (isRow_low hp).ok
    have lopp := (isRow_low ppr).ok
    have sp := fun i => RW.sgn_plain l1 l2 i
    refine ws_cons (w1_set (i := 4) (.of nd) (we_make F_Row.to (by show 5 ≤ 8; decide) rfl rfl (pa_go (pa_cs (ix0 (p_vr 3 rfl rfl)) (pa_cs (ix1 (p_vr 3 rfl rfl)) (pa_cs (ix2 (p_vr 3 rfl rfl)) (pa_cs (ix3 (p_vr 3 rfl rfl)) pa_nl)))) ⟨rfl, make_row hp ?_⟩)))
    -- three places
    refine ws_cons (w1_for (t := .nm 5) (.nm (.of nd)) (wi_lst (we_lst (wa_cons (we_bin (we_bin (PV.go (ix3 (p_vr 3 rfl rfl)) (we_draw (n := 100) F_draw.to k1 rfl (p_vr 1 rfl rfl) p_int hS ⟨by decide, by decide⟩ fun r S hS r1 r2 => go_add_int (PV.go p_int (go_sub_int (wa_cons (PV.go (ix3 (p_vr 3 rfl rfl)) (wa_cons (we_bin (we_draw (n := 200000000) F_draw.to k1 rfl (p_vr 1 rfl rfl) (PV.eq (p_mulI (i := 2) (k := 100000000) p_int (PV.eq (p_powI (i := 10) (k := 8) p_int p_int ⟨by decide, by decide, by decide⟩) rfl) (cmul_s (by decide) (by decide))) rfl) hS ⟨by decide, by decide⟩ fun t S hS t1 t2 => PV.go (PV.eq (p_powI (i := 10) (k := 8) p_int p_int ⟨by decide, by decide, by decide⟩) (v' := .d (.int 100000000)) rfl) (go_sub_int (wa_nil ⟨_, rfl, by show 3 ≤ sizeLine; decide, _, rfl, ?_⟩)))))))))))))))))
    have anInt : ∀ (x : XV) (i : Nat), ([D.int (p.at_ + r - 50), D.int p.at_, D.int (t - 100000000)].map XV.d)[i]? = some x → ∃ z : Int, x = .d (.int z) := fun x i h => by
      have m := List.mem_of_getElem? h
      simp only [List.map_cons, List.map_nil, List.mem_cons, List.not_mem_nil, or_false] at m
      rcases m with rfl | rfl | rfl <;> exact ⟨_, rfl⟩
    refine ⟨fun _ ρ' μ' => ∃ o5, ρ' = [some (.d (.scr ns)), some (.l 1), some (.d (.int (0 + (i : Nat)))), some (.d (Parts.d p)), some (.d (rowD Cl (RW.plain p))), o5, o6, o7] ∧ μ' = S.mem ++ [], ⟨_, rfl, rfl⟩, fun _ _ _ _ _ => trivial, ?_, ?_⟩
    · rintro j x ρ' μ' hx ⟨o5, rfl, rfl⟩
      obtain ⟨z, rfl⟩ := anInt x j hx
      refine ⟨_, rfl, ?_⟩
      refine ws_cons (PB.ite (PB.eq (k' := false) (b_bool (w_or (b_cmp (PV.eq (p_meth1 (RW.plain p) (b := z) F_sign.to k2 (p_vr 4 rfl rfl) rfl (by decide) (p_vr 5 rfl rfl) lopp) rfl) (PV.eq (p_call2 (a := p) (b := z) F_lsign.to k1 rfl (p_vr 3 rfl rfl) (p_vr 5 rfl rfl) lop) rfl) o_neT) fun hb => w_or1 (b_cmp (x1 := .d (.txt [RW.sgn (RW.plain p) z])) (fun Q q => we_methK0 (ix := [0]) (ks := ["place"]) F_signK.to k2 (PV.go (p_vr 4 rfl rfl) ⟨_, _, rfl, (by decide), pk_go (pk_cs (p_vr 5 rfl rfl) pk_nl) ⟨rfl, calls_P (c := SMsign Cl) (RW.plain p, z) lopp rfl rfl (fun o h => h) q⟩⟩)) (PV.eq (p_call2 (a := p) (b := z) F_lsign.to k1 rfl (p_vr 3 rfl rfl) (p_vr 5 rfl rfl) lop) rfl) o_neT))) (by rw [sp]; simp)) (fun hc => nomatch hc) (fun hc => ?_))
      exact ws_nil (ws_nil (Wk.of ⟨_, rfl, rfl⟩))
    rintro ρ' μ' ⟨o5, rfl, rfl⟩
    -- a stretch
    refine ws_cons (w1_pr (i := 6) (j := 7) (.of nd) (.of nd) (by decide) (we_bin (PV.go (ix3 (p_vr 3 rfl rfl)) (we_draw (n := 80) F_draw.to k1 rfl (p_vr 1 rfl rfl) p_int hS ⟨by decide, by decide⟩ fun u S hS u1 u2 => go_sub_int ?_))))
    refine we_ix (PV.go (p_lst (pa_cs p_int (pa_cs p_int (pa_cs p_int (pa_cs p_int (pa_cs p_int pa_nl))))) rfl) (we_draw (n := 5) F_draw.to k1 rfl (p_vr 1 rfl rfl) p_int hS ⟨by decide, by decide⟩ fun v S hS v1 v2 => ?_))
    obtain ⟨d, hd, m, rfl, hm1, hm2⟩ := atI_all (l := [D.int 0, D.int 1, D.int 40, D.int 150, D.int 1000]) (P := fun d => ∃ z : Int, d = .int z ∧ 0 ≤ z ∧ z ≤ 1000) (by simp) v1 v2
    refine gi_lst hd ?_
    generalize hfirst : p.at_ - u = first
    have es : RW.str (RW.plain p) first (first + m) = RW.str p first (first + m) := str_eq_iff.mpr fun i _ _ => sp i
    have e2 : Ends2 p first (first + m) := ⟨lop, by omega, by omega, by omega, by omega, by omega⟩
    have e3 : Ends2 (RW.plain p) first (first + m) := ⟨lopp, by omega, by omega, by omega, by omega, by omega⟩
    refine ws_cons (PB.ite (PB.eq (k' := false) (b_cmp (PV.eq (p_meth2 (RW.plain p) (b := first) (c := first + m) F_str.to k3 (p_vr 4 rfl rfl) rfl (by decide) (p_vr 6 rfl rfl) (p_addI (p_vr 6 rfl rfl) (p_vr 7 rfl rfl)) e3) rfl) (PV.eq (p_call3 (a := p) (b := first) (c := first + m) F_stretch.to k2 rfl (p_vr 3 rfl rfl) (p_vr 6 rfl rfl) (p_addI (p_vr 6 rfl rfl) (p_vr 7 rfl rfl)) e2) rfl) o_neT) (by rw [es]; simp)) (fun hc => nomatch hc) (fun hc => ?_))
    refine ws_nil ?_
    refine ws_cons (PB.ite (PB.eq (k' := false) (b_cmp (x1 := .d (.txt (RW.str (RW.plain p) first (first + m)))) (fun Q q => we_methK0 (ix := [1, 0]) (ks := ["end", "begin"]) F_strK.to k3 (PV.go (p_vr 4 rfl rfl) ⟨_, _, rfl, (by decide), pk_go (pk_cs (p_addI (p_vr 6 rfl rfl) (p_vr 7 rfl rfl)) (pk_cs (p_vr 6 rfl rfl) pk_nl)) ⟨rfl, calls_P (c := SMstr Cl) (RW.plain p, first, first + m) e3 rfl rfl (fun o h => h) q⟩⟩)) (PV.eq (p_call3 (a := p) (b := first) (c := first + m) F_stretch.to k2 rfl (p_vr 3 rfl rfl) (p_vr 6 rfl rfl) (p_addI (p_vr 6 rfl rfl) (p_vr 7 rfl rfl)) e2) rfl) o_neT) (by rw [es]; simp)) (fun hc => nomatch hc) (fun hc => ?_))
    refine ws_nil ?_
    -- letters, moves
    obtain ⟨m1, m2, _⟩ := isRow_low ppr
    have el : lettersOf (RW.plain p) = lettersOf p := riseN_eq (riseN_rise) fun c => by
      unfold lettersOf
      rw [riseN_mem]
      exact RW.same_letters m1 m2 l1 l2 sp c
    refine ws_cons (w1_if (wt_bool (ww_or (PB.go (b_cmp (PV.eq (p_meth0 (RW.plain p) F_signs.to k1 (p_vr 4 rfl rfl) rfl (by decide) (isRow_low ppr)) (v' := .d (.txt (lettersOf (RW.plain p)))) rfl) (PV.eq (p_call1 (a := p) F_lsigns.to k1 rfl (p_vr 3 rfl rfl) (isRow_low hp)) (v' := .d (.txt (lettersOf p))) rfl) o_neT) ⟨fun _ => ww_or1 (wt_not (wt_val (we_store p F_moves.to (Nat.le_refl 8) rfl (pa_cs (p_vr 1 rfl rfl) (pa_cs (p_vr 4 rfl rfl) (pa_cs (p_vr 3 rfl rfl) pa_nl))) rfl hS ⟨hp, at1, at2⟩ fun d S hS hd => ?_))), fun z => by rw [el] at z; simp at z⟩))))
    have hd : d = .bl true := hd
    subst hd
    refine ⟨true, rfl, (fun z => nomatch z), fun _ => ?_⟩
    refine ws_nil ?_
    obtain ⟨sd, _⟩ := isRow_side hp
    refine ws_cons (w1_if (wt_not (wt_val (we_call F_rr.to (Nat.le_refl 8) rfl (wa_cons (PV.go (ix0 (p_vr 3 rfl rfl)) (wa_cons (we_bin (we_draw (n := 1000) F_draw.to k1 rfl (p_vr 1 rfl rfl) p_int hS ⟨by decide, by decide⟩ fun g S hS g1 g2 => PV.go p_int (go_sub_int (wa_nil (calls_P (c := cP2 TX D.int (fun w _ => sideOk w) fun _ _ => .bl true) (p.left, g - 500) sd rfl rfl (fun o h => h) ?_))))))))))))
    refine ⟨true, rfl, (fun z => nomatch z), fun _ => ?_⟩
    exact ws_nil (ws_nil (Wk.of ⟨S, _, _, _, _, _, _, rfl, rfl, hS⟩))
  · rintro ρ' μ' ⟨S, o2, o3, o4, o5, o6, o7, rfl, rfl, hS⟩
    exact w1_retQ p_bl ⟨[], rfl, ⟨_, rfl⟩, trivial, fun m hm => (List.not_mem_nil hm).elim⟩
end
end DL
set_option maxRecDepth 100000
set_option maxHeartbeats 4000000
namespace DL
open PySem L2 PySem.Spec PyProof.Rows
theorem kit_own {K : PySem.W.Frag} {Cl : Addr} : PySem.W.kitOne K (.ref Cl) (.ref Cl) = some true := by
  unfold PySem.W.kitOne
  rw [if_pos (by simp)]
theorem kit_out {K : PySem.W.Frag} {Cl : Addr} {T : String} (h1 : PySem.W.isClsIn K Cl = true) (h2 : PySem.W.typeIn K (.ref Cl) = some (.type "type")) (h3 : PySem.W.subIn K (.type T) (.ref Cl) = some false) : PySem.W.kitOne K (.type T) (.ref Cl) = some false := by
  unfold PySem.W.kitOne PySem.W.kitCls
  have h1 : (PySem.W.clsIn K Cl).isSome = true := h1
  rw [if_neg (by simp)]
  show (if ((PySem.W.clsIn K Cl).isSome && PySem.W.typeIn K (.ref Cl) == some (.type "type")) = true then PySem.W.subIn K (.type T) (.ref Cl) else none) = _
  rw [if_pos (by rw [h1, h2]; simp)]
  exact h3
theorem kit_tup {K : PySem.W.Frag} {Cl : Addr} (h1 : PySem.W.isClsIn K Cl = true) (h2 : PySem.W.typeIn K (.ref Cl) = some (.type "type")) : PySem.W.kitOne K (.type "tuple") (.ref Cl) = some false := kit_out h1 h2 (by
  have e : fastBuiltinMro "tuple" = some [.type "tuple", .type "object"] := by decide +kernel
  show (fastBuiltinMro "tuple").map (·.contains (.ref Cl)) = some false
  rw [e]
  first | rfl | simp)
theorem kit_str {K : PySem.W.Frag} {Cl : Addr} (h1 : PySem.W.isClsIn K Cl = true) (h2 : PySem.W.typeIn K (.ref Cl) = some (.type "type")) : PySem.W.kitOne K (.type "str") (.ref Cl) = some false := kit_out h1 h2 (by
  have e : fastBuiltinMro "str" = some [.type "str", .type "object"] := by decide +kernel
  show (fastBuiltinMro "str").map (·.contains (.ref Cl)) = some false
  rw [e]
  first | rfl | simp)
theorem all_mk {l : PySem.W.OpenLaw} {w : World} {K : PySem.W.Frag} {h : Heap} {mg : Str → Option Value} {fa C_Row : Addr} (X : K.In h) (G : h.Ns mainGlobals mg) (hfa : mg "law" = some (.ref fa))
    (d_is_place : DF K "is_place" s_is_place)
    (d_are_letters : DF K "are_letters" s_are_letters)
    (d_is_round : DF K "is_round" s_is_round)
    (d_shortest_round : DF K "shortest_round" s_shortest_round)
    (d_sign_by : DF K "sign_by" s_sign_by)
    (d_stretch_by : DF K "stretch_by" s_stretch_by)
    (d_plain_parts : DF K "plain_parts" s_plain_parts)
    (d_round_row : DF K "round_row" s_round_row)
    (d__law_begun : DF K "_law_begun" s__law_begun)
    (d__law_draw : DF K "_law_draw" s__law_draw)
    (d__law_letters : DF K "_law_letters" s__law_letters)
    (d__law_round : DF K "_law_round" s__law_round)
    (d__law_row : DF K "_law_row" s__law_row)
    (d__law_far : DF K "_law_far" s__law_far)
    (d__law_sign : DF K "_law_sign" s__law_sign)
    (d__law_stretch : DF K "_law_stretch" s__law_stretch)
    (d__law_signs_of : DF K "_law_signs_of" s__law_signs_of)
    (d__law_moves_right : DF K "_law_moves_right" s__law_moves_right)
    (d__law_round_right : DF K "_law_round_right" s__law_round_right)
    (d_law : DF K "law" s_law)
    (c_Row : DC K "Row" C_Row)
    (m_Row___init__ : DM K C_Row "__init__" "Row.__init__" s_Row___init__)
    (m_Row_told : DM K C_Row "told" "Row.told" s_Row_told)
    (m_Row___eq__ : DM K C_Row "__eq__" "Row.__eq__" s_Row___eq__)
    (m_Row_stretch : DM K C_Row "stretch" "Row.stretch" s_Row_stretch)
    (m_Row_sign : DM K C_Row "sign" "Row.sign" s_Row_sign)
    (m_Row_moved : DM K C_Row "moved" "Row.moved" s_Row_moved)
    (m_Row_signs : DM K C_Row "signs" "Row.signs" s_Row_signs)
    (na_Row_plain : NoAttr K C_Row "plain")
    (z_abs : NB K "abs")
    (z_all : NB K "all")
    (z_any : NB K "any")
    (z_bool : NB K "bool")
    (z_int : NB K "int")
    (z_isinstance : NB K "isinstance")
    (z_len : NB K "len")
    (z_list : NB K "list")
    (z_max : NB K "max")
    (z_min : NB K "min")
    (z_range : NB K "range")
    (z_repr : NB K "repr")
    (z_set : NB K "set")
    (z_sorted : NB K "sorted")
    (z_str : NB K "str")
    (z_sum : NB K "sum")
    (z_tuple : NB K "tuple")
    (z_zip : NB K "zip")
    (z_dict : NB K "dict")
    (z_type : NB K "type")
    (z_enumerate : NB K "enumerate")
    (g_MOST_ROUND : CI K "MOST_ROUND" 200)
    (g_MOST_PART : CI K "MOST_PART" 400)
    (g_FARTHEST : CI K "FARTHEST" 100000000)
    (g_SMALL : CT K "SMALL" "abcdefghijklmnopqrstuvwxyz")
    (ne_Row : PySem.W.findIn K (.ref C_Row) "__ne__" = some (some (.builtin "object.__ne__")))
    (cg : PySem.W.specialIn K (.builtin "object.__class__") "__get__" = some (some (.builtin "getset_descriptor.__get__")))
    (ck : PySem.W.takesIn K (.builtin "object.__class__") = some true)
    (ki_cls : PySem.W.isClsIn K C_Row = true)
    (ki_ty : PySem.W.typeIn K (.ref C_Row) = some (.type "type"))
    : ∃ fd : FuncData, (∀ (s : Shared) (u : Value), BindsTo s fd ⟨[u], []⟩ [("_law_script", u)]) ∧ ∀ base : Heap, K.In base → base.Ns mainGlobals mg → FnG l.prog w K mg base true 9 fa fd ["_law_script"] (toSp K (cLaw 63)) := by
  refine law_end (k := 8) X G hfa d_law (fun _ _ _ _ _ _ us hl => match us, hl with | [_], _ => rfl) sc_law fun base C hP hw hK hm hb hg => ?_
  have B : Blts C.mg := by rw [hm]; exact ⟨z_abs.no X G, z_all.no X G, z_any.no X G, z_bool.no X G, z_int.no X G, z_isinstance.no X G, z_len.no X G, z_list.no X G, z_max.no X G, z_min.no X G, z_range.no X G, z_repr.no X G, z_set.no X G, z_sorted.no X G, z_str.no X G, z_sum.no X G, z_tuple.no X G, z_zip.no X G, z_dict.no X G, z_type.no X G, z_enumerate.no X G⟩
  have D_is_place : Dn C "is_place" s_is_place ["thing"] := d_is_place.dn hK hm X G (fun _ _ _ _ _ _ us hl => match us, hl with | [_], _ => rfl)
  have D_are_letters : Dn C "are_letters" s_are_letters ["thing", "least", "most"] := d_are_letters.dn hK hm X G (fun _ _ _ _ _ _ us hl => match us, hl with | [_, _, _], _ => rfl)
  have D_is_round : Dn C "is_round" s_is_round ["thing"] := d_is_round.dn hK hm X G (fun _ _ _ _ _ _ us hl => match us, hl with | [_], _ => rfl)
  have D_shortest_round : Dn C "shortest_round" s_shortest_round ["word"] := d_shortest_round.dn hK hm X G (fun _ _ _ _ _ _ us hl => match us, hl with | [_], _ => rfl)
  have D_sign_by : Dn C "sign_by" s_sign_by ["parts", "place"] := d_sign_by.dn hK hm X G (fun _ _ _ _ _ _ us hl => match us, hl with | [_, _], _ => rfl)
  have D_stretch_by : Dn C "stretch_by" s_stretch_by ["parts", "begin", "end"] := d_stretch_by.dn hK hm X G (fun _ _ _ _ _ _ us hl => match us, hl with | [_, _, _], _ => rfl)
  have D_plain_parts : Dn C "plain_parts" s_plain_parts ["parts"] := d_plain_parts.dn hK hm X G (fun _ _ _ _ _ _ us hl => match us, hl with | [_], _ => rfl)
  have D_round_row : Dn C "round_row" s_round_row ["word"] := d_round_row.dn hK hm X G (fun _ _ _ _ _ _ us hl => match us, hl with | [_], _ => rfl)
  have D__law_begun : Dn C "_law_begun" s__law_begun ["_law_script"] := d__law_begun.dn hK hm X G (fun _ _ _ _ _ _ us hl => match us, hl with | [_], _ => rfl)
  have D__law_draw : Dn C "_law_draw" s__law_draw ["_law_state", "_law_size_of"] := d__law_draw.dn hK hm X G (fun _ _ _ _ _ _ us hl => match us, hl with | [_, _], _ => rfl)
  have D__law_letters : Dn C "_law_letters" s__law_letters ["_law_state", "_law_few", "_law_size"] := d__law_letters.dn hK hm X G (fun _ _ _ _ _ _ us hl => match us, hl with | [_, _, _], _ => rfl)
  have D__law_round : Dn C "_law_round" s__law_round ["_law_state", "_law_few"] := d__law_round.dn hK hm X G (fun _ _ _ _ _ _ us hl => match us, hl with | [_, _], _ => rfl)
  have D__law_row : Dn C "_law_row" s__law_row ["_law_state"] := d__law_row.dn hK hm X G (fun _ _ _ _ _ _ us hl => match us, hl with | [_], _ => rfl)
  have D__law_far : Dn C "_law_far" s__law_far ["_law_pieces"] := d__law_far.dn hK hm X G (fun _ _ _ _ _ _ us hl => match us, hl with | [_], _ => rfl)
  have D__law_sign : Dn C "_law_sign" s__law_sign ["_law_pieces", "_law_spot"] := d__law_sign.dn hK hm X G (fun _ _ _ _ _ _ us hl => match us, hl with | [_, _], _ => rfl)
  have D__law_stretch : Dn C "_law_stretch" s__law_stretch ["_law_pieces", "_law_first", "_law_close_by"] := d__law_stretch.dn hK hm X G (fun _ _ _ _ _ _ us hl => match us, hl with | [_, _, _], _ => rfl)
  have D__law_signs_of : Dn C "_law_signs_of" s__law_signs_of ["_law_pieces"] := d__law_signs_of.dn hK hm X G (fun _ _ _ _ _ _ us hl => match us, hl with | [_], _ => rfl)
  have D__law_moves_right : Dn C "_law_moves_right" s__law_moves_right ["_law_state", "_law_row_here", "_law_pieces"] := d__law_moves_right.dn hK hm X G (fun _ _ _ _ _ _ us hl => match us, hl with | [_, _, _], _ => rfl)
  have D__law_round_right : Dn C "_law_round_right" s__law_round_right ["_law_text", "_law_spot"] := d__law_round_right.dn hK hm X G (fun _ _ _ _ _ _ us hl => match us, hl with | [_, _], _ => rfl)
  have D_Row_init : In0 C "Row" C_Row "Row.__init__" s_Row___init__ ["self", "left", "part", "right", "at"] := m_Row___init__.in0 c_Row hK hm X G (fun _ _ _ _ _ _ us hl => match us, hl with | [_, _, _, _, _], _ => rfl)
  have D_Row_told : Mn C C_Row "told" "Row.told" s_Row_told ["self"] := m_Row_told.mn hK (fun _ _ _ _ _ _ us hl => match us, hl with | [_], _ => rfl)
  have D_Row___eq__ : Mn C C_Row "__eq__" "Row.__eq__" s_Row___eq__ ["self", "other"] := m_Row___eq__.mn hK (fun _ _ _ _ _ _ us hl => match us, hl with | [_, _], _ => rfl)
  have D_Row_stretch : Mn C C_Row "stretch" "Row.stretch" s_Row_stretch ["self", "begin", "end"] := m_Row_stretch.mn hK (fun _ _ _ _ _ _ us hl => match us, hl with | [_, _, _], _ => rfl)
  have D_Row_sign : Mn C C_Row "sign" "Row.sign" s_Row_sign ["self", "place"] := m_Row_sign.mn hK (fun _ _ _ _ _ _ us hl => match us, hl with | [_, _], _ => rfl)
  have D_Row_moved : Mn C C_Row "moved" "Row.moved" s_Row_moved ["self", "by"] := m_Row_moved.mn hK (fun _ _ _ _ _ _ us hl => match us, hl with | [_, _], _ => rfl)
  have D_Row_signs : Mn C C_Row "signs" "Row.signs" s_Row_signs ["self"] := m_Row_signs.mn hK (fun _ _ _ _ _ _ us hl => match us, hl with | [_], _ => rfl)
  have K_round_row : Dk C "round_row" s_round_row ["word"] 0 ["word"] [0] := d_round_row.dk hK hm X G (fun _ _ _ _ _ _ us ws hl hl2 => match us, ws, hl, hl2 with | [], [_], _, _ => rfl)
  have K_Row_moved : Mq C C_Row "moved" "Row.moved" s_Row_moved ["self", "by"] 1 ["by"] [0, 1] := m_Row_moved.mq hK (fun _ _ _ _ _ _ us ws hl hl2 => match us, ws, hl, hl2 with | [_], [_], _, _ => rfl)
  have K_Row_sign : Mq C C_Row "sign" "Row.sign" s_Row_sign ["self", "place"] 1 ["place"] [0, 1] := m_Row_sign.mq hK (fun _ _ _ _ _ _ us ws hl hl2 => match us, ws, hl, hl2 with | [_], [_], _, _ => rfl)
  have K_Row_stretch : Mq C C_Row "stretch" "Row.stretch" s_Row_stretch ["self", "begin", "end"] 1 ["end", "begin"] [0, 2, 1] := m_Row_stretch.mq hK (fun _ _ _ _ _ _ us ws hl hl2 => match us, ws, hl, hl2 with | [_], [_, _], _, _ => rfl)
  have GR : GRow C.mg := by rw [hm]; exact ⟨g_SMALL.gt X G (by decide +kernel), g_MOST_ROUND.gi X G, g_MOST_PART.gi X G, g_FARTHEST.gi X G⟩
  have GC : GCls C C_Row := ⟨by rw [hK]; exact c_Row.cls, by rw [hK]; exact na_Row_plain⟩
  have isi : IsiC C.K C_Row := by rw [hK]; exact ⟨c_Row.cls, c_Row.ha, cg, ck, c_Row.hm⟩
  have GI : GIsi C C_Row := ⟨by rw [hm]; exact PySem.W.mg_of X G c_Row.a, isi, kit_own, by rw [hK]; exact kit_tup ki_cls ki_ty, by rw [hK]; exact kit_str ki_cls ki_ty⟩
  have F1 := F_is_place B GR D_is_place
  have F2 := F_are_letters B GR D_are_letters
  have F3 := F_is_round B GR F2 D_is_round
  have F4 := F_shortest_round B D_shortest_round
  have F5 := F_sign_by B D_sign_by
  have F6 := F_stretch_by B F5 D_stretch_by
  have F7 := F_plain_parts B F4 F5 F6 D_plain_parts
  have bi := B_Row_init B GR GC F1 F2 F3 F7
  have F8 := F_Row D_Row_init bi
  have F10 := F_Row_told GC D_Row_told
  have F11 := F_Row_eq B GC GI D_Row___eq__ (by rw [hK]; exact ne_Row)
  have bs := B_Row_sign GC F5
  have bt := B_Row_stretch GC F6
  have F13 := D_Row_sign.mtd GC.cls sc_Row_sign wf_cP2 (fun _ _ => rfl) bs
  have F14 := K_Row_sign.mtk GC.cls sc_Row_sign wf_cP2 (fun _ _ => rfl) bs
  have F15 := D_Row_stretch.mtd GC.cls sc_Row_stretch wf_cP3 (fun _ _ => rfl) bt
  have F16 := K_Row_stretch.mtk GC.cls sc_Row_stretch wf_cP3 (fun _ _ => rfl) bt
  have br := B_round_row F8
  have F17 := D_round_row.fnd sc_round_row wf_cP1 (fun _ _ => rfl) br
  have F18 := K_round_row.fnk sc_round_row wf_cP1 (fun _ _ => rfl) br
  have bm := B_Row_moved GC F8 F17 F15 B
  have F19 := D_Row_moved.mtd GC.cls sc_Row_moved wf_cP2 (fun _ _ => rfl) bm
  have F20 := K_Row_moved.mtk GC.cls sc_Row_moved wf_cP2 (fun _ _ => rfl) bm
  have F21 := F_Row_signs B GC D_Row_signs
  have L1 := F_law_begun B D__law_begun
  have L2 := F_law_draw B D__law_draw
  have L3 := F_law_letters B L2 D__law_letters
  have L4 := F_law_round B L2 L3 D__law_round
  have L5 := F_law_row B L2 L3 L4 D__law_row
  have L6 := F_law_far B D__law_far
  have L7 := F_law_sign B D__law_sign
  have L8 := F_law_stretch B L7 D__law_stretch
  have L9 := F_law_signs_of B D__law_signs_of
  have L10 := F_law_moves B isi L2 L6 L8 F15 F19 F20 F11 D__law_moves_right
  have L11 := F_law_round_right B isi F8 F17 F18 F10 F13 F15 F19 F11 D__law_round_right
  exact B_law B L1 L2 L5 F8 L7 L8 L9 F13 F14 F15 F16 F21 L10 L11
theorem walk {l : PySem.W.OpenLaw} {q : Program} {loose : List Str} {XP : (Str → Option Value) → Heap → Prop} {YP : World → Heap → Prop} {d : DefRec} {K : Params → PySem.W.Frag} (hn : l.most = some 63) (hdf : d.params.defaults = [])
    (hY : ∀ (w : World) (h : Heap), YP w h → (K w.params).In h)
    (F : ∀ (w : World) (mg : Str → Option Value) (fa : Addr) (h : Heap), (K w.params).In h → h.Ns mainGlobals mg → mg d.name = some (.ref fa) →
      ∃ fd : FuncData, (∀ (s : Shared) (u : Value), BindsTo s fd ⟨[u], []⟩ [("_law_script", u)]) ∧ ∀ base : Heap, (K w.params).In base → base.Ns mainGlobals mg → FnG l.prog w (K w.params) mg base true 9 fa fd ["_law_script"] (toSp (K w.params) (cLaw 63))) :
    PySem.W.WalkO q loose XP YP l.row.toRowW d [] (fun f vs => PySem.call f vs) :=
  walk_dl (n := 63) (k := 9) (x := "_law_script") hn (by decide) hdf ⟨rfl, by decide, by decide⟩ hY F
end DL
open PySem PySem.W PyProof.Rows
set_option maxRecDepth 100000 in
set_option maxHeartbeats 0 in
theorem PySem.Challenge.cw_windowlaw_k05_whole_rows_sign_by_sign_holds : PySem.Challenge.rw_windowlaw_k05_whole_rows_sign_by_sign.Holds := by
  w_on; o_law; k_head; (case hw => w_witness2)
  k_fill
  refine DL.walk (l := PySem.Challenge.rw_windowlaw_k05_whole_rows_sign_by_sign) rfl rfl (fun w h Y => PySem.W.kIn_of Y) ?F
  case F =>
    intro w mg fa h KX G hmg
    refine' DL.all_mk KX G hmg ?d_is_place ?d_are_letters ?d_is_round ?d_shortest_round ?d_sign_by ?d_stretch_by ?d_plain_parts ?d_round_row ?d__law_begun ?d__law_draw ?d__law_letters ?d__law_round ?d__law_row ?d__law_far ?d__law_sign ?d__law_stretch ?d__law_signs_of ?d__law_moves_right ?d__law_round_right ?d_law ?c_Row ?m_Row___init__ ?m_Row_told ?m_Row___eq__ ?m_Row_stretch ?m_Row_sign ?m_Row_moved ?m_Row_signs ?na_Row_plain ?z_abs ?z_all ?z_any ?z_bool ?z_int ?z_isinstance ?z_len ?z_list ?z_max ?z_min ?z_range ?z_repr ?z_set ?z_sorted ?z_str ?z_sum ?z_tuple ?z_zip ?z_dict ?z_type ?z_enumerate ?g_MOST_ROUND ?g_MOST_PART ?g_FARTHEST ?g_SMALL ?ne_Row ?cg ?ck ?ki_cls ?ki_ty
    (case d_is_place => refine' DL.df_mk ?a ?l ?c ?k; (case a => k_is); (case l => k_is); (case c => k_is); (case k => k_is))
    (case d_are_letters => refine' DL.df_mk ?a ?l ?c ?k; (case a => k_is); (case l => k_is); (case c => k_is); (case k => k_is))
    (case d_is_round => refine' DL.df_mk ?a ?l ?c ?k; (case a => k_is); (case l => k_is); (case c => k_is); (case k => k_is))
    (case d_shortest_round => refine' DL.df_mk ?a ?l ?c ?k; (case a => k_is); (case l => k_is); (case c => k_is); (case k => k_is))
    (case d_sign_by => refine' DL.df_mk ?a ?l ?c ?k; (case a => k_is); (case l => k_is); (case c => k_is); (case k => k_is))
    (case d_stretch_by => refine' DL.df_mk ?a ?l ?c ?k; (case a => k_is); (case l => k_is); (case c => k_is); (case k => k_is))
    (case d_plain_parts => refine' DL.df_mk ?a ?l ?c ?k; (case a => k_is); (case l => k_is); (case c => k_is); (case k => k_is))
    (case d_round_row => refine' DL.df_mk ?a ?l ?c ?k; (case a => k_is); (case l => k_is); (case c => k_is); (case k => k_is))
    (case d__law_begun => refine' DL.df_mk ?a ?l ?c ?k; (case a => k_is); (case l => k_is); (case c => k_is); (case k => k_is))
    (case d__law_draw => refine' DL.df_mk ?a ?l ?c ?k; (case a => k_is); (case l => k_is); (case c => k_is); (case k => k_is))
    (case d__law_letters => refine' DL.df_mk ?a ?l ?c ?k; (case a => k_is); (case l => k_is); (case c => k_is); (case k => k_is))
    (case d__law_round => refine' DL.df_mk ?a ?l ?c ?k; (case a => k_is); (case l => k_is); (case c => k_is); (case k => k_is))
    (case d__law_row => refine' DL.df_mk ?a ?l ?c ?k; (case a => k_is); (case l => k_is); (case c => k_is); (case k => k_is))
    (case d__law_far => refine' DL.df_mk ?a ?l ?c ?k; (case a => k_is); (case l => k_is); (case c => k_is); (case k => k_is))
    (case d__law_sign => refine' DL.df_mk ?a ?l ?c ?k; (case a => k_is); (case l => k_is); (case c => k_is); (case k => k_is))
    (case d__law_stretch => refine' DL.df_mk ?a ?l ?c ?k; (case a => k_is); (case l => k_is); (case c => k_is); (case k => k_is))
    (case d__law_signs_of => refine' DL.df_mk ?a ?l ?c ?k; (case a => k_is); (case l => k_is); (case c => k_is); (case k => k_is))
    (case d__law_moves_right => refine' DL.df_mk ?a ?l ?c ?k; (case a => k_is); (case l => k_is); (case c => k_is); (case k => k_is))
    (case d__law_round_right => refine' DL.df_mk ?a ?l ?c ?k; (case a => k_is); (case l => k_is); (case c => k_is); (case k => k_is))
    (case d_law => refine' DL.df_mk ?a ?l ?c ?k; (case a => k_is); (case l => k_is); (case c => k_is); (case k => k_is))
    (case c_Row => refine' ⟨?a, ?mks, ?kc, ?pg, ?hd, ?po, ?sa, ?ha, ?hm⟩; (case a => k_is); (case mks => k_is); (case kc => k_is); (case pg => k_is); (case hd => k_is); (case po => k_is); (case sa => k_is); (case ha => k_is); (case hm => k_is))
    (case m_Row___init__ => refine' DL.dm_mk ?a ?i ?l ?c ?k; (case a => k_is); (case i => k_is); (case l => k_is); (case c => k_is); (case k => k_is))
    (case m_Row_told => refine' DL.dm_mk ?a ?i ?l ?c ?k; (case a => k_is); (case i => k_is); (case l => k_is); (case c => k_is); (case k => k_is))
    (case m_Row___eq__ => refine' DL.dm_mk ?a ?i ?l ?c ?k; (case a => k_is); (case i => k_is); (case l => k_is); (case c => k_is); (case k => k_is))
    (case m_Row_stretch => refine' DL.dm_mk ?a ?i ?l ?c ?k; (case a => k_is); (case i => k_is); (case l => k_is); (case c => k_is); (case k => k_is))
    (case m_Row_sign => refine' DL.dm_mk ?a ?i ?l ?c ?k; (case a => k_is); (case i => k_is); (case l => k_is); (case c => k_is); (case k => k_is))
    (case m_Row_moved => refine' DL.dm_mk ?a ?i ?l ?c ?k; (case a => k_is); (case i => k_is); (case l => k_is); (case c => k_is); (case k => k_is))
    (case m_Row_signs => refine' DL.dm_mk ?a ?i ?l ?c ?k; (case a => k_is); (case i => k_is); (case l => k_is); (case c => k_is); (case k => k_is))
    (case na_Row_plain => show PySem.W.findIn _ _ _ = _; k_is)
    (case z_abs => show PySem.W.nsIn _ _ _ = _; k_is)
    (case z_all => show PySem.W.nsIn _ _ _ = _; k_is)
    (case z_any => show PySem.W.nsIn _ _ _ = _; k_is)
    (case z_bool => show PySem.W.nsIn _ _ _ = _; k_is)
    (case z_int => show PySem.W.nsIn _ _ _ = _; k_is)
    (case z_isinstance => show PySem.W.nsIn _ _ _ = _; k_is)
    (case z_len => show PySem.W.nsIn _ _ _ = _; k_is)
    (case z_list => show PySem.W.nsIn _ _ _ = _; k_is)
    (case z_max => show PySem.W.nsIn _ _ _ = _; k_is)
    (case z_min => show PySem.W.nsIn _ _ _ = _; k_is)
    (case z_range => show PySem.W.nsIn _ _ _ = _; k_is)
    (case z_repr => show PySem.W.nsIn _ _ _ = _; k_is)
    (case z_set => show PySem.W.nsIn _ _ _ = _; k_is)
    (case z_sorted => show PySem.W.nsIn _ _ _ = _; k_is)
    (case z_str => show PySem.W.nsIn _ _ _ = _; k_is)
    (case z_sum => show PySem.W.nsIn _ _ _ = _; k_is)
    (case z_tuple => show PySem.W.nsIn _ _ _ = _; k_is)
    (case z_zip => show PySem.W.nsIn _ _ _ = _; k_is)
    (case z_dict => show PySem.W.nsIn _ _ _ = _; k_is)
    (case z_type => show PySem.W.nsIn _ _ _ = _; k_is)
    (case z_enumerate => show PySem.W.nsIn _ _ _ = _; k_is)
    (case g_MOST_ROUND => refine' DL.ci_mk ?a; (case a => k_is))
    (case g_MOST_PART => refine' DL.ci_mk ?a; (case a => k_is))
    (case g_FARTHEST => refine' DL.ci_mk ?a; (case a => k_is))
    (case g_SMALL => refine' DL.ct_mk ?a; (case a => k_is))
    (case ne_Row => k_is)
    (case cg => k_is)
    (case ck => k_is)
    (case ki_cls => k_is)
    (case ki_ty => k_is)
#print axioms PySem.Challenge.cw_windowlaw_k05_whole_rows_sign_by_sign_holds
