import PyProof.Rows.All
import Wide.All
import OpenK.AllK
import Wide.FinOn
import HandS.ForMost
import HandS.ForExc
import HandS.Codes
import HandS.Walk
import HandS.IsInst
import HandS.Zip
import HandS.Defaults
import HandS.Ends
import HandS.Style
import PyProof.StrLawsRepr
import PyProof.ReprLen
import HandS.Set
import HandS.SetFor
import HandS.SetKeys
import HandS.Strs
import KE.SortData
import KE.GoesMore
import HandS.Comp
import HandS.SortKw
import KE.SortKeyHeap
import HandS.Dict
import HandS.DictComp
import HandS.More
import HandS.WordsDict
import HandS.Finally
import HandS.DictEq
import KE.KDictList
import KE.KDictSum
import HandS.Text
import KE.KRevSl
import HandS.TryOnly
import OpenK.KDescr
import KE.KIsAll
import KE.KExcIs
import HandS.ExcIs
import HandS.ExcOwn
import HandS.ExcInit
import HandS.ExcField
import KE.GoesEnum
import HandS.FltList
import HandS.Replace
import PyProof.WalkInts
import PyProof.SeqI3
import HandS.Iter
import HandS.Deep
import PySem.Challenge.RW_windowlaw_k21_what_is_put_along_words
set_option Elab.async false
set_option linter.all false
set_option maxRecDepth 100000
set_option maxHeartbeats 2000000
/-! DL: values as data trees, mutable objects as numbered cells; judgements by weakest preconditions over data. -/
namespace DL
open PySem L2
/-- data: what a value is, whatever address it has -/
inductive D where
  | non | bl (b : Bool) | int (i : Int) | txt (l : List Nat) | ty (n : String) | ref (a : Addr)
  | scr (ns : List Int)
  | lst (ds : List D) | tup (ds : List D)
  | ins (C : Addr) (fs : List Str) (ds : List D)
  /-- a dict whose keys are numbers and texts; one whose keys are tuples (their hashes told); a caught exception -/
  | dct (ks : List Key) (ds : List D) | dcn (hs : List Int) (ks ds : List D) | exc (C : Addr) (fs : List Str) (ds : List D)
/-- a dict's object by its entries: hash, the key's place, value -/
def EntR (x : Int × Addr × V) (e : DictEntry) : Prop := e.hash = x.1 ∧ e.key = .ref x.2.1 ∧ RelV x.2.2 e.val
def DcO (a : Addr) (xs : List (Int × Addr × V)) : HO := .ext fun h => ∃ o es ep, h.get? a = some o ∧ o.ExactDict ∧ o.data = .dict es ep ∧ Paired EntR xs es.toList
/-- a caught exception's object -/
def ExcO (a : Addr) (C : Addr) (d : Option Addr) : HO := .ext fun h => ∃ oe vs, h.get? a = some oe ∧ oe.cls = .ref C ∧ oe.dict = d ∧ oe.data = .fields vs
abbrev KList (K : PySem.W.Frag) (a : Addr) (xs : List V) : Prop := ∃ (o : Obj) (its : Array Value) (n : Nat), K.lookup a = some o ∧ o.cls = .type "list" ∧ o.dict = none ∧ o.data = .seq its n ∧ its.size ≤ sizeLine ∧ Vals xs its.toList
section
variable (K : PySem.W.Frag) (L : Addr → Prop) (H : Hp)
mutual
/-- v is d; L: the cells that live (no data goes through them) -/
def Rep : D → V → Prop
  | .non, v => v = .non
  | .bl b, v => v = .bl b
  | .int i, v => v = .int i
  | .txt l, v => v = .str (SX.S l)
  | .ty n, v => v = .ty n
  | .ref a, v => v = .ref a
  | .scr ns, v => ∃ a, v = .ref a ∧ ((¬ L a ∧ Rd H a (.lst (ns.map V.int))) ∨ KList K a (ns.map V.int))
  | .lst ds, v => ∃ a xs, v = .ref a ∧ ¬ L a ∧ H a = some (.lst xs) ∧ Reps ds xs
  | .tup ds, v => ∃ a xs, v = .ref a ∧ ¬ L a ∧ H a = some (.tup xs) ∧ Reps ds xs
  | .ins C fs ds, v => ∃ a dx gs, v = .ref a ∧ ¬ L a ∧ H a = some (.ins C dx gs) ∧ gs.map (·.1) = fs ∧ Reps ds (gs.map (·.2))
  | .dct ks ds, v => ∃ a o kvs, v = .ref a ∧ ¬ L a ∧ H a = some (.frz o (.dK kvs)) ∧ kvs.map (·.1) = ks ∧ Reps ds (kvs.map (·.2))
  | .dcn hs ks ds, v => ∃ a xs, v = .ref a ∧ ¬ L a ∧ H a = some (DcO a xs) ∧ xs.map (·.1) = hs ∧ Reps ks (xs.map fun x => .ref x.2.1) ∧ Reps ds (xs.map fun x => x.2.2)
  | .exc C fs ds, v => ∃ a, v = .ref a ∧ ¬ L a ∧ ((fs = [] ∧ ds = [] ∧ H a = some (ExcO a C none)) ∨ ∃ dd gs, H a = some (ExcO a C (some dd)) ∧ ¬ L dd ∧ H dd = some (.xd gs) ∧ gs.map (·.1) = fs ∧ Reps ds (gs.map (·.2)))
def Reps : List D → List V → Prop
  | [], xs => xs = []
  | d :: ds, xs => ∃ x r, xs = x :: r ∧ Rep d x ∧ Reps ds r
end
end
/-- a value of the def: data, or a living cell -/
inductive XV where
  | d (x : D) | l (n : Nat)
inductive MO where
  | lst (xs : List XV)
  | ins (C : Addr) (fs : List Str) (xs : List XV)
  | dct (ks : List Key) (xs : List XV) | dcn (hs : List Int) (ks : List D) (xs : List XV)
abbrev Mem := List (Option MO)
abbrev Env := List (Option XV)
/-- where the cells lie; what is others' -/
structure IA where
  ι : List Addr
  F : Addr → Prop
def Live (μ : Mem) (w : IA) (a : Addr) : Prop := w.F a ∨ ∃ (n : Nat) (m : MO), μ[n]? = some (some m) ∧ w.ι[n]? = some a
def RepX (K : PySem.W.Frag) (μ : Mem) (H : Hp) (w : IA) : XV → V → Prop
  | .d x, v => Rep K (Live μ w) H x v
  | .l n, v => ∃ a, w.ι[n]? = some a ∧ v = .ref a
abbrev RepXs (K : PySem.W.Frag) (μ : Mem) (H : Hp) (w : IA) : List XV → List V → Prop := Paired (RepX K μ H w)
def Holds (K : PySem.W.Frag) (μ : Mem) (H : Hp) (w : IA) : MO → Addr → Prop
  | .lst xs, a => ∃ vs, H a = some (.lst vs) ∧ RepXs K μ H w xs vs
  | .ins C fs xs, a => ∃ dx gs, H a = some (.ins C dx gs) ∧ gs.map (·.1) = fs ∧ RepXs K μ H w xs (gs.map (·.2))
  | .dct ks xs, a => ∃ kvs, H a = some (.dK kvs) ∧ kvs.map (·.1) = ks ∧ RepXs K μ H w xs (kvs.map (·.2))
  | .dcn hs ks xs, a => ∃ ys, H a = some (DcO a ys) ∧ ys.map (·.1) = hs ∧ Reps K (Live μ w) H ks (ys.map fun x => .ref x.2.1) ∧ RepXs K μ H w xs (ys.map fun x => x.2.2)
structure MOk (K : PySem.W.Frag) (μ : Mem) (H : Hp) (w : IA) : Prop where
  len : w.ι.length = μ.length
  inj : ∀ (i j : Nat) (mi mj : MO) (a : Addr), μ[i]? = some (some mi) → μ[j]? = some (some mj) → w.ι[i]? = some a → w.ι[j]? = some a → i = j
  holds : ∀ (n : Nat) (m : MO) (a : Addr), μ[n]? = some (some m) → w.ι[n]? = some a → Holds K μ H w m a
  nF : ∀ (n : Nat) (m : MO) (a : Addr), μ[n]? = some (some m) → w.ι[n]? = some a → ¬ w.F a
  fr : ∀ a, w.F a → ∃ o, H a = some o
structure ROk (K : PySem.W.Frag) (μ : Mem) (H : Hp) (w : IA) (ρ : Env) (σ : L2.St) : Prop where
  len : ρ.length = σ.length
  rep : ∀ (i : Nat) (x : XV), ρ[i]? = some (some x) → ∃ v, σ[i]? = some (some v) ∧ RepX K μ H w x v
/-- what data leans on is kept; cells keep their numbers; what is others' stays -/
structure Stp (μ : Mem) (H : Hp) (w : IA) (μ' : Mem) (H' : Hp) (w' : IA) : Prop where
  keep : ∀ a o, H a = some o → ¬ Live μ w a → H' a = some o ∧ ¬ Live μ' w' a
  num : ∀ (n : Nat) a, w.ι[n]? = some a → w'.ι[n]? = some a
  sF : w'.F = w.F
  frm : ∀ a o, w.F a → H a = some o → H' a = some o
  there : ∀ a o, H a = some o → ∃ o', H' a = some o'
  new : ∀ (n : Nat) a, w.ι.length ≤ n → w'.ι[n]? = some a → H a = none
theorem none_of {H H' : Hp} (h : ∀ a o, H a = some o → ∃ o', H' a = some o') {a : Addr} (e : H' a = none) : H a = none := by
  cases q : H a with
  | none => rfl
  | some o =>
    obtain ⟨o', q'⟩ := h a o q
    rw [e] at q'
    cases q'
theorem past {l : List Addr} {n : Nat} {a : Addr} (h : l.length ≤ n) (e : l[n]? = some a) : False := by
  rw [List.getElem?_eq_none h] at e
  cases e
section
variable {K : PySem.W.Frag} {L L' : Addr → Prop} {H H' : Hp}
mutual
theorem Rep.mono (k : ∀ a o, H a = some o → ¬ L a → H' a = some o ∧ ¬ L' a) : ∀ (d : D) (v : V), Rep K L H d v → Rep K L' H' d v
  | .non, _, h => h
  | .bl _, _, h => h
  | .int _, _, h => h
  | .txt _, _, h => h
  | .ty _, _, h => h
  | .ref _, _, h => h
  | .scr ns, v, h => by
    obtain ⟨a, e, ⟨r, q | ⟨o, q⟩⟩ | r⟩ := h
    · exact ⟨a, e, .inl ⟨(k a _ q r).2, .inl (k a _ q r).1⟩⟩
    · exact ⟨a, e, .inl ⟨(k a _ q r).2, .inr ⟨o, (k a _ q r).1⟩⟩⟩
    · exact ⟨a, e, .inr r⟩
  | .lst ds, v, h => by
    obtain ⟨a, xs, e, nl, q, r⟩ := h
    exact ⟨a, xs, e, (k a _ q nl).2, (k a _ q nl).1, Reps.mono k ds xs r⟩
  | .tup ds, v, h => by
    obtain ⟨a, xs, e, nl, q, r⟩ := h
    exact ⟨a, xs, e, (k a _ q nl).2, (k a _ q nl).1, Reps.mono k ds xs r⟩
  | .ins C fs ds, v, h => by
    obtain ⟨a, dx, gs, e, nl, q, g, r⟩ := h
    exact ⟨a, dx, gs, e, (k a _ q nl).2, (k a _ q nl).1, g, Reps.mono k ds _ r⟩
  | .dct ks ds, v, h => by
    obtain ⟨a, o, kvs, e, nl, q, g, r⟩ := h
    exact ⟨a, o, kvs, e, (k a _ q nl).2, (k a _ q nl).1, g, Reps.mono k ds _ r⟩
  | .dcn hs ks ds, v, h => by
    obtain ⟨a, xs, e, nl, q, g, r1, r2⟩ := h
    exact ⟨a, xs, e, (k a _ q nl).2, (k a _ q nl).1, g, Reps.mono k ks _ r1, Reps.mono k ds _ r2⟩
  | .exc C fs ds, v, h => by
    obtain ⟨a, e, nl, ⟨f0, d0, q⟩ | ⟨dd, gs, q, nd, q2, g, r⟩⟩ := h
    · exact ⟨a, e, (k a _ q nl).2, .inl ⟨f0, d0, (k a _ q nl).1⟩⟩
    · exact ⟨a, e, (k a _ q nl).2, .inr ⟨dd, gs, (k a _ q nl).1, (k dd _ q2 nd).2, (k dd _ q2 nd).1, g, Reps.mono k ds _ r⟩⟩
theorem Reps.mono (k : ∀ a o, H a = some o → ¬ L a → H' a = some o ∧ ¬ L' a) : ∀ (ds : List D) (xs : List V), Reps K L H ds xs → Reps K L' H' ds xs
  | [], _, h => h
  | d :: ds, xs, h => by
    obtain ⟨x, r, e, h1, h2⟩ := h
    exact ⟨x, r, e, Rep.mono k d x h1, Reps.mono k ds r h2⟩
end
theorem Reps.len : ∀ {ds : List D} {xs : List V}, Reps K L H ds xs → xs.length = ds.length
  | [], _, h => by rw [show _ = [] from h]; rfl
  | d :: ds, xs, h => by
    obtain ⟨x, r, e, _, h2⟩ := h
    rw [e, List.length_cons, List.length_cons, Reps.len h2]
theorem Reps.get : ∀ {ds : List D} {xs : List V} {i : Nat} {d : D}, Reps K L H ds xs → ds[i]? = some d → ∃ v, xs[i]? = some v ∧ Rep K L H d v
  | [], _, _, _, _, e => by simp at e
  | d :: ds, xs, 0, d', h, e => by
    obtain ⟨x, r, rfl, h1, _⟩ := h
    simp at e
    subst e
    exact ⟨x, rfl, h1⟩
  | d :: ds, xs, i + 1, d', h, e => by
    obtain ⟨x, r, rfl, _, h2⟩ := h
    obtain ⟨v, e1, q⟩ := Reps.get (i := i) h2 (by simpa using e)
    exact ⟨v, by simpa using e1, q⟩
theorem Reps.append : ∀ {ds es : List D} {xs ys : List V}, Reps K L H ds xs → Reps K L H es ys → Reps K L H (ds ++ es) (xs ++ ys)
  | [], _, _, _, h, k => by rw [show _ = [] from h]; exact k
  | d :: ds, _, _, _, h, k => by
    obtain ⟨x, r, rfl, h1, h2⟩ := h
    exact ⟨x, _, rfl, h1, Reps.append h2 k⟩
theorem Reps.take : ∀ {ds : List D} {xs : List V} (n : Nat), Reps K L H ds xs → Reps K L H (ds.take n) (xs.take n)
  | _, _, 0, _ => by simp [Reps]
  | [], _, n + 1, h => by rw [show _ = [] from h]; simp [Reps]
  | d :: ds, _, n + 1, h => by
    obtain ⟨x, r, rfl, h1, h2⟩ := h
    exact ⟨x, _, rfl, h1, Reps.take n h2⟩
theorem Reps.drop : ∀ {ds : List D} {xs : List V} (n : Nat), Reps K L H ds xs → Reps K L H (ds.drop n) (xs.drop n)
  | _, _, 0, h => h
  | [], _, n + 1, h => by rw [show _ = [] from h]; simp [Reps]
  | d :: ds, _, n + 1, h => by
    obtain ⟨x, r, rfl, h1, h2⟩ := h
    exact Reps.drop n h2
theorem Reps.one {d : D} {v : V} (h : Rep K L H d v) : Reps K L H [d] [v] := ⟨v, [], rfl, h, rfl⟩
theorem Reps.ints : ∀ {ns : List Int} {xs : List V}, Reps K L H (ns.map D.int) xs → xs = ns.map V.int
  | [], _, h => h
  | n :: ns, _, h => by
    obtain ⟨x, r, rfl, h1, h2⟩ := h
    rw [Reps.ints h2, show x = V.int n from h1]
    rfl
theorem Reps.of_ints : ∀ {ns : List Int}, Reps K L H (ns.map D.int) (ns.map V.int)
  | [] => rfl
  | n :: ns => ⟨_, _, rfl, rfl, Reps.of_ints⟩
theorem Reps.txts : ∀ {ls : List (List Nat)} {xs : List V}, Reps K L H (ls.map D.txt) xs → xs = (ls.map SX.S).map V.str
  | [], _, h => h
  | n :: ns, _, h => by
    obtain ⟨x, r, rfl, h1, h2⟩ := h
    rw [Reps.txts h2, show x = V.str (SX.S n) from h1]
    rfl
theorem Reps.of_txts : ∀ {ls : List (List Nat)}, Reps K L H (ls.map D.txt) ((ls.map SX.S).map V.str)
  | [] => rfl
  | n :: ns => ⟨_, _, rfl, rfl, Reps.of_txts⟩
theorem Reps.bls : ∀ {bs : List Bool} {xs : List V}, Reps K L H (bs.map D.bl) xs → xs = bs.map V.bl
  | [], _, h => h
  | n :: ns, _, h => by
    obtain ⟨x, r, rfl, h1, h2⟩ := h
    rw [Reps.bls h2, show x = V.bl n from h1]
    rfl
end
section
variable {K : PySem.W.Frag} {μ μ' μ2 : Mem} {H H' H2 : Hp} {w w' w2 : IA} {ρ : Env} {σ : L2.St}
theorem Stp.refl : Stp μ H w μ H w := ⟨fun _ _ h n => ⟨h, n⟩, fun _ _ h => h, rfl, fun _ _ _ h => h, fun _ o h => ⟨o, h⟩, fun _ _ h e => (past h e).elim⟩
theorem Stp.trans (a : Stp μ H w μ' H' w') (b : Stp μ' H' w' μ2 H2 w2) : Stp μ H w μ2 H2 w2 :=
  ⟨fun c o h n => b.keep c o (a.keep c o h n).1 (a.keep c o h n).2, fun n c h => b.num n c (a.num n c h), b.sF.trans a.sF, fun c o f h => b.frm c o (by rw [a.sF]; exact f) (a.frm c o f h), fun c o h => by
    obtain ⟨o1, h1⟩ := a.there c o h
    exact b.there c o1 h1, fun n c hn e => by
    by_cases hl : n < w'.ι.length
    · have e1 : w'.ι[n]? = some w'.ι[n] := List.getElem?_eq_getElem hl
      have e2 := b.num n _ e1
      rw [e] at e2
      exact a.new n c hn (by rw [e1]; exact e2.symm)
    · exact none_of a.there (b.new n c (by omega) e)⟩
theorem RepX.stp (S : Stp μ H w μ' H' w') {x : XV} {v : V} (h : RepX K μ H w x v) : RepX K μ' H' w' x v := by
  cases x with
  | d x => exact Rep.mono S.keep x v h
  | l n =>
    obtain ⟨a, e, r⟩ := h
    exact ⟨a, S.num n a e, r⟩
theorem RepXs.stp (S : Stp μ H w μ' H' w') {xs : List XV} {vs : List V} (h : RepXs K μ H w xs vs) : RepXs K μ' H' w' xs vs :=
  Paired.mapP h fun _ _ r => r.stp S
theorem ROk.stp (S : Stp μ H w μ' H' w') (h : ROk K μ H w ρ σ) : ROk K μ' H' w' ρ σ := ⟨h.len, fun i x e => by
  obtain ⟨v, e1, r⟩ := h.rep i x e
  exact ⟨v, e1, r.stp S⟩⟩
theorem Holds.stp (S : Stp μ H w μ' H' w') {m : MO} {a : Addr} (k : ∀ o, H a = some o → H' a = some o) (h : Holds K μ H w m a) : Holds K μ' H' w' m a := by
  cases m with
  | lst xs =>
    obtain ⟨vs, e, r⟩ := h
    exact ⟨vs, k _ e, RepXs.stp S r⟩
  | ins C fs xs =>
    obtain ⟨dx, gs, e, f, r⟩ := h
    exact ⟨dx, gs, k _ e, f, RepXs.stp S r⟩
  | dct ks xs =>
    obtain ⟨kvs, e, f, r⟩ := h
    exact ⟨kvs, k _ e, f, RepXs.stp S r⟩
  | dcn hs ks xs =>
    obtain ⟨ys, e, f, r1, r2⟩ := h
    exact ⟨ys, k _ e, f, Reps.mono S.keep ks _ r1, RepXs.stp S r2⟩
theorem Holds.there {m : MO} {a : Addr} (h : Holds K μ H w m a) : ∃ o, H a = some o := by
  cases m with
  | lst xs => obtain ⟨vs, e, r⟩ := h; exact ⟨_, e⟩
  | ins C fs xs => obtain ⟨dx, gs, e, _⟩ := h; exact ⟨_, e⟩
  | dct ks xs => obtain ⟨kvs, e, _⟩ := h; exact ⟨_, e⟩
  | dcn hs ks xs => obtain ⟨ys, e, _⟩ := h; exact ⟨_, e⟩
theorem MOk.live_there (M : MOk K μ H w) {a : Addr} (h : Live μ w a) : ∃ o, H a = some o := by
  rcases h with h | ⟨n, m, e1, e2⟩
  · exact M.fr a h
  · exact (M.holds n m a e1 e2).there
theorem MOk.no_live (M : MOk K μ H w) {p : Addr} (hp : H p = none) (l : Live μ w p) : False := by
  obtain ⟨u, hu⟩ := M.live_there l
  rw [hp] at hu
  cases hu
/-- new objects, nothing else -/
theorem Stp.grow (k : ∀ a o, H a = some o → H' a = some o) : Stp μ H w μ H' w := ⟨fun a o h n => ⟨k a o h, n⟩, fun _ _ h => h, rfl, fun a o _ h => k a o h, fun a o h => ⟨o, k a o h⟩, fun _ _ h e => (past h e).elim⟩
theorem MOk.grow (M : MOk K μ H w) (k : ∀ a o, H a = some o → H' a = some o) : MOk K μ H' w :=
  ⟨M.len, M.inj, fun n m a e1 e2 => Holds.stp (Stp.grow k) (fun o h => k a o h) (M.holds n m a e1 e2), M.nF, fun a f => let ⟨o, h⟩ := M.fr a f; ⟨o, k a o h⟩⟩
theorem upd_grow {p : Addr} {o : HO} (h : H p = none) : ∀ a u, H a = some u → upd H p o a = some u := fun a u e => by
  rw [upd_ne (ne_of_none e h)]
  exact e
/-- a new cell -/
def IA.push (w : IA) (p : Addr) : IA := ⟨w.ι ++ [p], w.F⟩
theorem live_push {m : MO} {p a : Addr} (M : MOk K μ H w) : Live (μ ++ [some m]) (w.push p) a ↔ Live μ w a ∨ a = p := by
  have hl := M.len
  constructor
  · rintro (f | ⟨n, mm, e1, e2⟩)
    · exact .inl (.inl f)
    · have e2 : (w.ι ++ [p])[n]? = some a := e2
      by_cases hn : n < μ.length
      · rw [List.getElem?_append_left hn] at e1
        rw [List.getElem?_append_left (by omega)] at e2
        exact .inl (.inr ⟨n, mm, e1, e2⟩)
      · have hn2 : n = w.ι.length := by
          have : n < (w.ι ++ [p]).length := (List.getElem?_eq_some_iff.mp e2).1
          rw [List.length_append] at this
          simp at this
          omega
        subst hn2
        rw [List.getElem?_append_right (Nat.le_refl _)] at e2
        simp at e2
        exact .inr e2.symm
  · rintro ((f | ⟨n, mm, e1, e2⟩) | rfl)
    · exact .inl f
    · refine .inr ⟨n, mm, ?_, ?_⟩
      · rw [List.getElem?_append_left (List.getElem?_eq_some_iff.mp e1).1]; exact e1
      · show (w.ι ++ [p])[n]? = _
        rw [List.getElem?_append_left (List.getElem?_eq_some_iff.mp e2).1]; exact e2
    · refine .inr ⟨μ.length, m, ?_, ?_⟩
      · rw [List.getElem?_append_right (Nat.le_refl _)]; simp
      · show (w.ι ++ [a])[μ.length]? = _
        rw [← hl, List.getElem?_append_right (Nat.le_refl _)]; simp
theorem Stp.push {m : MO} {p : Addr} (M : MOk K μ H w) (hp : H p = none) (k : ∀ a o, H a = some o → H' a = some o) : Stp μ H w (μ ++ [some m]) H' (w.push p) := by
  refine ⟨fun a o h n => ⟨k a o h, fun q => ?_⟩, fun n a e => ?_, rfl, fun a o _ h => k a o h, fun a o h => ⟨o, k a o h⟩, fun n a hn e => ?_⟩
  · rcases (live_push M).mp q with q | q
    · exact n q
    · exact ne_of_none h hp q
  · show (w.ι ++ [p])[n]? = some a
    rw [List.getElem?_append_left (List.getElem?_eq_some_iff.mp e).1]
    exact e
  · have e : (w.ι ++ [p])[n]? = some a := e
    rw [List.getElem?_append_right hn] at e
    have := List.mem_of_getElem? e
    rw [List.mem_singleton.mp this]
    exact hp
theorem MOk.push {m : MO} {p : Addr} (M : MOk K μ H w) (hp : H p = none) (k : ∀ a o, H a = some o → H' a = some o) (h : Holds K (μ ++ [some m]) H' (w.push p) m p) : MOk K (μ ++ [some m]) H' (w.push p) := by
  have S : Stp μ H w (μ ++ [some m]) H' (w.push p) := Stp.push M hp k
  have hl := M.len
  have split : ∀ (n : Nat) (mm : MO) (a : Addr), (μ ++ [some m])[n]? = some (some mm) → (w.ι ++ [p])[n]? = some a → (μ[n]? = some (some mm) ∧ w.ι[n]? = some a) ∨ (n = μ.length ∧ mm = m ∧ a = p) := by
    intro n mm a e1 e2
    by_cases hn : n < μ.length
    · rw [List.getElem?_append_left hn] at e1
      rw [List.getElem?_append_left (by omega)] at e2
      exact .inl ⟨e1, e2⟩
    · have hn2 : n = μ.length := by
        have : n < (μ ++ [some m]).length := (List.getElem?_eq_some_iff.mp e1).1
        rw [List.length_append] at this
        simp at this
        omega
      subst hn2
      rw [List.getElem?_append_right (Nat.le_refl _)] at e1
      rw [← hl, List.getElem?_append_right (Nat.le_refl _)] at e2
      simp at e1 e2
      exact .inr ⟨rfl, e1.symm, e2.symm⟩
  refine ⟨by show (w.ι ++ [p]).length = _; rw [List.length_append, List.length_append, hl]; rfl, fun i j mi mj a e1 e2 e3 e4 => ?_, fun n mm a e1 e2 => ?_, fun n mm a e1 e2 f => ?_, fun a f => let ⟨o, h⟩ := M.fr a f; ⟨o, k a o h⟩⟩
  · rcases split i mi a e1 e3 with ⟨a1, a2⟩ | ⟨a1, a2, a3⟩
    · rcases split j mj a e2 e4 with ⟨b1, b2⟩ | ⟨b1, b2, b3⟩
      · exact M.inj i j mi mj a a1 b1 a2 b2
      · obtain ⟨o, ho⟩ := (M.holds i mi a a1 a2).there
        subst b3
        rw [hp] at ho
        cases ho
    · rcases split j mj a e2 e4 with ⟨b1, b2⟩ | ⟨b1, b2, b3⟩
      · obtain ⟨o, ho⟩ := (M.holds j mj a b1 b2).there
        subst a3
        rw [hp] at ho
        cases ho
      · rw [a1, b1]
  · rcases split n mm a e1 e2 with ⟨a1, a2⟩ | ⟨a1, a2, a3⟩
    · exact (M.holds n mm a a1 a2).stp S fun o h => k a o h
    · subst a2; subst a3; exact h
  · rcases split n mm a e1 e2 with ⟨a1, a2⟩ | ⟨a1, a2, a3⟩
    · exact M.nF n mm a a1 a2 f
    · subst a3
      obtain ⟨o, ho⟩ := M.fr a f
      rw [hp] at ho
      cases ho
/-- a cell is written (some m) or let go (none) -/
theorem live_set {n : Nat} {m0 : MO} {mo : Option MO} {a b : Addr} (hn : μ[n]? = some (some m0)) (ha : w.ι[n]? = some a) : Live (μ.set n mo) w b → Live μ w b := by
  rintro (f | ⟨k, mm, e1, e2⟩)
  · exact .inl f
  · by_cases hk : n = k
    · subst hk
      rw [ha] at e2
      cases e2
      exact .inr ⟨n, m0, hn, ha⟩
    · rw [List.getElem?_set_ne hk] at e1
      exact .inr ⟨k, mm, e1, e2⟩
theorem Stp.set {n : Nat} {m0 : MO} {mo : Option MO} {a : Addr} (M : MOk K μ H w) (hn : μ[n]? = some (some m0)) (ha : w.ι[n]? = some a) (k : ∀ b o, b ≠ a → H b = some o → H' b = some o) (ka : ∃ o', H' a = some o' := by exact ⟨_, upd_same⟩) : Stp μ H w (μ.set n mo) H' w := by
  refine ⟨fun b o h nl => ⟨k b o (fun e => nl (e ▸ .inr ⟨n, m0, hn, ha⟩)) h, fun q => nl (live_set hn ha q)⟩, fun _ _ h => h, rfl, fun b o f h => k b o (fun e => M.nF n m0 a hn ha (e ▸ f)) h, fun b o h => ?_, fun _ _ h e => (past h e).elim⟩
  by_cases e : b = a
  · rw [e]; exact ka
  · exact ⟨o, k b o e h⟩
theorem MOk.set {n : Nat} {m0 : MO} {mo : Option MO} {a : Addr} (M : MOk K μ H w) (hn : μ[n]? = some (some m0)) (ha : w.ι[n]? = some a) (k : ∀ b o, b ≠ a → H b = some o → H' b = some o)
    (h : ∀ m, mo = some m → Holds K (μ.set n mo) H' w m a) (ka : ∃ o', H' a = some o' := by exact ⟨_, upd_same⟩) : MOk K (μ.set n mo) H' w := by
  have S : Stp μ H w (μ.set n mo) H' w := Stp.set M hn ha k ka
  have old : ∀ (i : Nat) (m : MO), i ≠ n → (μ.set n mo)[i]? = some (some m) → μ[i]? = some (some m) := fun i m hi e => by
    rw [List.getElem?_set_ne (Ne.symm hi)] at e
    exact e
  have hlt : n < μ.length := (List.getElem?_eq_some_iff.mp hn).1
  have key : ∀ (i : Nat) (m : MO), (μ.set n mo)[i]? = some (some m) → ∃ m', μ[i]? = some (some m') := fun i m e => by
    by_cases hi : i = n
    · subst hi; exact ⟨m0, hn⟩
    · exact ⟨m, old i m hi e⟩
  refine ⟨by rw [List.length_set]; exact M.len, fun i j mi mj b e1 e2 e3 e4 => ?_, fun i m b e1 e2 => ?_, fun i m b e1 e2 f => ?_, fun b f => ?_⟩
  · obtain ⟨m1, q1⟩ := key i mi e1
    obtain ⟨m2, q2⟩ := key j mj e2
    exact M.inj i j m1 m2 b q1 q2 e3 e4
  · by_cases hi : i = n
    · subst hi
      rw [ha] at e2
      cases e2
      rw [List.getElem?_set_self hlt] at e1
      exact h m (Option.some.inj e1)
    · have q := old i m hi e1
      have hne : b ≠ a := fun e => hi (M.inj i n m m0 a q hn (by rw [← e]; exact e2) ha)
      exact (M.holds i m b q e2).stp S fun o ho => k b o hne ho
  · obtain ⟨m1, q1⟩ := key i m e1
    exact M.nF i m1 b q1 e2 f
  · obtain ⟨o, ho⟩ := M.fr b f
    exact ⟨o, k b o (fun e => M.nF n m0 a hn ha (e ▸ f)) ho⟩
/-- the cells behind the first n are forgotten -/
def IA.cut (w : IA) (n : Nat) : IA := ⟨w.ι.take n, w.F⟩
theorem live_cut {n : Nat} {a : Addr} : Live (μ.take n) (w.cut n) a → Live μ w a := by
  rintro (f | ⟨k, m, e1, e2⟩)
  · exact .inl f
  · have h1 : k < n := by
      have := (List.getElem?_eq_some_iff.mp e1).1
      rw [List.length_take] at this
      omega
    have e2 : (w.ι.take n)[k]? = some a := e2
    rw [List.getElem?_take_of_lt h1] at e1 e2
    exact .inr ⟨k, m, e1, e2⟩
theorem Rep.cut {n : Nat} {x : D} {v : V} (h : Rep K (Live μ w) H x v) : Rep K (Live (μ.take n) (w.cut n)) H x v := Rep.mono (fun a o e nl => ⟨e, fun q => nl (live_cut q)⟩) x v h
/-- a handle that is left behind the cut -/
def XV.below (n : Nat) : XV → Prop
  | .d _ => True
  | .l k => k < n
def MO.below (n : Nat) : MO → Prop
  | .lst xs => ∀ x ∈ xs, x.below n
  | .ins _ _ xs => ∀ x ∈ xs, x.below n
  | .dct _ xs => ∀ x ∈ xs, x.below n
  | .dcn _ _ xs => ∀ x ∈ xs, x.below n
theorem RepX.cut {n : Nat} {x : XV} {v : V} (hb : x.below n) (h : RepX K μ H w x v) : RepX K (μ.take n) H (w.cut n) x v := by
  cases x with
  | d x => exact Rep.cut h
  | l k =>
    obtain ⟨a, e, r⟩ := h
    refine ⟨a, ?_, r⟩
    show (w.ι.take n)[k]? = some a
    rw [List.getElem?_take_of_lt hb]
    exact e
theorem RepXs.cut {n : Nat} : ∀ {xs : List XV} {vs : List V}, (∀ x ∈ xs, x.below n) → RepXs K μ H w xs vs → RepXs K (μ.take n) H (w.cut n) xs vs
  | _, _, _, .nil => .nil
  | _, _, hb, .cons r t => .cons (RepX.cut (hb _ List.mem_cons_self) r) (RepXs.cut (fun x hx => hb x (List.mem_cons_of_mem _ hx)) t)
theorem MOk.cut (M : MOk K μ H w) (n : Nat) (hb : ∀ m, some m ∈ μ.take n → m.below n) : MOk K (μ.take n) H (w.cut n) := by
  have lt : ∀ {k : Nat} {m : MO}, (μ.take n)[k]? = some (some m) → k < n := fun {k m} e => by
    have := (List.getElem?_eq_some_iff.mp e).1
    rw [List.length_take] at this
    omega
  have old : ∀ {k : Nat} {m : MO} {a : Addr}, (μ.take n)[k]? = some (some m) → (w.cut n).ι[k]? = some a → μ[k]? = some (some m) ∧ w.ι[k]? = some a := fun {k m a} e1 e2 => by
    have h1 := lt e1
    have e2 : (w.ι.take n)[k]? = some a := e2
    rw [List.getElem?_take_of_lt h1] at e1 e2
    exact ⟨e1, e2⟩
  refine ⟨by show (w.ι.take n).length = _; rw [List.length_take, List.length_take, M.len], fun i j mi mj a e1 e2 e3 e4 => M.inj i j mi mj a (old e1 e3).1 (old e2 e4).1 (old e1 e3).2 (old e2 e4).2, fun k m a e1 e2 => ?_, fun k m a e1 e2 => M.nF k m a (old e1 e2).1 (old e1 e2).2, M.fr⟩
  have hm := hb m (List.mem_of_getElem? e1)
  have h := M.holds k m a (old e1 e2).1 (old e1 e2).2
  cases m with
  | lst xs =>
    obtain ⟨vs, e, r⟩ := h
    exact ⟨vs, e, RepXs.cut hm r⟩
  | ins C fs xs =>
    obtain ⟨dx, gs, e, f, r⟩ := h
    exact ⟨dx, gs, e, f, RepXs.cut hm r⟩
  | dct ks xs =>
    obtain ⟨kvs, e, f, r⟩ := h
    exact ⟨kvs, e, f, RepXs.cut hm r⟩
  | dcn hs ks xs =>
    obtain ⟨ys, e, f, r1, r2⟩ := h
    exact ⟨ys, e, f, Reps.mono (fun a o q nl => ⟨q, fun z => nl (live_cut z)⟩) ks _ r1, RepXs.cut hm r2⟩
/-- an object is hidden: it is others' for a while -/
def IA.hide (w : IA) (p : Addr) : IA := ⟨w.ι, fun a => w.F a ∨ a = p⟩
theorem live_hide {p a : Addr} : Live μ (w.hide p) a ↔ Live μ w a ∨ a = p := by
  constructor
  · rintro ((f | f) | q)
    · exact .inl (.inl f)
    · exact .inr f
    · exact .inl (.inr q)
  · rintro ((f | q) | f)
    · exact .inl (.inl f)
    · exact .inr q
    · exact .inl (.inr f)
end
end DL
set_option maxRecDepth 100000
set_option maxHeartbeats 2000000
namespace DL
open PySem L2 PySem.Spec
/-! ### contexts -/
/-- what a block's code sees, whatever its frame is -/
structure SC where
  P : Program
  wd : World
  K : PySem.W.Frag
  mg : Str → Option Value
  base : Heap
  N : List Str
  sc : Scope
  own : Str → Bool
  room : Nat
  g : Bool := true
  top : Bool := false
  cm : Bool := true
structure SC.Has (C : SC) (X : Cx) : Prop where
  P : X.prog = C.P
  wd : X.w = C.wd
  K : X.K = C.K
  mg : X.mg = C.mg
  base : X.base = C.base
  N : X.N = C.N
  sc : X.env.scope = C.sc
  own : ∀ x, C.own x = true → X.fn x = true ∨ X.env.scope.names.lookup x = some .local
  room : C.cm = true → Room C.room X.A
  un : X.A.units + 200 < cLine
  calm : C.cm = true → X.calm = true
  po : PassesOwn (model X.prog X.w) X.A X.env X.xe
  gd : C.g = true → X.A.guards = some []
  fr : C.top = true → X.stack = X.env :: X.outer ∧ X.env.frame = some X.env.locals ∧ X.ex = []
theorem SC.Has.u64 {C : SC} {X : Cx} (h : C.Has X) : X.A.units + 64 < cLine := by have := h.un; omega
/-- nothing that was raised is being handled -/
class Calm (C : SC) : Prop where
  h : C.cm = true
abbrev SC.Vis (C : SC) (x : Str) : Prop := L2.Vis C.sc x
abbrev SC.Glob (C : SC) (x : Str) : Prop := C.sc.names.lookup x = some .globalImplicit
/-- a comprehension's block -/
def SC.blk (C : SC) (scope : Scope) : SC := { C with sc := relS scope C.sc, own := fun x => scope.names.lookup x == some .local || scope.names.lookup x == some .cell, top := false }
instance {C : SC} [Calm C] {scope : Scope} : Calm (C.blk scope) := ⟨Calm.h (C := C)⟩
/-- an exception: its class, its fields; the names and cells where it is raised -/
abbrev EPost := Addr → List (Str × D) → Env → Mem → Prop
def noE : EPost := fun _ _ _ _ => False
def XRep (K : PySem.W.Frag) (μ : Mem) (H : Hp) (w : IA) (d : Option Addr) (fl : List (Str × D)) : Prop :=
  match d with
  | none => fl = []
  | some a => ¬ Live μ w a ∧ ∃ gs, H a = some (.xd gs) ∧ gs.map (·.1) = fl.map (·.1) ∧ Reps K (Live μ w) H (fl.map (·.2)) (gs.map (·.2))
def liftE (K : PySem.W.Frag) (E : EPost) (μ : Mem) (H : Hp) (w : IA) : WX := fun cls d σ' H' =>
  ∃ Cl fl ρ' μ' w', cls = .ref Cl ∧ XRep K μ' H' w' d fl ∧ MOk K μ' H' w' ∧ ROk K μ' H' w' ρ' σ' ∧ Stp μ H w μ' H' w' ∧ E Cl fl ρ' μ'
/-- the place at which code stands -/
structure At (C : SC) (X : Cx) (E : EPost) (ρ : Env) (μ : Mem) (σ : L2.St) (H : Hp) (w : IA) : Prop where
  has : C.Has X
  M : MOk C.K μ H w
  R : ROk C.K μ H w ρ σ
  T : Takes X (liftE C.K E μ H w)
section
variable {C : SC} {X : Cx} {E : EPost} {ρ ρ' : Env} {μ μ' : Mem} {σ σ' : L2.St} {H H' : Hp} {w w' : IA}
theorem liftE.from (S : Stp μ H w μ' H' w') {K : PySem.W.Frag} {cls : Value} {d : Option Addr} {σ' : L2.St} {H2 : Hp} (h : liftE K E μ' H' w' cls d σ' H2) : liftE K E μ H w cls d σ' H2 := by
  obtain ⟨Cl, fl, ρ2, μ2, w2, h1, h2, h3, h4, h5, h6⟩ := h
  exact ⟨Cl, fl, ρ2, μ2, w2, h1, h2, h3, h4, S.trans h5, h6⟩
theorem At.step (A : At C X E ρ μ σ H w) (S : Stp μ H w μ' H' w') (M : MOk C.K μ' H' w') : At C X E ρ μ' σ H' w' :=
  ⟨A.has, M, A.R.stp S, A.T.imp fun _ _ _ _ h => liftE.from S h⟩
theorem At.env (A : At C X E ρ μ σ H w) (R : ROk C.K μ H w ρ' σ') : At C X E ρ' μ σ' H w := ⟨A.has, A.M, R, A.T⟩
end
/-! ### judgements -/
def lift (K : PySem.W.Frag) (Q : XV → Mem → Prop) (μ : Mem) (H : Hp) (w : IA) : VK := fun v H' =>
  ∃ x μ' w', RepX K μ' H' w' x v ∧ MOk K μ' H' w' ∧ Stp μ H w μ' H' w' ∧ Q x μ'
def liftT (K : PySem.W.Frag) (Q : Bool → Mem → Prop) (μ : Mem) (H : Hp) (w : IA) : Bool → Hp → Prop := fun b H' =>
  ∃ μ' w', MOk K μ' H' w' ∧ Stp μ H w μ' H' w' ∧ Q b μ'
def liftA (K : PySem.W.Frag) (Q : List XV → Mem → Prop) (μ : Mem) (H : Hp) (w : IA) : List V → Hp → Prop := fun vs H' =>
  ∃ xs μ' w', RepXs K μ' H' w' xs vs ∧ MOk K μ' H' w' ∧ Stp μ H w μ' H' w' ∧ Q xs μ'
/-- the whole meaning of code, as a reading -/
def tE (X : Cx) (e : Expr) : TE := fun σ H Q => ∀ pins s, Inv X pins σ H s → wpAny (model X.prog X.w) X.A (eval e X.env) (EP X pins σ Q) X.xe s
def tT (X : Cx) (e : Expr) : TT := fun σ H Q => ∀ pins s, Inv X pins σ H s → wpAny (model X.prog X.w) X.A (isTrue e X.env (eval e X.env)) (TP X pins σ Q) X.xe s
def tW (X : Cx) (e : Expr) : TT := fun σ H Q => ∀ whole pins s, Inv X pins σ H s → wpAny (model X.prog X.w) X.A (isTrue e X.env whole) (TP X pins σ Q) X.xe s
def tA (X : Cx) (es : List Expr) : TA := fun σ H Q => ∀ pos pins s, Inv X pins σ H s → wpAny (model X.prog X.w) X.A (spliced (backTo pos (starEach es X.env))) (AP X pins σ Q) X.xe s
def tS (X : Cx) (sts : List Stmt) : TS := fun D σ H => ∀ pins s, Inv X pins σ H s → wpAny (model X.prog X.w) X.A (execs sts X.env) (SP X pins D) X.xe s
def tS1 (X : Cx) (st : Stmt) : TS := fun D σ H => ∀ pins s, Inv X pins σ H s → wpAny (model X.prog X.w) X.A (exec st X.env) (SP X pins D) X.xe s
section
variable {X : Cx} {e : Expr} {es : List Expr} {sts : List Stmt} {st : Stmt}
theorem pe_tE : PE X e (tE X e) := ⟨fun pins s _ _ _ I h => h pins s I⟩
theorem pt_tT : PT X e (tT X e) := ⟨fun pins s _ _ _ I h => h pins s I⟩
theorem pw_tW : PW X e (tW X e) := ⟨fun wh pins s _ _ _ I h => h wh pins s I⟩
theorem pa_tA : PA X es (tA X es) := ⟨fun pos pins s _ _ _ I h => h pos pins s I⟩
theorem ps_tS : PSs X sts (tS X sts) := ⟨fun pins s _ _ _ I h => h pins s I⟩
theorem ps_tS1 : PS X st (tS1 X st) := ⟨fun pins s _ _ _ I h => h pins s I⟩
theorem tE_of {t : TE} (h : PE X e t) {σ : L2.St} {H : Hp} {Q : VK} (q : t σ H Q) : tE X e σ H Q := fun pins s I => h.run pins s σ H Q I q
theorem tT_of {t : TT} (h : PT X e t) {σ : L2.St} {H : Hp} {Q : Bool → Hp → Prop} (q : t σ H Q) : tT X e σ H Q := fun pins s I => h.run pins s σ H Q I q
theorem tW_of {t : TT} (h : PW X e t) {σ : L2.St} {H : Hp} {Q : Bool → Hp → Prop} (q : t σ H Q) : tW X e σ H Q := fun wh pins s I => h.run wh pins s σ H Q I q
theorem tA_of {t : TA} (h : PA X es t) {σ : L2.St} {H : Hp} {Q : List V → Hp → Prop} (q : t σ H Q) : tA X es σ H Q := fun pos pins s I => h.run pos pins s σ H Q I q
theorem tS_of {t : TS} (h : PSs X sts t) {σ : L2.St} {H : Hp} {D : Ends} (q : t D σ H) : tS X sts D σ H := fun pins s I => h.run pins s σ H D I q
theorem tS1_of {t : TS} (h : PS X st t) {σ : L2.St} {H : Hp} {D : Ends} (q : t D σ H) : tS1 X st D σ H := fun pins s I => h.run pins s σ H D I q
theorem tE_mono {σ : L2.St} {H : Hp} {Q Q' : VK} (h : tE X e σ H Q) (k : ∀ v H', Q v H' → Q' v H') : tE X e σ H Q' := fun pins s I =>
  thn (h pins s I) fun _ _ ⟨v, H', I', r, q⟩ => ⟨v, H', I', r, k v H' q⟩
theorem tT_mono {σ : L2.St} {H : Hp} {Q Q' : Bool → Hp → Prop} (h : tT X e σ H Q) (k : ∀ b H', Q b H' → Q' b H') : tT X e σ H Q' := fun pins s I =>
  thn (h pins s I) fun _ _ ⟨H', I', q⟩ => ⟨H', I', k _ H' q⟩
theorem tW_mono {σ : L2.St} {H : Hp} {Q Q' : Bool → Hp → Prop} (h : tW X e σ H Q) (k : ∀ b H', Q b H' → Q' b H') : tW X e σ H Q' := fun wh pins s I =>
  thn (h wh pins s I) fun _ _ ⟨H', I', q⟩ => ⟨H', I', k _ H' q⟩
theorem tA_mono {σ : L2.St} {H : Hp} {Q Q' : List V → Hp → Prop} (h : tA X es σ H Q) (k : ∀ vs H', Q vs H' → Q' vs H') : tA X es σ H Q' := fun pos pins s I =>
  thn (h pos pins s I) fun _ _ ⟨vs, H', I', r, q⟩ => ⟨vs, H', I', r, k vs H' q⟩
theorem SP_mono {pins : List (Addr × Obj)} {D D' : Ends} {f : Flow} {s' : Shared} (h : SP X pins D f s') (k1 : ∀ σ H, D.nx σ H → D'.nx σ H) (k2 : ∀ v H, D.rt v H → D'.rt v H) (k3 : ∀ σ H, D.bk σ H → D'.bk σ H) (k4 : ∀ σ H, D.ct σ H → D'.ct σ H) : SP X pins D' f s' := by
  cases f with
  | next => obtain ⟨σ', H', I, q⟩ := h; exact ⟨σ', H', I, k1 _ _ q⟩
  | brk => obtain ⟨σ', H', I, q⟩ := h; exact ⟨σ', H', I, k3 _ _ q⟩
  | cont => obtain ⟨σ', H', I, q⟩ := h; exact ⟨σ', H', I, k4 _ _ q⟩
  | ret u => obtain ⟨v, σ', H', I, r, q⟩ := h; exact ⟨v, σ', H', I, r, k2 _ _ q⟩
theorem tS_mono {σ : L2.St} {H : Hp} {D D' : Ends} (h : tS X sts D σ H) (k1 : ∀ σ H, D.nx σ H → D'.nx σ H) (k2 : ∀ v H, D.rt v H → D'.rt v H) (k3 : ∀ σ H, D.bk σ H → D'.bk σ H) (k4 : ∀ σ H, D.ct σ H → D'.ct σ H) : tS X sts D' σ H := fun pins s I =>
  thn (h pins s I) fun _ _ q => SP_mono q k1 k2 k3 k4
end
/-- e, with the names ρ and the cells μ, gives a value and cells of which Q holds, or an exception of which E holds -/
def WE (C : SC) (e : Expr) (ρ : Env) (μ : Mem) (E : EPost) (Q : XV → Mem → Prop) : Prop :=
  ∀ X σ H w, At C X E ρ μ σ H w → tE X e σ H (lift C.K Q μ H w)
def WT (C : SC) (e : Expr) (ρ : Env) (μ : Mem) (E : EPost) (Q : Bool → Mem → Prop) : Prop :=
  ∀ X σ H w, At C X E ρ μ σ H w → tT X e σ H (liftT C.K Q μ H w)
def WW (C : SC) (e : Expr) (ρ : Env) (μ : Mem) (E : EPost) (Q : Bool → Mem → Prop) : Prop :=
  ∀ X σ H w, At C X E ρ μ σ H w → tW X e σ H (liftT C.K Q μ H w)
def WA (C : SC) (es : List Expr) (ρ : Env) (μ : Mem) (E : EPost) (Q : List XV → Mem → Prop) : Prop :=
  ∀ X σ H w, At C X E ρ μ σ H w → tA X es σ H (liftA C.K Q μ H w)
/-- what is wanted behind statements -/
structure DEnds where
  nx : Env → Mem → Prop
  rt : XV → Mem → Prop
  bk : Env → Mem → Prop := fun _ _ => False
  ct : Env → Mem → Prop := fun _ _ => False
def liftN (K : PySem.W.Frag) (Q : Env → Mem → Prop) (μ : Mem) (H : Hp) (w : IA) : L2.St → Hp → Prop := fun σ' H' =>
  ∃ ρ' μ' w', ROk K μ' H' w' ρ' σ' ∧ MOk K μ' H' w' ∧ Stp μ H w μ' H' w' ∧ Q ρ' μ'
def liftD (K : PySem.W.Frag) (D : DEnds) (μ : Mem) (H : Hp) (w : IA) : Ends :=
  { nx := liftN K D.nx μ H w, rt := lift K D.rt μ H w, bk := liftN K D.bk μ H w, ct := liftN K D.ct μ H w }
def WS (C : SC) (sts : List Stmt) (ρ : Env) (μ : Mem) (E : EPost) (D : DEnds) : Prop :=
  ∀ X σ H w, At C X E ρ μ σ H w → tS X sts (liftD C.K D μ H w) σ H
def WS1 (C : SC) (st : Stmt) (ρ : Env) (μ : Mem) (E : EPost) (D : DEnds) : Prop :=
  ∀ X σ H w, At C X E ρ μ σ H w → tS1 X st (liftD C.K D μ H w) σ H
section
variable {C : SC} {X : Cx} {E : EPost} {ρ : Env} {μ μ' : Mem} {σ : L2.St} {H H' : Hp} {w w' : IA} {e : Expr} {es : List Expr} {sts : List Stmt} {Q : XV → Mem → Prop} {QT : Bool → Mem → Prop} {QA : List XV → Mem → Prop}
theorem WE.go (h : WE C e ρ μ E Q) (A : At C X E ρ μ σ H w) {P : VK} (k : ∀ v H1 x μ1 w1, RepX C.K μ1 H1 w1 x v → At C X E ρ μ1 σ H1 w1 → Stp μ H w μ1 H1 w1 → Q x μ1 → P v H1) : tE X e σ H P :=
  tE_mono (h X σ H w A) fun v H1 ⟨x, μ1, w1, r, M, S, q⟩ => k v H1 x μ1 w1 r (A.step S M) S q
theorem WT.go (h : WT C e ρ μ E QT) (A : At C X E ρ μ σ H w) {P : Bool → Hp → Prop} (k : ∀ b H1 μ1 w1, At C X E ρ μ1 σ H1 w1 → Stp μ H w μ1 H1 w1 → QT b μ1 → P b H1) : tT X e σ H P :=
  tT_mono (h X σ H w A) fun b H1 ⟨μ1, w1, M, S, q⟩ => k b H1 μ1 w1 (A.step S M) S q
theorem WW.go (h : WW C e ρ μ E QT) (A : At C X E ρ μ σ H w) {P : Bool → Hp → Prop} (k : ∀ b H1 μ1 w1, At C X E ρ μ1 σ H1 w1 → Stp μ H w μ1 H1 w1 → QT b μ1 → P b H1) : tW X e σ H P :=
  tW_mono (h X σ H w A) fun b H1 ⟨μ1, w1, M, S, q⟩ => k b H1 μ1 w1 (A.step S M) S q
theorem WA.go (h : WA C es ρ μ E QA) (A : At C X E ρ μ σ H w) {P : List V → Hp → Prop} (k : ∀ vs H1 xs μ1 w1, RepXs C.K μ1 H1 w1 xs vs → At C X E ρ μ1 σ H1 w1 → Stp μ H w μ1 H1 w1 → QA xs μ1 → P vs H1) : tA X es σ H P :=
  tA_mono (h X σ H w A) fun v H1 ⟨x, μ1, w1, r, M, S, q⟩ => k v H1 x μ1 w1 r (A.step S M) S q
theorem lift.from {K : PySem.W.Frag} (S : Stp μ H w μ' H' w') {v : V} {H2 : Hp} (h : lift K Q μ' H' w' v H2) : lift K Q μ H w v H2 := by
  obtain ⟨x, μ2, w2, h1, h2, h3, h4⟩ := h
  exact ⟨x, μ2, w2, h1, h2, S.trans h3, h4⟩
theorem liftT.from {K : PySem.W.Frag} (S : Stp μ H w μ' H' w') {b : Bool} {H2 : Hp} (h : liftT K QT μ' H' w' b H2) : liftT K QT μ H w b H2 := by
  obtain ⟨μ2, w2, h2, h3, h4⟩ := h
  exact ⟨μ2, w2, h2, S.trans h3, h4⟩
theorem liftA.from {K : PySem.W.Frag} (S : Stp μ H w μ' H' w') {vs : List V} {H2 : Hp} (h : liftA K QA μ' H' w' vs H2) : liftA K QA μ H w vs H2 := by
  obtain ⟨x, μ2, w2, h1, h2, h3, h4⟩ := h
  exact ⟨x, μ2, w2, h1, h2, S.trans h3, h4⟩
theorem liftN.from {K : PySem.W.Frag} {QN : Env → Mem → Prop} (S : Stp μ H w μ' H' w') {σ2 : L2.St} {H2 : Hp} (h : liftN K QN μ' H' w' σ2 H2) : liftN K QN μ H w σ2 H2 := by
  obtain ⟨x, μ2, w2, h1, h2, h3, h4⟩ := h
  exact ⟨x, μ2, w2, h1, h2, S.trans h3, h4⟩
theorem lift.now {K : PySem.W.Frag} (M : MOk K μ H w) {x : XV} {v : V} (r : RepX K μ H w x v) (q : Q x μ) : lift K Q μ H w v H := ⟨x, μ, w, r, M, Stp.refl, q⟩
/-- a new value object -/
theorem lift.new {K : PySem.W.Frag} (M : MOk K μ H w) {p : Addr} {o : HO} (hp : H p = none) {x : D} (r : ¬ Live μ w p → Rep K (Live μ w) (upd H p o) x (.ref p)) (q : Q (.d x) μ) : lift K Q μ H w (.ref p) (upd H p o) :=
  ⟨.d x, μ, w, r (fun l => M.no_live hp l), M.grow (upd_grow hp), Stp.grow (upd_grow hp), q⟩
theorem WE.cont {Q' : XV → Mem → Prop} (h : WE C e ρ μ E Q) (k : ∀ x μ1, Q x μ1 → Q' x μ1) : WE C e ρ μ E Q' := fun X σ H w A =>
  tE_mono (h X σ H w A) fun _ _ ⟨x, μ1, w1, r, M, S, q⟩ => ⟨x, μ1, w1, r, M, S, k x μ1 q⟩
theorem WT.cont {Q' : Bool → Mem → Prop} (h : WT C e ρ μ E QT) (k : ∀ x μ1, QT x μ1 → Q' x μ1) : WT C e ρ μ E Q' := fun X σ H w A =>
  tT_mono (h X σ H w A) fun _ _ ⟨μ1, w1, M, S, q⟩ => ⟨μ1, w1, M, S, k _ μ1 q⟩
end
/-! ### names, constants -/
section
variable {C : SC} {E : EPost} {ρ : Env} {μ : Mem} {Q : XV → Mem → Prop} {QT : Bool → Mem → Prop} {QA : List XV → Mem → Prop} {a b c e : Expr} {es : List Expr} {pos p : Pos} {x : Str}
theorem we_var (i : Nat) {v : XV} (hN : C.N[i]? = some x) (hv : C.Vis x) (hr : ρ[i]? = some (some v)) (q : Q v μ) (hd : (x == ("__debug__" : Str)) = false := by decide) (hcd : (x == ("__classdict__" : Str)) = false := by decide) :
    WE C (.Name x pos) ρ μ E Q := fun X σ H w A => by
  obtain ⟨u, e1, r⟩ := A.R.rep i v hr
  refine tE_of (pe_var (i := i) (by rw [A.has.N]; exact hN) (by rw [A.has.sc]; exact hv) hd hcd) ⟨u, e1, lift.now A.M r q⟩
theorem we_int {i : Int} {j : Nat} (q : Q (.d (.int i)) μ) : WE C (.Constant (.int i) j pos) ρ μ E Q := fun _ _ _ _ A => tE_of pe_int (lift.now A.M (x := .d (.int i)) rfl q)
theorem we_bl {i : Bool} {j : Nat} (q : Q (.d (.bl i)) μ) : WE C (.Constant (.bool i) j pos) ρ μ E Q := fun _ _ _ _ A => tE_of pe_bl (lift.now A.M (x := .d (.bl i)) rfl q)
theorem we_non {j : Nat} (q : Q (.d .non) μ) : WE C (.Constant .none j pos) ρ μ E Q := fun _ _ _ _ A => tE_of pe_non (lift.now A.M (x := .d .non) rfl q)
theorem we_txt {s : Str} {j : Nat} {l : List Nat} (hs : s.cps.toList = l) (q : Q (.d (.txt l)) μ) : WE C (.Constant (.str s) j pos) ρ μ E Q := fun _ _ _ _ A =>
  tE_of pe_str (lift.now A.M (x := .d (.txt l)) (by subst hs; show V.str s = .str (SX.S s.cps.toList); rw [SX.S_tl]) q)
/-- a module's text, number, def, class -/
theorem we_globT {s : Str} {t : Tok} {l : List Nat} (hg : C.Glob x) (hm : C.mg x = some (.str s t)) (hs : s.cps.toList = l) (q : Q (.d (.txt l)) μ) (hd : (x == ("__debug__" : Str)) = false := by decide) : WE C (.Name x pos) ρ μ E Q := fun X _ _ _ A =>
  tE_of (pe_glob (v := .str s) (by show X.env.scope.names.lookup x = _; rw [A.has.sc]; exact hg) (by rw [A.has.mg]; exact hm) ⟨t, rfl⟩ hd) (lift.now A.M (x := .d (.txt l)) (by subst hs; show V.str s = .str (SX.S s.cps.toList); rw [SX.S_tl]) q)
theorem we_globI {i : Int} {t : Tok} (hg : C.Glob x) (hm : C.mg x = some (.int i t)) (q : Q (.d (.int i)) μ) (hd : (x == ("__debug__" : Str)) = false := by decide) : WE C (.Name x pos) ρ μ E Q := fun X _ _ _ A =>
  tE_of (pe_glob (v := .int i) (by show X.env.scope.names.lookup x = _; rw [A.has.sc]; exact hg) (by rw [A.has.mg]; exact hm) ⟨t, rfl⟩ hd) (lift.now A.M (x := .d (.int i)) rfl q)
theorem we_globR {f : Addr} (hg : C.Glob x) (hm : C.mg x = some (.ref f)) (q : Q (.d (.ref f)) μ) (hd : (x == ("__debug__" : Str)) = false := by decide) : WE C (.Name x pos) ρ μ E Q := fun X _ _ _ A =>
  tE_of (pe_glob (v := .ref f) (by show X.env.scope.names.lookup x = _; rw [A.has.sc]; exact hg) (by rw [A.has.mg]; exact hm) rfl hd) (lift.now A.M (x := .d (.ref f)) rfl q)
/-! ### arguments -/
theorem wa_nil (q : QA [] μ) : WA C [] ρ μ E QA := fun _ _ _ _ A => tA_of pa_nil ⟨[], μ, _, .nil, A.M, Stp.refl, q⟩
theorem wa_cons (h : WE C e ρ μ E fun x μ1 => WA C es ρ μ1 E fun xs μ2 => QA (x :: xs) μ2) (hs : ∀ env, starEach (e :: es) env = (false, eval e env) :: starEach es env := by intro _; rfl) : WA C (e :: es) ρ μ E QA := fun X σ H w A =>
  tA_of (pa_cons pe_tE pa_tA (hs _)) (h.go A fun v H1 x μ1 w1 r A1 S1 h1 => h1.go A1 fun vs H2 xs μ2 w2 rs A2 S2 q => ⟨x :: xs, μ2, w2, .cons (r.stp S2) rs, A2.M, S1.trans S2, q⟩)
end
/-! ### canonical readings of operations on values -/
def rS (X : Cx) (f : Value → Value → Sem Value) : R2 := fun x y H Q => ∀ pins s σ v u, Inv X pins σ H s → RelV x v → RelV y u → wpAny (model X.prog X.w) X.A (f v u) (EP X pins σ Q) X.xe s
def uS (X : Cx) (f : Value → Sem Value) : V → Hp → VK → Prop := fun x H Q => ∀ pins s σ v, Inv X pins σ H s → RelV x v → wpAny (model X.prog X.w) X.A (f v) (EP X pins σ Q) X.xe s
def cS (X : Cx) (f : Value) : List V → Hp → VK → Prop := fun xs H Q => ∀ pins s σ us, Inv X pins σ H s → Vals xs us → wpAny (model X.prog X.w) X.A (call f us) (EP X pins σ Q) X.xe s
def mS (X : Cx) (id : String) : V → List V → Hp → VK → Prop := fun x xs H Q => ∀ pins s σ v us, Inv X pins σ H s → RelV x v → Vals xs us → wpAny (model X.prog X.w) X.A (call (.builtin id) (v :: us)) (EP X pins σ Q) X.xe s
def ixS (X : Cx) : R2 := fun x y H Q => ∀ value slice pins s σ v u, Inv X pins σ H s → RelV x v → RelV y u → subscripted slice false v u = operate [v, u] (getItem v u) → wpAny (model X.prog X.w) X.A (PyProof.Rows.subscriptTail value slice v u) (EP X pins σ Q) X.xe s
def slS (X : Cx) : V → Option Int → Option Int → Hp → VK → Prop := fun x lo hi H Q => ∀ pins s σ v vl vu sl, Inv X pins σ H s → RelV x v → s.heap.IsSliceOf sl vl vu .none → IsPart vl lo → IsPart vu hi →
    ∃ T id, typeLookup (.type T) "__getitem__" = pure (some (.builtin id)) ∧ s.TypeIs v T ∧ wpAny (model X.prog X.w) X.A (getItem v (.ref sl)) (EP X pins σ Q) X.xe s
section
variable {X : Cx}
theorem rS_ok {f : Value → Value → Sem Value} : OpR X f (rS X f) := fun pins s σ H x y v u Q I rx ry h => h pins s σ v u I rx ry
theorem uS_ok {f : Value → Sem Value} : UnR X f (uS X f) := fun pins s σ H x v Q I rx h => h pins s σ v I rx
theorem cS_ok {f : Value} : CallR X f (cS X f) := fun pins s σ H xs us Q I r h => h pins s σ us I r
theorem mS_ok {id : String} : MtR X id (mS X id) := fun pins s σ H x xs v us Q I rx rs h => h pins s σ v us I rx rs
theorem ixS_ok : IxR X (ixS X) := fun value slice pins s σ H x y v u Q I rx ry h hs => h value slice pins s σ v u I rx ry hs
theorem slS_ok : SlR X (slS X) := fun pins s σ H x v vl vu lo hi sl Q I rx hs pl pu h => h pins s σ v vl vu sl I rx hs pl pu
theorem rS_of {f : Value → Value → Sem Value} {r : R2} (ho : OpR X f r) {x y : V} {H : Hp} {Q : VK} (h : r x y H Q) : rS X f x y H Q := fun pins s σ v u I rx ry => ho pins s σ H x y v u Q I rx ry h
theorem uS_of {f : Value → Sem Value} {r : V → Hp → VK → Prop} (ho : UnR X f r) {x : V} {H : Hp} {Q : VK} (h : r x H Q) : uS X f x H Q := fun pins s σ v I rx => ho pins s σ H x v Q I rx h
theorem cS_of {f : Value} {r : List V → Hp → VK → Prop} (ho : CallR X f r) {xs : List V} {H : Hp} {Q : VK} (h : r xs H Q) : cS X f xs H Q := fun pins s σ us I rx => ho pins s σ H xs us Q I rx h
theorem mS_of {id : String} {r : V → List V → Hp → VK → Prop} (ho : MtR X id r) {x : V} {xs : List V} {H : Hp} {Q : VK} (h : r x xs H Q) : mS X id x xs H Q := fun pins s σ v us I rx rs => ho pins s σ H x xs v us Q I rx rs h
theorem ixS_of {r : R2} (ho : IxR X r) {x y : V} {H : Hp} {Q : VK} (h : r x y H Q) : ixS X x y H Q := fun value slice pins s σ v u I rx ry hs => ho value slice pins s σ H x y v u Q I rx ry h hs
theorem slS_of {r : V → Option Int → Option Int → Hp → VK → Prop} (ho : SlR X r) {x : V} {lo hi : Option Int} {H : Hp} {Q : VK} (h : r x lo hi H Q) : slS X x lo hi H Q := fun pins s σ v vl vu sl I rx hs pl pu => ho pins s σ H x v vl vu lo hi sl Q I rx hs pl pu h
end
/-- f of two values, .. -/
def Go2 (C : SC) (f : Value → Value → Sem Value) (x y : XV) (μ : Mem) (Q : XV → Mem → Prop) : Prop :=
  ∀ X, C.Has X → ∀ H w vx vy, MOk C.K μ H w → RepX C.K μ H w x vx → RepX C.K μ H w y vy → rS X f vx vy H (lift C.K Q μ H w)
def Go1 (C : SC) (f : Value → Sem Value) (x : XV) (μ : Mem) (Q : XV → Mem → Prop) : Prop :=
  ∀ X, C.Has X → ∀ H w vx, MOk C.K μ H w → RepX C.K μ H w x vx → uS X f vx H (lift C.K Q μ H w)
def GoC (C : SC) (f : Value) (xs : List XV) (μ : Mem) (Q : XV → Mem → Prop) : Prop :=
  ∀ X, C.Has X → ∀ H w vs, MOk C.K μ H w → RepXs C.K μ H w xs vs → cS X f vs H (lift C.K Q μ H w)
def GoM (C : SC) (id : String) (x : XV) (xs : List XV) (μ : Mem) (Q : XV → Mem → Prop) : Prop :=
  ∀ X, C.Has X → ∀ H w vx vs, MOk C.K μ H w → RepX C.K μ H w x vx → RepXs C.K μ H w xs vs → mS X id vx vs H (lift C.K Q μ H w)
def GoI (C : SC) (x y : XV) (μ : Mem) (Q : XV → Mem → Prop) : Prop :=
  ∀ X, C.Has X → ∀ H w vx vy, MOk C.K μ H w → RepX C.K μ H w x vx → RepX C.K μ H w y vy → ixS X vx vy H (lift C.K Q μ H w)
def GoS (C : SC) (x : XV) (lo hi : Option Int) (μ : Mem) (Q : XV → Mem → Prop) : Prop :=
  ∀ X, C.Has X → ∀ H w vx, MOk C.K μ H w → RepX C.K μ H w x vx → slS X vx lo hi H (lift C.K Q μ H w)
section
variable {C : SC} {Q : XV → Mem → Prop} {μ μ1 : Mem} {H H1 : Hp} {w w1 : IA} {X : Cx}
theorem EP_from {pins : List (Addr × Obj)} {σ : L2.St} {s : Shared} {K : PySem.W.Frag} {t : Sem Value} {xe : Value → Shared → Prop} (S : Stp μ H w μ1 H1 w1)
    (h : wpAny (model X.prog X.w) X.A t (EP X pins σ (lift K Q μ1 H1 w1)) xe s) : wpAny (model X.prog X.w) X.A t (EP X pins σ (lift K Q μ H w)) xe s :=
  thn h fun _ _ ⟨v, H', I', r, q⟩ => ⟨v, H', I', r, lift.from S q⟩
theorem rS.from {f : Value → Value → Sem Value} {x y : V} {H2 : Hp} {K : PySem.W.Frag} (S : Stp μ H w μ1 H1 w1) (h : rS X f x y H2 (lift K Q μ1 H1 w1)) : rS X f x y H2 (lift K Q μ H w) := fun pins s σ v u I rx ry => EP_from S (h pins s σ v u I rx ry)
theorem uS.from {f : Value → Sem Value} {x : V} {H2 : Hp} {K : PySem.W.Frag} (S : Stp μ H w μ1 H1 w1) (h : uS X f x H2 (lift K Q μ1 H1 w1)) : uS X f x H2 (lift K Q μ H w) := fun pins s σ v I rx => EP_from S (h pins s σ v I rx)
theorem cS.from {f : Value} {xs : List V} {H2 : Hp} {K : PySem.W.Frag} (S : Stp μ H w μ1 H1 w1) (h : cS X f xs H2 (lift K Q μ1 H1 w1)) : cS X f xs H2 (lift K Q μ H w) := fun pins s σ us I rx => EP_from S (h pins s σ us I rx)
theorem mS.from {id : String} {x : V} {xs : List V} {H2 : Hp} {K : PySem.W.Frag} (S : Stp μ H w μ1 H1 w1) (h : mS X id x xs H2 (lift K Q μ1 H1 w1)) : mS X id x xs H2 (lift K Q μ H w) := fun pins s σ v us I rx rs => EP_from S (h pins s σ v us I rx rs)
theorem ixS.from {x y : V} {H2 : Hp} {K : PySem.W.Frag} (S : Stp μ H w μ1 H1 w1) (h : ixS X x y H2 (lift K Q μ1 H1 w1)) : ixS X x y H2 (lift K Q μ H w) := fun value slice pins s σ v u I rx ry hs => EP_from S (h value slice pins s σ v u I rx ry hs)
theorem slS.from {x : V} {lo hi : Option Int} {H2 : Hp} {K : PySem.W.Frag} (S : Stp μ H w μ1 H1 w1) (h : slS X x lo hi H2 (lift K Q μ1 H1 w1)) : slS X x lo hi H2 (lift K Q μ H w) := fun pins s σ v vl vu sl I rx hs pl pu => by
  obtain ⟨T, id, h1, h2, h3⟩ := h pins s σ v vl vu sl I rx hs pl pu
  exact ⟨T, id, h1, h2, EP_from S h3⟩
end
/-! ### expressions over operations -/
section
variable {C : SC} {E : EPost} {ρ : Env} {μ : Mem} {Q : XV → Mem → Prop} {QT : Bool → Mem → Prop} {QA : List XV → Mem → Prop} {a b c e : Expr} {es : List Expr} {pos p apos : Pos} {x : Str}
theorem we_bin {op : Operator} (h : WE C a ρ μ E fun x μ1 => WE C b ρ μ1 E fun y μ2 => Go2 C (binaryOp op) x y μ2 Q) : WE C (.BinOp a op b pos) ρ μ E Q := fun X σ H w A =>
  tE_of (pe_op rS_ok pe_tE pe_tE) (h.go A fun v1 H1 x μ1 w1 r1 A1 S1 h1 => h1.go A1 fun v2 H2 y μ2 w2 r2 A2 S2 h2 => rS.from (S1.trans S2) (h2 X A2.has H2 w2 v1 v2 A2.M (r1.stp S2) r2))
theorem we_un {op : UnaryOp} (h : WE C a ρ μ E fun x μ1 => Go1 C (unaryOp op) x μ1 Q) : WE C (.UnaryOp op a pos) ρ μ E Q := fun X σ H w A =>
  tE_of (pe_un uS_ok pe_tE) (h.go A fun v1 H1 x μ1 w1 r1 A1 S1 h1 => uS.from S1 (h1 X A1.has H1 w1 v1 A1.M r1))
theorem we_cmp {op : CmpOp} (h : WE C a ρ μ E fun x μ1 => WE C b ρ μ1 E fun y μ2 => Go2 C (compareOp op) x y μ2 Q) (hm : behindInMarks op b = false := by first | rfl | exact nobehind _ (by decide) (by decide)) : WE C (.Compare a [op] [b] pos) ρ μ E Q := fun X σ H w A =>
  tE_of (pe_cmpR rS_ok pe_tE pe_tE hm) (h.go A fun v1 H1 x μ1 w1 r1 A1 S1 h1 => h1.go A1 fun v2 H2 y μ2 w2 r2 A2 S2 h2 => rS.from (S1.trans S2) (h2 X A2.has H2 w2 v1 v2 A2.M (r1.stp S2) r2))
theorem lift_bl {K : PySem.W.Frag} {H : Hp} {w : IA} {v : V} {H2 : Hp} (h : lift K (fun z μ' => ∃ k, z = .d (.bl k) ∧ QT k μ') μ H w v H2) : ∃ k, v = .bl k ∧ liftT K QT μ H w k H2 := by
  obtain ⟨x, μ', w', r, M, S, k, rfl, q⟩ := h
  exact ⟨k, r, μ', w', M, S, q⟩
theorem rS_mono {X : Cx} {f : Value → Value → Sem Value} {x y : V} {H : Hp} {Q Q' : VK} (h : rS X f x y H Q) (k : ∀ v H', Q v H' → Q' v H') : rS X f x y H Q' := fun pins s σ v u I rx ry =>
  thn (h pins s σ v u I rx ry) fun _ _ ⟨v, H', I', r, q⟩ => ⟨v, H', I', r, k v H' q⟩
theorem wt_cmp {op : CmpOp} (h : WE C a ρ μ E fun x μ1 => WE C b ρ μ1 E fun y μ2 => Go2 C (compareOp op) x y μ2 fun z μ3 => ∃ k, z = .d (.bl k) ∧ QT k μ3) (hm : behindInMarks op b = false := by first | rfl | exact nobehind _ (by decide) (by decide)) : WT C (.Compare a [op] [b] pos) ρ μ E QT := fun X σ H w A =>
  tT_of (pt_cmpR rS_ok pe_tE pe_tE hm) (h.go A fun v1 H1 x μ1 w1 r1 A1 S1 h1 => h1.go A1 fun v2 H2 y μ2 w2 r2 A2 S2 h2 => rS_mono (rS.from (S1.trans S2) (h2 X A2.has H2 w2 v1 v2 A2.M (r1.stp S2) r2)) fun v H' q => lift_bl q)
/-- a < b < c -/
def ChainT (C : SC) (op op' : CmpOp) (c : Expr) (x y : XV) (ρ : Env) (μ : Mem) (E : EPost) (QT : Bool → Mem → Prop) : Prop :=
  Go2 C (compareOp op) x y μ fun z μ3 => ∃ k, z = .d (.bl k) ∧ (k = true → WE C c ρ μ3 E fun z2 μ4 => Go2 C (compareOp op') y z2 μ4 fun z3 μ5 => ∃ k, z3 = .d (.bl k) ∧ QT k μ5) ∧ (k = false → QT false μ3)
theorem wt_chain {op op' : CmpOp} (h : WE C a ρ μ E fun x μ1 => WE C b ρ μ1 E fun y μ2 => ChainT C op op' c x y ρ μ2 E QT) (hm : lastMarks [op, op'] [b, c] = false := by with_unfolding_all rfl) : WT C (.Compare a [op, op'] [b, c] pos) ρ μ E QT := fun X σ H w A => by
  refine tT_of (pt_chain rS_ok rS_ok pe_tE pe_tE pe_tE hm) (h.go A fun v1 H1 x μ1 w1 r1 A1 S1 h1 => h1.go A1 fun v2 H2 y μ2 w2 r2 A2 S2 h2 => ?_)
  refine rS_mono (h2 X A2.has H2 w2 v1 v2 A2.M (r1.stp S2) r2) fun v H3 q => ?_
  obtain ⟨z, μ3, w3, r3, M3, S3, k, rfl, h3, h4⟩ := q
  refine ⟨k, r3, ?_⟩
  cases k with
  | true =>
    refine iteT ?_
    refine (h3 rfl).go (A2.step S3 M3) fun v4 H4 z4 μ4 w4 r4 A4 S4 h5 => ?_
    refine rS_mono (h5 X A4.has H4 w4 v2 v4 A4.M ((r2.stp S3).stp S4) r4) fun v5 H5 q5 => ?_
    obtain ⟨k, e, q6⟩ := lift_bl q5
    exact ⟨k, e, liftT.from (((S1.trans S2).trans S3).trans S4) q6⟩
  | false =>
    refine iteF ?_
    exact ⟨false, rfl, μ3, w3, M3, (S1.trans S2).trans S3, h4 rfl⟩
end
end DL
set_option maxRecDepth 100000
set_option maxHeartbeats 2000000
namespace DL
open PySem L2 PySem.Spec
theorem Reps.grow {K : PySem.W.Frag} {L : Addr → Prop} {H : Hp} {ds : List D} {xs : List V} {p : Addr} {o : HO} (r : Reps K L H ds xs) (hp : H p = none) : Reps K L (upd H p o) ds xs := Reps.mono (fun c u h n => ⟨upd_grow hp c u h, n⟩) _ _ r
/-! ### what operations give -/
section
variable {C : SC} {μ : Mem} {Q : XV → Mem → Prop}
theorem go_add_int {i j : Int} (q : Q (.d (.int (i + j))) μ) : Go2 C (binaryOp .Add) (.d (.int i)) (.d (.int j)) μ Q := fun X hX H w vx vy M rx ry => rS_of op_add ⟨i, j, rx, ry, lift.now M (x := .d (.int (i + j))) rfl q⟩
theorem go_sub_int {i j : Int} (q : Q (.d (.int (i - j))) μ) : Go2 C (binaryOp .Sub) (.d (.int i)) (.d (.int j)) μ Q := fun X hX H w vx vy M rx ry => rS_of op_sub ⟨i, j, rx, ry, lift.now M (x := .d (.int (i - j))) rfl q⟩
theorem go_mul_int {i j : Int} (hc : CMul i j) (q : Q (.d (.int (i * j))) μ) : Go2 C (binaryOp .Mult) (.d (.int i)) (.d (.int j)) μ Q := fun X hX H w vx vy M rx ry => rS_of op_mul ⟨i, j, rx, ry, hc, lift.now M (x := .d (.int (i * j))) rfl q⟩
theorem go_fdiv_int {i j : Int} (hc : CDiv i j) (q : Q (.d (.int (i / j))) μ) : Go2 C (binaryOp .FloorDiv) (.d (.int i)) (.d (.int j)) μ Q := fun X hX H w vx vy M rx ry => rS_of op_fdiv ⟨i, j, rx, ry, hc, lift.now M (x := .d (.int (i / j))) rfl q⟩
theorem go_mod_int {i j : Int} (hc : 0 < j) (q : Q (.d (.int (i % j))) μ) : Go2 C (binaryOp .Mod) (.d (.int i)) (.d (.int j)) μ Q := fun X hX H w vx vy M rx ry => rS_of op_mod ⟨i, j, rx, ry, hc, lift.now M (x := .d (.int (i % j))) rfl q⟩
theorem go_pow_int {i j : Int} (hc : CPow i j) (q : Q (.d (.int (i ^ j.toNat))) μ) : Go2 C (binaryOp .Pow) (.d (.int i)) (.d (.int j)) μ Q := fun X hX H w vx vy M rx ry => rS_of op_pow ⟨i, j, rx, ry, hc, lift.now M (x := .d (.int (i ^ j.toNat))) rfl q⟩
theorem go_neg {i : Int} (q : Q (.d (.int (-i))) μ) : Go1 C (unaryOp .USub) (.d (.int i)) μ Q := fun X hX H w vx M rx => uS_of un_neg ⟨i, rx, lift.now M (x := .d (.int (-i))) rfl q⟩
theorem go_add_txt {a b : List Nat} (hz : a.length + b.length ≤ sizeLine) (q : Q (.d (.txt (a ++ b))) μ) : Go2 C (binaryOp .Add) (.d (.txt a)) (.d (.txt b)) μ Q := fun X hX H w vx vy M rx ry =>
  rS_of op_add_str ⟨SX.S a, SX.S b, rx, ry, by rw [SX.S_len, SX.S_len]; exact hz, lift.now M (x := .d (.txt (a ++ b))) (by show _ = V.str _; rw [SX.S_cat]) q⟩
/-- a written again and again -/
def repT (a : List Nat) (n : Int) : List Nat := (List.replicate n.toNat a).flatten
theorem foldl_cat (a : List Nat) : ∀ (k : Nat) (acc : List Nat), (List.replicate k a.toArray).foldl (· ++ ·) acc.toArray = (acc ++ (List.replicate k a).flatten).toArray
  | 0, acc => by simp
  | k + 1, acc => by
    rw [List.replicate_succ, List.foldl_cons, List.replicate_succ, List.flatten_cons, ← List.append_assoc]
    have e : acc.toArray ++ a.toArray = (acc ++ a).toArray := by simp
    rw [e]
    exact foldl_cat a k (acc ++ a)
theorem mul_rep (a : List Nat) (n : Int) : Txt.mul (SX.S a) n = SX.S (repT a n) := by
  unfold Txt.mul repT
  by_cases h1 : n < 1
  · rw [if_pos h1]
    have : n.toNat = 0 := by omega
    rw [this]
    rfl
  · rw [if_neg h1]
    split
    · rename_i h
      rw [Bool.or_eq_true] at h
      rcases h with h | h
      · have : n = 1 := by simpa using h
        subst this
        simp
      · have : a = [] := by
          have h' : (SX.S a).length = 0 := by simpa using h
          rw [SX.S_len] at h'
          exact List.length_eq_zero_iff.mp h'
        subst this
        simp
    · have := foldl_cat a n.toNat []
      rw [List.nil_append] at this
      exact congrArg Str.mk this
theorem op_mul_txt {X : Cx} : OpR X (binaryOp .Mult) (fun x y H Q => ∃ (a : List Nat) (n : Int), x = .str (SX.S a) ∧ y = .int n ∧ n < 2 ^ 30 ∧ -(2 ^ 30) < n ∧ a.length * n.toNat ≤ sizeLine ∧ Q (.str (SX.S (repT a n))) H) := by
  intro pins s σ H x y v u Q I rx ry h
  obtain ⟨a, n, rfl, rfl, h1, h2, h3, q⟩ := h
  obtain ⟨t, rfl⟩ := rx
  obtain ⟨t', rfl⟩ := ry
  have hl : (SX.S a).length = a.length := SX.S_len a
  have hz := sizeLine_eq
  refine SB.mul (n := n) ⟨?_, fun hn hne => ?_, fun hn hne => ?_⟩ fun t' k => ⟨.str _, H, I.tok k, ⟨t', rfl⟩, by rw [mul_rep]; exact q⟩
  · rw [decide_eq_false (by omega), decide_eq_false (by omega)]; rfl
  · rw [hl]
    intro hgt
    have hpos : (0 : Int) < n := by omega
    have e1 : ((2 : Int) ^ 63 - 1) / n < a.length := hgt
    have e2 : (2 : Int) ^ 63 - 1 < a.length * n := by
      have := Int.lt_mul_of_ediv_lt hpos e1
      exact this
    have e3 : (a.length : Int) * n = ((a.length * n.toNat : Nat) : Int) := by
      rw [Int.natCast_mul, Int.toNat_of_nonneg (by omega)]
    rw [e3] at e2
    have : ((a.length * n.toNat : Nat) : Int) ≤ 16777216 := by omega
    omega
  · rw [hl]
    unfold Builtin.Str.tooLong
    exact decide_eq_false (by omega)
theorem go_mul_txt {a : List Nat} {n : Int} (h1 : n < 2 ^ 30) (h2 : -(2 ^ 30) < n) (hz : a.length * n.toNat ≤ sizeLine) (q : Q (.d (.txt (repT a n))) μ) : Go2 C (binaryOp .Mult) (.d (.txt a)) (.d (.int n)) μ Q := fun X hX H w vx vy M rx ry =>
  rS_of op_mul_txt ⟨a, n, rx, ry, h1, h2, hz, lift.now M (x := .d (.txt (repT a n))) rfl q⟩
/-- lists put together -/
theorem go_add_lst {a b : List D} (hz : a.length + b.length ≤ sizeLine) (q : Q (.d (.lst (a ++ b))) μ) : Go2 C (binaryOp .Add) (.d (.lst a)) (.d (.lst b)) μ Q := fun X hX H w vx vy M rx ry => by
  obtain ⟨p, xs, rfl, n1, h1, r1⟩ := rx
  obtain ⟨p', ys, rfl, n2, h2, r2⟩ := ry
  refine rS_of op_cat ⟨p, p', xs, ys, rfl, rfl, h1, h2, by rw [r1.len, r2.len]; exact hz, fun l hl => lift.new M hl (x := .lst (a ++ b)) (fun nl => ⟨l, xs ++ ys, rfl, nl, upd_same, ?_⟩) q⟩
  exact Reps.append (Reps.mono (fun c o h n => ⟨upd_grow hl c o h, n⟩) _ _ r1) (Reps.mono (fun c o h n => ⟨upd_grow hl c o h, n⟩) _ _ r2)
theorem Reps.rep {K : PySem.W.Frag} {L : Addr → Prop} {H : Hp} {ds : List D} {xs : List V} (h : Reps K L H ds xs) : ∀ n : Nat, Reps K L H (List.replicate n ds).flatten (List.replicate n xs).flatten
  | 0 => rfl
  | n + 1 => by
    rw [List.replicate_succ, List.replicate_succ, List.flatten_cons, List.flatten_cons]
    exact Reps.append h (Reps.rep h n)
theorem go_mul_lst {a : List D} {k : Int} (h1 : -(2 ^ 63) ≤ k) (h2 : k < 2 ^ 63) (hz : a.length * k.toNat ≤ sizeLine) (q : Q (.d (.lst (List.replicate k.toNat a).flatten)) μ) : Go2 C (binaryOp .Mult) (.d (.lst a)) (.d (.int k)) μ Q := fun X hX H w vx vy M rx ry => by
  obtain ⟨p, xs, rfl, n1, e1, r1⟩ := rx
  refine rS_of op_rep ⟨p, k, xs, rfl, ry, e1, h1, h2, by rw [r1.len]; exact hz, fun l hl => lift.new M hl (x := .lst (List.replicate k.toNat a).flatten) (fun nl => ⟨l, _, rfl, nl, upd_same, ?_⟩) q⟩
  exact Reps.rep (Reps.mono (fun c o h n => ⟨upd_grow hl c o h, n⟩) _ _ r1) _
/-! comparisons -/
theorem go_lt {i j : Int} (q : Q (.d (.bl (decide (i < j)))) μ) : Go2 C (compareOp .Lt) (.d (.int i)) (.d (.int j)) μ Q := fun X hX H w vx vy M rx ry => rS_of op_lt ⟨i, j, rx, ry, lift.now M (x := .d (.bl _)) rfl q⟩
theorem go_le {i j : Int} (q : Q (.d (.bl (decide (i ≤ j)))) μ) : Go2 C (compareOp .LtE) (.d (.int i)) (.d (.int j)) μ Q := fun X hX H w vx vy M rx ry => rS_of op_le ⟨i, j, rx, ry, lift.now M (x := .d (.bl _)) rfl q⟩
theorem go_gt {i j : Int} (q : Q (.d (.bl (decide (j < i)))) μ) : Go2 C (compareOp .Gt) (.d (.int i)) (.d (.int j)) μ Q := fun X hX H w vx vy M rx ry => rS_of op_gt ⟨i, j, rx, ry, lift.now M (x := .d (.bl _)) rfl q⟩
theorem go_ge {i j : Int} (q : Q (.d (.bl (decide (j ≤ i)))) μ) : Go2 C (compareOp .GtE) (.d (.int i)) (.d (.int j)) μ Q := fun X hX H w vx vy M rx ry => rS_of op_ge ⟨i, j, rx, ry, lift.now M (x := .d (.bl _)) rfl q⟩
theorem go_lt_txt {a b : List Nat} (q : Q (.d (.bl (decide (a < b)))) μ) : Go2 C (compareOp .Lt) (.d (.txt a)) (.d (.txt b)) μ Q := fun X hX H w vx vy M rx ry => rS_of op_lt_str ⟨SX.S a, SX.S b, rx, ry, lift.now M (x := .d (.bl _)) rfl q⟩
theorem go_eq_int {i j : Int} (q : Q (.d (.bl (decide (i = j)))) μ) : Go2 C (compareOp .Eq) (.d (.int i)) (.d (.int j)) μ Q := fun X hX H w vx vy M rx ry => by
  rw [show vx = V.int i from rx, show vy = V.int j from ry]
  exact rS_of op_eq ⟨rfl, lift.now M (x := .d (.bl (decide (i = j)))) (by show V.bl _ = V.bl _; rw [dec_int, Bool.beq_eq_decide_eq]) q⟩
theorem go_ne_int {i j : Int} (q : Q (.d (.bl (!decide (i = j)))) μ) : Go2 C (compareOp .NotEq) (.d (.int i)) (.d (.int j)) μ Q := fun X hX H w vx vy M rx ry => by
  rw [show vx = V.int i from rx, show vy = V.int j from ry]
  exact rS_of op_ne ⟨rfl, lift.now M (x := .d (.bl (!decide (i = j)))) (by show V.bl _ = V.bl _; rw [dec_int, Bool.beq_eq_decide_eq]) q⟩
theorem go_eq_bl {i j : Bool} (q : Q (.d (.bl (decide (i = j)))) μ) : Go2 C (compareOp .Eq) (.d (.bl i)) (.d (.bl j)) μ Q := fun X hX H w vx vy M rx ry => by
  rw [show vx = V.bl i from rx, show vy = V.bl j from ry]
  exact rS_of op_eq ⟨rfl, lift.now M (x := .d (.bl (decide (i = j)))) (by show V.bl _ = V.bl _; rw [dec_bl, Bool.beq_eq_decide_eq]) q⟩
theorem go_ne_bl {i j : Bool} (q : Q (.d (.bl (!decide (i = j)))) μ) : Go2 C (compareOp .NotEq) (.d (.bl i)) (.d (.bl j)) μ Q := fun X hX H w vx vy M rx ry => by
  rw [show vx = V.bl i from rx, show vy = V.bl j from ry]
  exact rS_of op_ne ⟨rfl, lift.now M (x := .d (.bl (!decide (i = j)))) (by show V.bl _ = V.bl _; rw [dec_bl, Bool.beq_eq_decide_eq]) q⟩
theorem dec_S (a b : List Nat) : decide (V.str (SX.S a) = V.str (SX.S b)) = decide (a = b) := by
  rw [dec_str, SX.S_beq_eq]
theorem go_eq_txt {a b : List Nat} (q : Q (.d (.bl (decide (a = b)))) μ) : Go2 C (compareOp .Eq) (.d (.txt a)) (.d (.txt b)) μ Q := fun X hX H w vx vy M rx ry => by
  rw [show vx = V.str (SX.S a) from rx, show vy = V.str (SX.S b) from ry]
  exact rS_of op_eq ⟨rfl, lift.now M (x := .d (.bl (decide (a = b)))) (by show V.bl _ = V.bl _; rw [dec_S]) q⟩
theorem go_ne_txt {a b : List Nat} (q : Q (.d (.bl (!decide (a = b)))) μ) : Go2 C (compareOp .NotEq) (.d (.txt a)) (.d (.txt b)) μ Q := fun X hX H w vx vy M rx ry => by
  rw [show vx = V.str (SX.S a) from rx, show vy = V.str (SX.S b) from ry]
  exact rS_of op_ne ⟨rfl, lift.now M (x := .d (.bl (!decide (a = b)))) (by show V.bl _ = V.bl _; rw [dec_S]) q⟩
/-- one sign in a text -/
theorem go_in_sign {c : Nat} {a : List Nat} (q : Q (.d (.bl (decide (c ∈ a)))) μ) : Go2 C (compareOp .In) (.d (.txt [c])) (.d (.txt a)) μ Q := fun X hX H w vx vy M rx ry =>
  rS_of op_in_sign ⟨c, SX.S a, rx, ry, lift.now M (x := .d (.bl _)) rfl q⟩
theorem go_nin_sign {c : Nat} {a : List Nat} (q : Q (.d (.bl (!decide (c ∈ a)))) μ) : Go2 C (compareOp .NotIn) (.d (.txt [c])) (.d (.txt a)) μ Q := fun X hX H w vx vy M rx ry =>
  rS_of op_notIn_sign ⟨c, SX.S a, rx, ry, lift.now M (x := .d (.bl _)) rfl q⟩
theorem go_is_non {x : D} (q : Q (.d (.bl (match x with | .non => true | _ => false))) μ) : Go2 C (compareOp .Is) (.d x) (.d .non) μ Q := fun X hX H w vx vy M rx ry =>
  rS_of op_isN ⟨ry, lift.now M (x := .d (.bl _)) (by
    show V.bl _ = V.bl _
    cases x <;> first | (rw [show vx = _ from rx]; rfl) | (obtain ⟨a, _, _, rfl, _⟩ := rx; rfl) | (obtain ⟨a, _, rfl, _⟩ := rx; rfl) | (obtain ⟨a, rfl, _⟩ := rx; rfl)) q⟩
theorem go_isnot_non {x : D} (q : Q (.d (.bl (match x with | .non => false | _ => true))) μ) : Go2 C (compareOp .IsNot) (.d x) (.d .non) μ Q := fun X hX H w vx vy M rx ry =>
  rS_of op_notN ⟨ry, lift.now M (x := .d (.bl _)) (by
    show V.bl _ = V.bl _
    cases x <;> first | (rw [show vx = _ from rx]; rfl) | (obtain ⟨a, _, _, rfl, _⟩ := rx; rfl) | (obtain ⟨a, _, rfl, _⟩ := rx; rfl) | (obtain ⟨a, rfl, _⟩ := rx; rfl)) q⟩
/-! data of any depth, as the library's == takes it -/
mutual
def D.py : D → PyData
  | .non => .none
  | .bl b => .bool b
  | .int i => .int i
  | .txt l => .str (SX.S l)
  | .lst ds => .list (D.pys ds)
  | .tup ds => .tuple (D.pys ds)
  | _ => .none
def D.pys : List D → List PyData
  | [] => []
  | d :: ds => d.py :: D.pys ds
end
mutual
def D.plain : D → Bool
  | .non => true
  | .bl _ => true
  | .int _ => true
  | .txt l => l.all (· < 1114112)
  | .lst ds => D.plains ds
  | .tup ds => D.plains ds
  | _ => false
def D.plains : List D → Bool
  | [] => true
  | d :: ds => d.plain && D.plains ds
end
mutual
theorem Rep.dp {K : PySem.W.Frag} {L : Addr → Prop} {H : Hp} : ∀ (d : D) (v : V), d.plain = true → Rep K L H d v → Dp K H v d.py
  | .non, _, _, h => by rw [show _ = V.non from h]; unfold D.py; exact .non
  | .bl b, _, _, h => by rw [show _ = V.bl b from h]; unfold D.py; exact .bl b
  | .int i, _, _, h => by rw [show _ = V.int i from h]; unfold D.py; exact .int i
  | .txt l, _, _, h => by rw [show _ = V.str (SX.S l) from h]; unfold D.py; exact .str _
  | .lst ds, _, p, h => by
    obtain ⟨a, xs, rfl, _, e, r⟩ := h
    unfold D.py
    exact .lst (SqL.of e) (Reps.dp ds xs (by unfold D.plain at p; exact p) r)
  | .tup ds, _, p, h => by
    obtain ⟨a, xs, rfl, _, e, r⟩ := h
    unfold D.py
    exact .tup (SqT.of e) (Reps.dp ds xs (by unfold D.plain at p; exact p) r)
  | .ty _, _, p, _ => by unfold D.plain at p; cases p
  | .ref _, _, p, _ => by unfold D.plain at p; cases p
  | .scr _, _, p, _ => by unfold D.plain at p; cases p
  | .ins _ _ _, _, p, _ => by unfold D.plain at p; cases p
  | .dct _ _, _, p, _ => by unfold D.plain at p; cases p
  | .dcn _ _ _, _, p, _ => by unfold D.plain at p; cases p
  | .exc _ _ _, _, p, _ => by unfold D.plain at p; cases p
theorem Reps.dp {K : PySem.W.Frag} {L : Addr → Prop} {H : Hp} : ∀ (ds : List D) (xs : List V), D.plains ds = true → Reps K L H ds xs → DpAll K H xs (D.pys ds)
  | [], _, _, h => by rw [show _ = [] from h]; unfold D.pys; exact .nil
  | d :: ds, _, p, h => by
    obtain ⟨x, r, rfl, h1, h2⟩ := h
    unfold D.plains at p
    rw [Bool.and_eq_true] at p
    unfold D.pys
    exact .cons (Rep.dp d x p.1 h1) (Reps.dp ds r p.2 h2)
end
mutual
theorem D.canLay : ∀ d : D, d.plain = true → d.py.canLay0 = true
  | .non, _ => by unfold D.py; rfl
  | .bl _, _ => by unfold D.py; rfl
  | .int _, _ => by unfold D.py; rfl
  | .txt l, p => by
    unfold D.plain at p
    unfold D.py PyData.canLay0 PyData.strOk
    rw [← Array.all_toList]
    exact p
  | .lst ds, p => by
    unfold D.plain at p
    unfold D.py PyData.canLay0
    exact D.canLays ds p
  | .tup ds, p => by
    unfold D.plain at p
    unfold D.py PyData.canLay0
    exact D.canLays ds p
  | .ty _, p => by unfold D.plain at p; cases p
  | .ref _, p => by unfold D.plain at p; cases p
  | .scr _, p => by unfold D.plain at p; cases p
  | .ins _ _ _, p => by unfold D.plain at p; cases p
  | .dct _ _, p => by unfold D.plain at p; cases p
  | .dcn _ _ _, p => by unfold D.plain at p; cases p
  | .exc _ _ _, p => by unfold D.plain at p; cases p
theorem D.canLays : ∀ ds : List D, D.plains ds = true → PyData.canLayAll0 (D.pys ds) = true
  | [], _ => by unfold D.pys; rfl
  | d :: ds, p => by
    unfold D.plains at p
    rw [Bool.and_eq_true] at p
    unfold D.pys PyData.canLayAll0
    rw [D.canLay d p.1, D.canLays ds p.2]
    rfl
end
def D.okEq (d : D) : Prop := d.plain = true ∧ d.py.depth ≤ 64
theorem D.okEq.shaped {d : D} (h : d.okEq) : SeqAt.shaped d.py = true := by
  unfold SeqAt.shaped
  rw [D.canLay d h.1, decide_eq_true h.2]
  rfl
theorem hu64 {k : Nat} {A : Around} (hr : Room k A) : A.units + 64 < cLine := hr.units
theorem go_eq_d {x y : D} (hx : x.okEq) (hy : y.okEq) (q : Q (.d (.bl (PyData.eqv x.py y.py))) μ) : Go2 C (compareOp .Eq) (.d x) (.d y) μ Q := fun X hX H w vx vy M rx ry =>
  rS_of (op_eqD (hX.u64)) ⟨x.py, y.py, by rw [hX.K]; exact Rep.dp x vx hx.1 rx, by rw [hX.K]; exact Rep.dp y vy hy.1 ry, hx.shaped, hy.shaped, lift.now M (x := .d (.bl _)) rfl q⟩
theorem go_ne_d {x y : D} (hx : x.okEq) (hy : y.okEq) (q : Q (.d (.bl (!PyData.eqv x.py y.py))) μ) : Go2 C (compareOp .NotEq) (.d x) (.d y) μ Q := fun X hX H w vx vy M rx ry =>
  rS_of (op_neD (hX.u64)) ⟨x.py, y.py, by rw [hX.K]; exact Rep.dp x vx hx.1 rx, by rw [hX.K]; exact Rep.dp y vy hy.1 ry, hx.shaped, hy.shaped, lift.now M (x := .d (.bl _)) rfl q⟩
end
/-! ### items, slices -/
section
variable {C : SC} {E : EPost} {ρ : Env} {μ : Mem} {Q : XV → Mem → Prop} {QA : List XV → Mem → Prop} {a b e : Expr} {es : List Expr} {pos p2 : Pos} {lo hi : Option Expr}
theorem we_ix (h : WE C a ρ μ E fun x μ1 => WE C b ρ μ1 E fun y μ2 => GoI C x y μ2 Q) (hs : PlainIx b := by exact fun _ _ => rfl) : WE C (.Subscript a b pos) ρ μ E Q := fun X σ H w A =>
  tE_of (pe_ix ixS_ok pe_tE pe_tE hs) (h.go A fun v1 H1 x μ1 w1 r1 A1 S1 h1 => h1.go A1 fun v2 H2 y μ2 w2 r2 A2 S2 h2 => ixS.from (S1.trans S2) (h2 X A2.has H2 w2 v1 v2 A2.M (r1.stp S2) r2))
theorem gi_txt {l : List Nat} {i : Int} {c : Nat} (hz : l.length ≤ sizeLine) (h : atI l i = some c) (q : Q (.d (.txt [c])) μ) : GoI C (.d (.txt l)) (.d (.int i)) μ Q := fun X hX H w vx vy M rx ry =>
  ixS_of ix_str ⟨SX.S l, i, c, rx, ry, by rw [SX.S_len]; exact hz, h, lift.now M (x := .d (.txt [c])) rfl q⟩
theorem atI_reps {K : PySem.W.Frag} {L : Addr → Prop} {H : Hp} {ds : List D} {xs : List V} {i : Int} {d : D} (r : Reps K L H ds xs) (h : atI ds i = some d) : ∃ v, atI xs i = some v ∧ Rep K L H d v := by
  unfold atI at h ⊢
  rw [r.len]
  cases e : ixN ds.length i with
  | none => rw [e] at h; cases h
  | some j =>
    rw [e] at h
    exact Reps.get r h
theorem gi_lst {ds : List D} {i : Int} {d : D} (h : atI ds i = some d) (q : Q (.d d) μ) : GoI C (.d (.lst ds)) (.d (.int i)) μ Q := fun X hX H w vx vy M rx ry => by
  obtain ⟨p, xs, rfl, nl, e, r⟩ := rx
  obtain ⟨v, e2, rv⟩ := atI_reps r h
  exact ixS_of ix_list ⟨p, xs, i, v, rfl, ry, SqL.of e, e2, lift.now M (x := .d d) rv q⟩
theorem gi_tup {ds : List D} {i : Int} {d : D} (h : atI ds i = some d) (q : Q (.d d) μ) : GoI C (.d (.tup ds)) (.d (.int i)) μ Q := fun X hX H w vx vy M rx ry => by
  obtain ⟨p, xs, rfl, nl, e, r⟩ := rx
  obtain ⟨v, e2, rv⟩ := atI_reps r h
  exact ixS_of ix_tup ⟨p, xs, i, v, rfl, ry, SqT.of e, e2, lift.now M (x := .d d) rv q⟩
theorem paired_get {α β : Type} {R : α → β → Prop} : ∀ {xs : List α} {ys : List β} {i : Nat} {x : α}, Paired R xs ys → xs[i]? = some x → ∃ y, ys[i]? = some y ∧ R x y
  | _, _, _, _, .nil, e => by simp at e
  | _, _, 0, _, .cons r _, e => by simp at e; subst e; exact ⟨_, rfl, r⟩
  | _, _, i + 1, x, .cons _ t, e => by
    obtain ⟨u, h1, h2⟩ := paired_get (i := i) (x := x) t (by simpa using e)
    exact ⟨u, by simpa using h1, h2⟩
theorem atI_paired {K : PySem.W.Frag} {H : Hp} {w : IA} {xs : List XV} {vs : List V} {i : Int} {x : XV} (r : RepXs K μ H w xs vs) (h : atI xs i = some x) : ∃ v, atI vs i = some v ∧ RepX K μ H w x v := by
  unfold atI at h ⊢
  rw [← r.length]
  cases e : ixN xs.length i with
  | none => rw [e] at h; cases h
  | some j =>
    rw [e] at h
    exact paired_get r h
theorem gi_cell {n : Nat} {xs : List XV} {i : Int} {x : XV} (hm : μ[n]? = some (some (.lst xs))) (h : atI xs i = some x) (q : Q x μ) : GoI C (.l n) (.d (.int i)) μ Q := fun X hX H w vx vy M rx ry => by
  obtain ⟨p, hp, rfl⟩ := rx
  obtain ⟨vs, e, r⟩ := M.holds n _ p hm hp
  obtain ⟨v, e2, rv⟩ := atI_paired r h
  exact ixS_of ix_list ⟨p, vs, i, v, rfl, ry, SqL.of e, e2, lift.now M rv q⟩
def tO (X : Cx) : Option Expr → TO
  | none => tNoPart
  | some e => tPart (tE X e)
theorem po_tO {X : Cx} : ∀ {e : Option Expr}, PO X e (tO X e)
  | none => po_none
  | some _ => po_some pe_tE
def liftO (K : PySem.W.Frag) (Q : Option Int → Mem → Prop) (μ : Mem) (H : Hp) (w : IA) : Option Int → Hp → Prop := fun o H' => ∃ μ' w', MOk K μ' H' w' ∧ Stp μ H w μ' H' w' ∧ Q o μ'
/-- an optional part of a slice -/
def WO (C : SC) (e : Option Expr) (ρ : Env) (μ : Mem) (E : EPost) (Q : Option Int → Mem → Prop) : Prop :=
  ∀ X σ H w, At C X E ρ μ σ H w → tO X e σ H (liftO C.K Q μ H w)
theorem wo_none {Q : Option Int → Mem → Prop} (q : Q none μ) : WO C none ρ μ E Q := fun X σ H w A => ⟨μ, w, A.M, Stp.refl, q⟩
theorem wo_some {Q : Option Int → Mem → Prop} (h : WE C e ρ μ E fun x μ1 => ∃ i, x = .d (.int i) ∧ Q (some i) μ1) : WO C (some e) ρ μ E Q := fun X σ H w A =>
  h.go A fun v H1 x μ1 w1 r A1 S1 ⟨i, ex, q⟩ => by subst ex; exact ⟨i, r, μ1, w1, A1.M, S1, q⟩
theorem tO_mono {X : Cx} {e : Option Expr} {σ : L2.St} {H : Hp} {Q Q' : Option Int → Hp → Prop} (h : tO X e σ H Q) (k : ∀ o H', Q o H' → Q' o H') : tO X e σ H Q' := by
  cases e with
  | none => exact k _ _ h
  | some e => exact tE_mono h fun v H' ⟨i, e, q⟩ => ⟨i, e, k _ _ q⟩
theorem we_sl (h : WE C e ρ μ E fun x μ1 => WO C lo ρ μ1 E fun l μ2 => WO C hi ρ μ2 E fun u μ3 => GoS C x l u μ3 Q) : WE C (.Subscript e (.Slice lo hi none p2) pos) ρ μ E Q := fun X σ H w A => by
  refine tE_of (pe_slice slS_ok pe_tE po_tO po_tO) (h.go A fun v1 H1 x μ1 w1 r1 A1 S1 h1 => tO_mono (h1 X σ H1 w1 A1) fun l H2 ⟨μ2, w2, M2, S2, h2⟩ => ?_)
  have A2 := A1.step S2 M2
  refine tO_mono (h2 X σ H2 w2 A2) fun u H3 ⟨μ3, w3, M3, S3, h3⟩ => ?_
  have A3 := A2.step S3 M3
  exact slS.from ((S1.trans S2).trans S3) (h3 X A3.has H3 w3 v1 M3 ((r1.stp S2).stp S3))
/-- l[lo:hi] -/
def cut {α : Type} (l : List α) (lo hi : Option Int) : List α := (l.drop (HT.sIx l.length 0 lo)).take (HT.sIx l.length l.length hi - HT.sIx l.length 0 lo)
theorem gs_txt {l : List Nat} {lo hi : Option Int} (hz : l.length ≤ sizeLine) (q : Q (.d (.txt (cut l lo hi))) μ) : GoS C (.d (.txt l)) lo hi μ Q := fun X hX H w vx M rx =>
  slS_of sl_str ⟨SX.S l, rx, by rw [SX.S_len]; exact hz, lift.now M (x := .d (.txt (cut l lo hi))) (by
    show V.str (cutS (SX.S l) lo hi) = .str (SX.S (cut l lo hi))
    unfold cutS cut
    rw [SX.S_len]) q⟩
theorem gs_lst {ds : List D} {lo hi : Option Int} (q : Q (.d (.lst (cut ds lo hi))) μ) : GoS C (.d (.lst ds)) lo hi μ Q := fun X hX H w vx M rx => by
  obtain ⟨p, xs, rfl, nl, e, r⟩ := rx
  refine slS_of sl_list ⟨p, xs, rfl, SqL.of e, fun l hl => lift.new M hl (x := .lst (cut ds lo hi)) (fun nl => ⟨l, _, rfl, nl, upd_same, ?_⟩) q⟩
  have r' : Reps C.K (Live μ w) (upd H l (.lst (cutV xs lo hi))) ds xs := r.grow hl
  have e : cutV xs lo hi = (xs.drop (HT.sIx ds.length 0 lo)).take (HT.sIx ds.length ds.length hi - HT.sIx ds.length 0 lo) := by unfold cutV; rw [r.len]
  have r2 := Reps.take (HT.sIx ds.length ds.length hi - HT.sIx ds.length 0 lo) (Reps.drop (HT.sIx ds.length 0 lo) r')
  rw [← e] at r2
  exact r2
end
end DL
set_option maxRecDepth 100000
set_option maxHeartbeats 2000000
namespace DL
open PySem L2 PySem.Spec
/-! ### and, or, not, if-else -/
section
variable {C : SC} {E : EPost} {ρ : Env} {μ : Mem} {Q : XV → Mem → Prop} {QT : Bool → Mem → Prop} {QA : List XV → Mem → Prop} {a b c e : Expr} {es rest : List Expr} {pos p apos : Pos} {x : Str}
theorem liftT_mono {K : PySem.W.Frag} {H : Hp} {w : IA} {QT' : Bool → Mem → Prop} {k : Bool} {H' : Hp} (h : liftT K QT μ H w k H') (f : ∀ b μ', QT b μ' → QT' b μ') : liftT K QT' μ H w k H' := by
  obtain ⟨μ', w', M, S, q⟩ := h
  exact ⟨μ', w', M, S, f _ _ q⟩
/-- a value that is True or False, as a test -/
theorem wt_val (h : WE C e ρ μ E fun z μ' => ∃ k, z = .d (.bl k) ∧ QT k μ') (he : ∀ env whole, isTrue e env whole = (do let v ← whole; standAt e.pos; holding [v] (truthy v)) := by intro _ _; rfl) : WT C e ρ μ E QT := fun X σ H w A =>
  tT_of (pt_val pe_tE (he X.env)) (tE_mono (h X σ H w A) fun v H' q => lift_bl q)
theorem wt_not (h : WT C a ρ μ E fun k μ' => QT (!k) μ') : WT C (.UnaryOp .Not a pos) ρ μ E QT := fun X σ H w A =>
  tT_of (pt_not pt_tT) (tT_mono (h X σ H w A) fun k H' ⟨μ', w', M, S, q⟩ => ⟨μ', w', M, S, q⟩)
theorem ww_and1 (h : WT C a ρ μ E QT) : WW C (.BoolOp .And [a] pos) ρ μ E QT := fun X σ H w A => tW_of (pw_and1 pt_tT) (h X σ H w A)
theorem ww_or1 (h : WT C a ρ μ E QT) : WW C (.BoolOp .Or [a] pos) ρ μ E QT := fun X σ H w A => tW_of (pw_or1 pt_tT) (h X σ H w A)
theorem ww_and (h : WT C a ρ μ E fun k μ1 => (k = true → WW C (.BoolOp .And (b :: rest) pos) ρ μ1 E QT) ∧ (k = false → QT false μ1)) : WW C (.BoolOp .And (a :: b :: rest) pos) ρ μ E QT := fun X σ H w A =>
  tW_of (pw_and pt_tT pw_tW) (h.go A fun k H1 μ1 w1 A1 S1 q => by
    cases k with
    | true => exact iteT ((q.1 rfl).go A1 fun k2 H2 μ2 w2 A2 S2 q2 => ⟨μ2, w2, A2.M, S1.trans S2, q2⟩)
    | false => exact iteF ⟨μ1, w1, A1.M, S1, q.2 rfl⟩)
theorem ww_or (h : WT C a ρ μ E fun k μ1 => (k = false → WW C (.BoolOp .Or (b :: rest) pos) ρ μ1 E QT) ∧ (k = true → QT true μ1)) : WW C (.BoolOp .Or (a :: b :: rest) pos) ρ μ E QT := fun X σ H w A =>
  tW_of (pw_or pt_tT pw_tW) (h.go A fun k H1 μ1 w1 A1 S1 q => by
    cases k with
    | false => exact iteF ((q.1 rfl).go A1 fun k2 H2 μ2 w2 A2 S2 q2 => ⟨μ2, w2, A2.M, S1.trans S2, q2⟩)
    | true => exact iteT ⟨μ1, w1, A1.M, S1, q.2 rfl⟩)
theorem wt_bool {op : BoolOp} (h : WW C (.BoolOp op es pos) ρ μ E QT) : WT C (.BoolOp op es pos) ρ μ E QT := fun X σ H w A => tT_of (PW.pt pw_tW) (h X σ H w A)
/-- as values, all but the last True or False -/
theorem we_one {op : BoolOp} (h : WE C a ρ μ E Q) : WE C (.BoolOp op [a] pos) ρ μ E Q := fun X σ H w A => tE_of (pe_one pe_tE) (h X σ H w A)
theorem we_and (h : WE C a ρ μ E fun z μ1 => ∃ k, z = .d (.bl k) ∧ (k = true → WE C (.BoolOp .And (b :: rest) pos) ρ μ1 E Q) ∧ (k = false → Q (.d (.bl false)) μ1)) : WE C (.BoolOp .And (a :: b :: rest) pos) ρ μ E Q := fun X σ H w A =>
  tE_of (pe_and pe_tE pe_tE) (h.go A fun v H1 z μ1 w1 r1 A1 S1 ⟨k, ez, q1, q2⟩ => by
    subst ez
    refine ⟨k, r1, ?_⟩
    cases k with
    | true => exact iteT ((q1 rfl).go A1 fun v2 H2 z2 μ2 w2 r2 A2 S2 q2 => ⟨z2, μ2, w2, r2, A2.M, S1.trans S2, q2⟩)
    | false => exact iteF ⟨.d (.bl false), μ1, w1, rfl, A1.M, S1, q2 rfl⟩)
theorem we_or (h : WE C a ρ μ E fun z μ1 => ∃ k, z = .d (.bl k) ∧ (k = false → WE C (.BoolOp .Or (b :: rest) pos) ρ μ1 E Q) ∧ (k = true → Q (.d (.bl true)) μ1)) : WE C (.BoolOp .Or (a :: b :: rest) pos) ρ μ E Q := fun X σ H w A =>
  tE_of (pe_or pe_tE pe_tE) (h.go A fun v H1 z μ1 w1 r1 A1 S1 ⟨k, ez, q1, q2⟩ => by
    subst ez
    refine ⟨k, r1, ?_⟩
    cases k with
    | false => exact iteF ((q1 rfl).go A1 fun v2 H2 z2 μ2 w2 r2 A2 S2 q2 => ⟨z2, μ2, w2, r2, A2.M, S1.trans S2, q2⟩)
    | true => exact iteT ⟨.d (.bl true), μ1, w1, rfl, A1.M, S1, q2 rfl⟩)
theorem we_not (h : WE C a ρ μ E fun z μ1 => ∃ k, z = .d (.bl k) ∧ Q (.d (.bl (!k))) μ1) : WE C (.UnaryOp .Not a pos) ρ μ E Q := fun X σ H w A =>
  tE_of (pe_not pe_tE) (h.go A fun v H1 z μ1 w1 r1 A1 S1 ⟨k, ez, q⟩ => by
    subst ez
    exact ⟨k, r1, .d (.bl (!k)), μ1, w1, rfl, A1.M, S1, q⟩)
theorem we_if (h : WT C c ρ μ E fun k μ1 => (k = true → WE C a ρ μ1 E Q) ∧ (k = false → WE C b ρ μ1 E Q)) : WE C (.IfExp c a b pos) ρ μ E Q := fun X σ H w A =>
  tE_of (pe_ifExp pt_tT pe_tE pe_tE) (h.go A fun k H1 μ1 w1 A1 S1 q => by
    cases k with
    | true => exact iteT ((q.1 rfl).go A1 fun v2 H2 z2 μ2 w2 r2 A2 S2 q2 => ⟨z2, μ2, w2, r2, A2.M, S1.trans S2, q2⟩)
    | false => exact iteF ((q.2 rfl).go A1 fun v2 H2 z2 μ2 w2 r2 A2 S2 q2 => ⟨z2, μ2, w2, r2, A2.M, S1.trans S2, q2⟩))
/-- a < b < c as a value -/
def ChainE (C : SC) (op op' : CmpOp) (c : Expr) (x y : XV) (ρ : Env) (μ : Mem) (E : EPost) (Q : XV → Mem → Prop) : Prop :=
  Go2 C (compareOp op) x y μ fun z μ3 => ∃ k, z = .d (.bl k) ∧ (k = true → WE C c ρ μ3 E fun z2 μ4 => Go2 C (compareOp op') y z2 μ4 Q) ∧ (k = false → Q (.d (.bl false)) μ3)
theorem we_chain {op op' : CmpOp} (h : WE C a ρ μ E fun x μ1 => WE C b ρ μ1 E fun y μ2 => ChainE C op op' c x y ρ μ2 E Q) (hm : lastMarks [op, op'] [b, c] = false := by with_unfolding_all rfl) : WE C (.Compare a [op, op'] [b, c] pos) ρ μ E Q := fun X σ H w A => by
  refine tE_of (pe_chain rS_ok rS_ok pe_tE pe_tE pe_tE hm) (h.go A fun v1 H1 x μ1 w1 r1 A1 S1 h1 => h1.go A1 fun v2 H2 y μ2 w2 r2 A2 S2 h2 => ?_)
  refine rS_mono (h2 X A2.has H2 w2 v1 v2 A2.M (r1.stp S2) r2) fun v H3 q => ?_
  obtain ⟨z, μ3, w3, r3, M3, S3, k, rfl, h3, h4⟩ := q
  refine ⟨k, r3, ?_⟩
  cases k with
  | true =>
    refine iteT ?_
    refine (h3 rfl).go (A2.step S3 M3) fun v4 H4 z4 μ4 w4 r4 A4 S4 h5 => ?_
    exact rS.from (((S1.trans S2).trans S3).trans S4) (h5 X A4.has H4 w4 v2 v4 A4.M ((r2.stp S3).stp S4) r4)
  | false =>
    refine iteF ?_
    exact ⟨.d (.bl false), μ3, w3, rfl, M3, (S1.trans S2).trans S3, h4 rfl⟩
/-! ### displays -/
def allD : List XV → Option (List D)
  | [] => some []
  | .d x :: r => (allD r).map fun ds => x :: ds
  | .l _ :: _ => none
theorem allD_eq : ∀ {xs : List XV} {ds : List D}, allD xs = some ds → xs = ds.map XV.d
  | [], ds, h => by cases h; rfl
  | .l _ :: _, _, h => by cases h
  | .d x :: r, ds, h => by
    unfold allD at h
    cases e : allD r with
    | none => rw [e] at h; cases h
    | some es =>
      rw [e] at h
      cases h
      rw [allD_eq e]
      rfl
theorem RepXs.reps {K : PySem.W.Frag} {H : Hp} {w : IA} : ∀ {ds : List D} {vs : List V}, RepXs K μ H w (ds.map XV.d) vs → Reps K (Live μ w) H ds vs
  | [], _, h => by cases h; rfl
  | d :: ds, _, h => by
    cases h with
    | cons r t => exact ⟨_, _, rfl, r, RepXs.reps t⟩
theorem Reps.xs {K : PySem.W.Frag} {H : Hp} {w : IA} : ∀ {ds : List D} {vs : List V}, Reps K (Live μ w) H ds vs → RepXs K μ H w (ds.map XV.d) vs
  | [], _, h => by rw [show _ = [] from h]; exact .nil
  | d :: ds, _, h => by
    obtain ⟨x, r, rfl, h1, h2⟩ := h
    exact .cons h1 (Reps.xs h2)
theorem we_lst (h : WA C es ρ μ E fun xs μ1 => ∃ ds, allD xs = some ds ∧ ds.length ≤ sizeLine ∧ Q (.d (.lst ds)) μ1) : WE C (.List es pos) ρ μ E Q := fun X σ H w A =>
  tE_of (pe_lst pa_tA) (h.go A fun vs H1 xs μ1 w1 rs A1 S1 ⟨ds, e, hz, q⟩ => by
    rw [allD_eq e] at rs
    have r := RepXs.reps rs
    exact ⟨by rw [r.len]; exact hz, fun p hp => lift.from S1 (lift.new A1.M hp (x := .lst ds) (fun nl => ⟨p, vs, rfl, nl, upd_same, r.grow hp⟩) q)⟩)
theorem we_tup {k : Nat} (h : WA C es ρ μ E fun xs μ1 => ∃ ds, allD xs = some ds ∧ ds.length ≤ sizeLine ∧ Q (.d (.tup ds)) μ1) : WE C (.Tuple es k pos) ρ μ E Q := fun X σ H w A =>
  tE_of (pe_tup pa_tA) (h.go A fun vs H1 xs μ1 w1 rs A1 S1 ⟨ds, e, hz, q⟩ => by
    rw [allD_eq e] at rs
    have r := RepXs.reps rs
    exact ⟨by rw [r.len]; exact hz, fun p hp => lift.from S1 (lift.new A1.M hp (x := .tup ds) (fun nl => ⟨p, vs, rfl, nl, upd_same, r.grow hp⟩) q)⟩)
/-- a new cell -/
theorem lift.cell {K : PySem.W.Frag} {H : Hp} {w : IA} (M : MOk K μ H w) {p : Addr} {xs : List XV} {vs : List V} (hp : H p = none) (r : RepXs K μ H w xs vs) (q : Q (.l μ.length) (μ ++ [some (.lst xs)])) : lift K Q μ H w (.ref p) (upd H p (.lst vs)) := by
  have S : Stp μ H w (μ ++ [some (.lst xs)]) (upd H p (.lst vs)) (w.push p) := Stp.push M hp (upd_grow hp)
  refine ⟨.l μ.length, _, w.push p, ⟨p, ?_, rfl⟩, MOk.push (m := .lst xs) M hp (upd_grow hp) ⟨vs, upd_same, r.stp S⟩, S, q⟩
  show (w.ι ++ [p])[μ.length]? = some p
  rw [← M.len, List.getElem?_append_right (Nat.le_refl _)]
  simp
theorem we_lstC (h : WA C es ρ μ E fun xs μ1 => xs.length ≤ sizeLine ∧ Q (.l μ1.length) (μ1 ++ [some (.lst xs)])) : WE C (.List es pos) ρ μ E Q := fun X σ H w A =>
  tE_of (pe_lst pa_tA) (h.go A fun vs H1 xs μ1 w1 rs A1 S1 ⟨hz, q⟩ => ⟨by rw [← rs.length]; exact hz, fun p hp => lift.from S1 (lift.cell A1.M hp rs q)⟩)
/-- lists put together, in a new cell -/
theorem go_add_lstC {a b : List D} (hz : a.length + b.length ≤ sizeLine) (q : Q (.l μ.length) (μ ++ [some (.lst ((a ++ b).map XV.d))])) : Go2 C (binaryOp .Add) (.d (.lst a)) (.d (.lst b)) μ Q := fun X hX H w vx vy M rx ry => by
  obtain ⟨p, xs, rfl, n1, h1, r1⟩ := rx
  obtain ⟨p', ys, rfl, n2, h2, r2⟩ := ry
  exact rS_of op_cat ⟨p, p', xs, ys, rfl, rfl, h1, h2, by rw [r1.len, r2.len]; exact hz, fun l hl => lift.cell M hl (Reps.xs (Reps.append r1 r2)) q⟩
/-! ### calls of built-ins -/
theorem we_callB {f : Value} (hg : C.Glob x) (hm : C.mg x = none) (hv : bootBuiltins x = some f) (hf : (∃ id, f = .builtin id) ∨ ∃ T, f = .type T) (h : WA C (e :: es) ρ μ E fun xs μ1 => GoC C f xs μ1 Q) (hn : x ≠ "__name__" := by decide) (hdb : (x == ("__debug__" : Str)) = false := by decide)
    (he : ∀ env, starEach (e :: es) env = (false, eval e env) :: starEach es env := by intro _; rfl) (hpl : ∀ env, (backTo pos (starEach es env)).any (·.1) = false := by intro _; rfl) : WE C (.Call (.Name x p) (e :: es) [] pos) ρ μ E Q := fun X σ H w A => by
  have hg' : Gl X x := by show X.env.scope.names.lookup x = _; rw [A.has.sc]; exact hg
  have hm' : X.mg x = none := by rw [A.has.mg]; exact hm
  rcases hf with ⟨id, rfl⟩ | ⟨T, rfl⟩
  · exact tE_of (pe_callB cS_ok hg' hm' hv pa_tA hn hdb (he _) (hpl _)) (h.go A fun vs H1 xs μ1 w1 rs A1 S1 q => cS.from S1 (q X A1.has H1 w1 vs A1.M rs))
  · exact tE_of (pe_callTy cS_ok hg' hm' hv pa_tA hn hdb (he _) (hpl _)) (h.go A fun vs H1 xs μ1 w1 rs A1 S1 q => cS.from S1 (q X A1.has H1 w1 vs A1.M rs))
theorem RepXs.one {K : PySem.W.Frag} {H : Hp} {w : IA} {y : XV} {vs : List V} (h : RepXs K μ H w [y] vs) : ∃ v, vs = [v] ∧ RepX K μ H w y v := by
  cases h with
  | cons r t => cases t; exact ⟨_, rfl, r⟩
theorem RepXs.two {K : PySem.W.Frag} {H : Hp} {w : IA} {y z : XV} {vs : List V} (h : RepXs K μ H w [y, z] vs) : ∃ v u, vs = [v, u] ∧ RepX K μ H w y v ∧ RepX K μ H w z u := by
  cases h with
  | cons r t =>
    cases t with
    | cons r2 t => cases t; exact ⟨_, _, rfl, r, r2⟩
theorem gc_len_txt {l : List Nat} (hz : l.length ≤ sizeLine) (q : Q (.d (.int (l.length : Int))) μ) : GoC C (.builtin "len") [.d (.txt l)] μ Q := fun X hX H w vs M rs => by
  obtain ⟨v, rfl, r⟩ := rs.one
  exact cS_of call_len_str ⟨SX.S l, by rw [show v = V.str (SX.S l) from r], by rw [SX.S_len]; exact hz, lift.now M (x := .d (.int (l.length : Int))) (by show V.int _ = V.int _; rw [SX.S_len]) q⟩
theorem gc_len_lst {ds : List D} (q : Q (.d (.int (ds.length : Int))) μ) : GoC C (.builtin "len") [.d (.lst ds)] μ Q := fun X hX H w vs M rs => by
  obtain ⟨v, rfl, a, xs, rfl, nl, e, r⟩ := rs.one
  exact cS_of call_len_seq ⟨a, xs, rfl, .inl (SqL.of e), lift.now M (x := .d (.int (ds.length : Int))) (by show V.int _ = V.int _; rw [r.len]) q⟩
theorem gc_len_tup {ds : List D} (q : Q (.d (.int (ds.length : Int))) μ) : GoC C (.builtin "len") [.d (.tup ds)] μ Q := fun X hX H w vs M rs => by
  obtain ⟨v, rfl, a, xs, rfl, nl, e, r⟩ := rs.one
  exact cS_of call_len_seq ⟨a, xs, rfl, .inr (SqT.of e), lift.now M (x := .d (.int (ds.length : Int))) (by show V.int _ = V.int _; rw [r.len]) q⟩
theorem gc_len_cell {n : Nat} {xs : List XV} (hm : μ[n]? = some (some (.lst xs))) (q : Q (.d (.int (xs.length : Int))) μ) : GoC C (.builtin "len") [.l n] μ Q := fun X hX H w vs M rs => by
  obtain ⟨v, rfl, a, ha, rfl⟩ := rs.one
  obtain ⟨us, e, r⟩ := M.holds n _ a hm ha
  exact cS_of call_len_seq ⟨a, us, rfl, .inl (SqL.of e), lift.now M (x := .d (.int (xs.length : Int))) (by show V.int _ = V.int _; rw [r.length]) q⟩
theorem scr_sql {K : PySem.W.Frag} {L : Addr → Prop} {H : Hp} {ns : List Int} {v : V} (h : Rep K L H (.scr ns) v) : ∃ a, v = .ref a ∧ SqL K H a (ns.map V.int) := by
  obtain ⟨a, e, ⟨_, q⟩ | q⟩ := h
  · exact ⟨a, e, .inl q⟩
  · exact ⟨a, e, .inr q⟩
theorem gc_len_scr {ns : List Int} (q : Q (.d (.int (ns.length : Int))) μ) : GoC C (.builtin "len") [.d (.scr ns)] μ Q := fun X hX H w vs M rs => by
  obtain ⟨v, rfl, r⟩ := rs.one
  obtain ⟨a, rfl, h⟩ := scr_sql r
  rw [← hX.K] at h
  exact cS_of call_len_seq ⟨a, _, rfl, .inl h, lift.now M (x := .d (.int (ns.length : Int))) (by show V.int _ = V.int _; rw [List.length_map]) q⟩
theorem gc_abs {i : Int} (q : Q (.d (.int (if i < 0 then -i else i))) μ) : GoC C (.builtin "abs") [.d (.int i)] μ Q := fun X hX H w vs M rs => by
  obtain ⟨v, rfl, r⟩ := rs.one
  exact cS_of call_abs ⟨i, by rw [show v = V.int i from r], lift.now M (x := .d (.int _)) rfl q⟩
theorem gc_max2 [Calm C] {i j : Int} (q : Q (.d (.int (if j > i then j else i))) μ) : GoC C (.builtin "max") [.d (.int i), .d (.int j)] μ Q := fun X hX H w vs M rs => by
  obtain ⟨v, u, rfl, r, r2⟩ := rs.two
  exact cS_of (call_max2 (hX.calm Calm.h)) ⟨i, j, by rw [show v = V.int i from r, show u = V.int j from r2], lift.now M (x := .d (.int _)) rfl q⟩
theorem gc_min2 [Calm C] {i j : Int} (q : Q (.d (.int (if j < i then j else i))) μ) : GoC C (.builtin "min") [.d (.int i), .d (.int j)] μ Q := fun X hX H w vs M rs => by
  obtain ⟨v, u, rfl, r, r2⟩ := rs.two
  exact cS_of (call_min2 (hX.calm Calm.h)) ⟨i, j, by rw [show v = V.int i from r, show u = V.int j from r2], lift.now M (x := .d (.int _)) rfl q⟩
theorem gc_int_bl {b : Bool} (q : Q (.d (.int (if b then 1 else 0))) μ) : GoC C (.type "int") [.d (.bl b)] μ Q := fun X hX H w vs M rs => by
  obtain ⟨v, rfl, r⟩ := rs.one
  exact cS_of call_int1 (.inr ⟨b, by rw [show v = V.bl b from r], lift.now M (x := .d (.int _)) rfl q⟩)
theorem gc_all [Calm C] {bs : List Bool} (q : Q (.d (.bl (bs.all id))) μ) : GoC C (.builtin "all") [.d (.lst (bs.map D.bl))] μ Q := fun X hX H w vs M rs => by
  obtain ⟨v, rfl, a, xs, rfl, nl, e, r⟩ := rs.one
  rw [Reps.bls r] at e
  exact cS_of (cr_all (hX.calm Calm.h)) ⟨a, bs, rfl, SqL.of e, lift.now M (x := .d (.bl _)) rfl q⟩
theorem gc_any [Calm C] {bs : List Bool} (q : Q (.d (.bl (bs.any id))) μ) : GoC C (.builtin "any") [.d (.lst (bs.map D.bl))] μ Q := fun X hX H w vs M rs => by
  obtain ⟨v, rfl, a, xs, rfl, nl, e, r⟩ := rs.one
  rw [Reps.bls r] at e
  exact cS_of (cr_any (hX.calm Calm.h)) ⟨a, bs, rfl, SqL.of e, lift.now M (x := .d (.bl _)) rfl q⟩
theorem gc_sum [Calm C] {ns : List Int} (q : Q (.d (.int ns.sum)) μ) : GoC C (.builtin "sum") [.d (.lst (ns.map D.int))] μ Q := fun X hX H w vs M rs => by
  obtain ⟨v, rfl, a, xs, rfl, nl, e, r⟩ := rs.one
  rw [Reps.ints r] at e
  exact cS_of (cr_sum (hX.calm Calm.h)) ⟨a, ns, rfl, SqL.of e, lift.now M (x := .d (.int _)) rfl q⟩
theorem gc_list_lst {ds : List D} (q : Q (.d (.lst ds)) μ) : GoC C (.type "list") [.d (.lst ds)] μ Q := fun X hX H w vs M rs => by
  obtain ⟨v, rfl, a, xs, rfl, nl, e, r⟩ := rs.one
  exact cS_of call_list_of ⟨a, xs, rfl, .inl (SqL.of e), fun l hl => lift.new M hl (x := .lst ds) (fun nl => ⟨l, xs, rfl, nl, upd_same, r.grow hl⟩) q⟩
theorem gc_list_lstC {ds : List D} (q : Q (.l μ.length) (μ ++ [some (.lst (ds.map XV.d))])) : GoC C (.type "list") [.d (.lst ds)] μ Q := fun X hX H w vs M rs => by
  obtain ⟨v, rfl, a, xs, rfl, nl, e, r⟩ := rs.one
  exact cS_of call_list_of ⟨a, xs, rfl, .inl (SqL.of e), fun l hl => lift.cell M hl (Reps.xs r) q⟩
theorem gc_list_tup {ds : List D} (q : Q (.d (.lst ds)) μ) : GoC C (.type "list") [.d (.tup ds)] μ Q := fun X hX H w vs M rs => by
  obtain ⟨v, rfl, a, xs, rfl, nl, e, r⟩ := rs.one
  exact cS_of call_list_of ⟨a, xs, rfl, .inr (SqT.of e), fun l hl => lift.new M hl (x := .lst ds) (fun nl => ⟨l, xs, rfl, nl, upd_same, r.grow hl⟩) q⟩
theorem gc_tuple_lst {ds : List D} (q : Q (.d (.tup ds)) μ) : GoC C (.type "tuple") [.d (.lst ds)] μ Q := fun X hX H w vs M rs => by
  obtain ⟨v, rfl, a, xs, rfl, nl, e, r⟩ := rs.one
  exact cS_of call_tuple_of ⟨a, xs, rfl, .inl ⟨SqL.of e, fun l hl => lift.new M hl (x := .tup ds) (fun nl => ⟨l, xs, rfl, nl, upd_same, r.grow hl⟩) q⟩⟩
theorem gc_tuple_cell {n : Nat} {ds : List D} (hm : μ[n]? = some (some (.lst (ds.map XV.d)))) (q : Q (.d (.tup ds)) μ) : GoC C (.type "tuple") [.l n] μ Q := fun X hX H w vs M rs => by
  obtain ⟨v, rfl, a, ha, rfl⟩ := rs.one
  obtain ⟨us, e, r⟩ := M.holds n _ a hm ha
  exact cS_of call_tuple_of ⟨a, us, rfl, .inl ⟨SqL.of e, fun l hl => lift.new M hl (x := .tup ds) (fun nl => ⟨l, us, rfl, nl, upd_same, (RepXs.reps r).grow hl⟩) q⟩⟩
end
end DL
set_option maxRecDepth 100000
set_option maxHeartbeats 2000000
namespace DL
open PySem L2 PySem.Spec
/-! ### statements -/
section
variable {C : SC} {E : EPost} {ρ : Env} {μ : Mem} {Q : XV → Mem → Prop} {QT : Bool → Mem → Prop} {D : DEnds} {a b c e : Expr} {es : List Expr} {st : Stmt} {rest body orelse : List Stmt} {pos p pos' : Pos} {x : Str}
theorem liftD.from {K : PySem.W.Frag} {μ' : Mem} {H H' : Hp} {w w' : IA} {X : Cx} {sts : List Stmt} {σ : L2.St} {H2 : Hp} (S : Stp μ H w μ' H' w') (h : tS X sts (liftD K D μ' H' w') σ H2) : tS X sts (liftD K D μ H w) σ H2 :=
  tS_mono h (fun _ _ q => liftN.from S q) (fun _ _ q => lift.from S q) (fun _ _ q => liftN.from S q) (fun _ _ q => liftN.from S q)
theorem ws_nil (q : D.nx ρ μ) : WS C [] ρ μ E D := fun X σ H w A => tS_of pss_nil ⟨ρ, μ, w, A.R, A.M, Stp.refl, q⟩
theorem SP_one {X : Cx} {σ : L2.St} {H : Hp} {D1 : Ends} (h : tS1 X st D1 σ H) {t : TS} {D2 : Ends} (hr : PSs X rest t) (k1 : ∀ σ' H', D1.nx σ' H' → t D2 σ' H') (k2 : ∀ v H', D1.rt v H' → D2.rt v H') (k3 : ∀ σ' H', D1.bk σ' H' → D2.bk σ' H') (k4 : ∀ σ' H', D1.ct σ' H' → D2.ct σ' H') : tS X (st :: rest) D2 σ H := fun pins s I => by
  refine PySem.wpAny_execs_cons (thn (h pins s I) fun f s1 q => ?_)
  cases f with
  | next => obtain ⟨σ', H', I', q⟩ := q; exact hr.run pins s1 σ' H' D2 I' (k1 σ' H' q)
  | ret u => obtain ⟨v, σ', H', I', r, q⟩ := q; exact ⟨v, σ', H', I', r, k2 v H' q⟩
  | brk => obtain ⟨σ', H', I', q⟩ := q; exact ⟨σ', H', I', k3 σ' H' q⟩
  | cont => obtain ⟨σ', H', I', q⟩ := q; exact ⟨σ', H', I', k4 σ' H' q⟩
theorem ws_cons (h : WS1 C st ρ μ E { D with nx := fun ρ' μ' => WS C rest ρ' μ' E D }) : WS C (st :: rest) ρ μ E D := fun X σ H w A =>
  SP_one (h X σ H w A) ps_tS (fun σ' H' ⟨ρ', μ', w', R, M, S, q⟩ => liftD.from S (q X σ' H' w' ((A.step S M).env R))) (fun _ _ q => q) (fun _ _ q => q) (fun _ _ q => q)
theorem w1_pass (q : D.nx ρ μ) : WS1 C (.Pass pos) ρ μ E D := fun X σ H w A => tS1_of ps_pass ⟨ρ, μ, w, A.R, A.M, Stp.refl, q⟩
theorem w1_break (q : D.bk ρ μ) : WS1 C (.Break pos) ρ μ E D := fun X σ H w A => tS1_of ps_break ⟨ρ, μ, w, A.R, A.M, Stp.refl, q⟩
theorem w1_cont (q : D.ct ρ μ) : WS1 C (.Continue pos) ρ μ E D := fun X σ H w A => tS1_of ps_continue ⟨ρ, μ, w, A.R, A.M, Stp.refl, q⟩
theorem w1_ret (h : WE C e ρ μ E D.rt) : WS1 C (.Return (some e) pos) ρ μ E D := fun X σ H w A => tS1_of (ps_ret pe_tE) (h X σ H w A)
theorem w1_retN (q : D.rt (.d .non) μ) : WS1 C (.Return none pos) ρ μ E D := fun X σ H w A => tS1_of ps_retN ⟨.d .non, μ, w, rfl, A.M, Stp.refl, q⟩
theorem w1_expr (h : WE C e ρ μ E fun _ μ' => D.nx ρ μ') (hs : ∀ env, swapsWith e none pos.line env = pure false := by intro _; rfl) : WS1 C (.Expr e pos) ρ μ E D := fun X σ H w A =>
  tS1_of (ps_expr pe_tE (hs _)) (h.go A fun v H1 z μ1 w1 r1 A1 S1 q => ⟨ρ, μ1, w1, A1.R, A1.M, S1, q⟩)
theorem w1_if (h : WT C c ρ μ E fun k μ1 => (k = true → WS C body ρ μ1 E D) ∧ (k = false → WS C orelse ρ μ1 E D)) : WS1 C (.If c body orelse pos) ρ μ E D := fun X σ H w A =>
  tS1_of (ps_if pt_tT ps_tS ps_tS) (h.go A fun k H1 μ1 w1 A1 S1 q => by
    cases k with
    | true => exact iteT (liftD.from S1 (q.1 rfl X σ H1 w1 A1))
    | false => exact iteF (liftD.from S1 (q.2 rfl X σ H1 w1 A1)))
/-- a name takes a value -/
theorem ROk.put {K : PySem.W.Frag} {H : Hp} {w : IA} {σ : L2.St} (R : ROk K μ H w ρ σ) {v : V} {y : XV} (r : RepX K μ H w y v) (i : Nat) : ROk K μ H w (ρ.set i (some y)) (σ.set i (some v)) := by
  refine ⟨by rw [List.length_set, List.length_set]; exact R.len, fun j z e => ?_⟩
  by_cases hj : i = j
  · subst hj
    by_cases hl : i < ρ.length
    · rw [List.getElem?_set_self hl] at e
      cases e
      exact ⟨v, by rw [List.getElem?_set_self (by rw [← R.len]; exact hl)], r⟩
    · rw [List.getElem?_eq_none (by rw [List.length_set]; omega)] at e
      cases e
  · rw [List.getElem?_set_ne hj] at e
    obtain ⟨u, e1, r1⟩ := R.rep j z e
    exact ⟨u, by rw [List.getElem?_set_ne hj]; exact e1, r1⟩
/-- the name may be stored: x stands at i -/
structure SC.Nm (C : SC) (i : Nat) (x : Str) : Prop where
  nd : C.N.Nodup
  at_ : C.N[i]? = some x
  loc : Loc C.sc x
  own : C.own x = true
theorem Nm.fn {i : Nat} (n : C.Nm i x) {X : Cx} (h : C.Has X) : X.fn x = true ∨ X.env.scope.names.lookup x = some .local := h.own x n.own
theorem w1_set {i : Nat} (n : C.Nm i x) (h : WE C e ρ μ E fun y μ' => D.nx (ρ.set i (some y)) μ') (hs : ∀ env, swapsWith e (some (.Name x pos')) pos.line env = pure false := by intro _; rfl) : WS1 C (.Assign [.Name x pos'] e pos) ρ μ E D := fun X σ H w A =>
  tS1_of (ps_set (i := i) (by rw [A.has.N]; exact n.nd) (by rw [A.has.N]; exact n.at_) (by rw [A.has.sc]; exact n.loc) pe_tE (hs _) (Nm.fn n A.has)) (h.go A fun v H1 z μ1 w1 r1 A1 S1 q => ⟨_, μ1, w1, A1.R.put r1 i, A1.M, S1, q⟩)
/-- x op= e, numbers -/
theorem w1_addI {i : Nat} {k : Int} (n : C.Nm i x) (hv : ρ[i]? = some (some (.d (.int k)))) (h : WE C e ρ μ E fun y μ' => ∃ j, y = .d (.int j) ∧ D.nx (ρ.set i (some (.d (.int (k + j))))) μ') : WS1 C (.AugAssign (.Name x pos') .Add e pos) ρ μ E D := fun X σ H w A => by
  obtain ⟨u, e1, r⟩ := A.R.rep i _ hv
  rw [show u = V.int k from r] at e1
  refine tS1_of (ps_aug (i := i) (by rw [A.has.N]; exact n.nd) (by rw [A.has.N]; exact n.at_) (by rw [A.has.sc]; exact n.loc) pe_tE ip_add (Nm.fn n A.has)) ⟨_, e1, h.go A fun v H1 z μ1 w1 r1 A1 S1 ⟨j, ez, q⟩ => ?_⟩
  subst ez
  exact ⟨k, j, rfl, r1, _, μ1, w1, A1.R.put (y := .d (.int (k + j))) rfl i, A1.M, S1, q⟩
theorem w1_subI {i : Nat} {k : Int} (n : C.Nm i x) (hv : ρ[i]? = some (some (.d (.int k)))) (h : WE C e ρ μ E fun y μ' => ∃ j, y = .d (.int j) ∧ D.nx (ρ.set i (some (.d (.int (k - j))))) μ') : WS1 C (.AugAssign (.Name x pos') .Sub e pos) ρ μ E D := fun X σ H w A => by
  obtain ⟨u, e1, r⟩ := A.R.rep i _ hv
  rw [show u = V.int k from r] at e1
  refine tS1_of (ps_aug (i := i) (by rw [A.has.N]; exact n.nd) (by rw [A.has.N]; exact n.at_) (by rw [A.has.sc]; exact n.loc) pe_tE ip_sub (Nm.fn n A.has)) ⟨_, e1, h.go A fun v H1 z μ1 w1 r1 A1 S1 ⟨j, ez, q⟩ => ?_⟩
  subst ez
  exact ⟨k, j, rfl, r1, _, μ1, w1, A1.R.put (y := .d (.int (k - j))) rfl i, A1.M, S1, q⟩
/-- a, b = e1, e2: two local names -/
theorem w1_par [Calm C] {i j : Nat} {y : Str} {px py pt pt2 : Pos} {kt k2 : Nat} (n : C.Nm i x) (n2 : C.Nm j y) (hij : i ≠ j) (hx : C.sc.names.lookup x = some .local) (hy : C.sc.names.lookup y = some .local)
    (h : WE C a ρ μ E fun u μ1 => WE C b ρ μ1 E fun v μ2 => D.nx ((ρ.set i (some u)).set j (some v)) μ2)
    (hw : ∀ X, C.Has X → swappedStores [.Tuple [.Name x px, .Name y py] kt pt] (.Tuple [a, b] k2 pt2) X.env = pure (some [x, y]))
    (hs : ∀ env, swapsWithSole [.Tuple [.Name x px, .Name y py] kt pt] (.Tuple [a, b] k2 pt2) pos.line env = pure false := by intro _; rfl)
    (h1 : ∀ env, starEach [a, b] env = (false, eval a env) :: starEach [b] env := by intro _; rfl) (h2 : ∀ env, starEach [b] env = (false, eval b env) :: starEach [] env := by intro _; rfl) :
    WS1 C (.Assign [.Tuple [.Name x px, .Name y py] kt pt] (.Tuple [a, b] k2 pt2) pos) ρ μ E D := fun X σ H w A =>
  tS1_of (ps_par (i := i) (j := j) (A.has.calm Calm.h) (by rw [A.has.N]; exact n.nd) (by rw [A.has.N]; exact n.at_) (by rw [A.has.N]; exact n2.at_) hij (by rw [A.has.sc]; exact hx) (by rw [A.has.sc]; exact hy) (pa_cons pe_tE (pa_cons pe_tE pa_nil (h2 _)) (h1 _)) (hw X A.has) (hs _))
    (h.go A fun v H1 z μ1 w1 r1 A1 S1 q1 => q1.go A1 fun v2 H2 z2 μ2 w2 r2 A2 S2 q2 => ⟨v, v2, rfl, _, μ2, w2, (A2.R.put (r1.stp S2) i).put r2 j, A2.M, S1.trans S2, q2⟩)
end
/-! ### targets -/
/-- names that take a value: one, or those of a tuple -/
inductive Tg where
  | nm (j : Nat) | tp (js : List Nat)
def setAll (ρ : Env) : List Nat → List D → Env
  | j :: js, d :: ds => setAll (ρ.set j (some (.d d))) js ds
  | _, _ => ρ
def Tg.put : Tg → XV → Env → Env → Prop
  | .nm j, x, ρ, ρ' => ρ' = ρ.set j (some x)
  | .tp js, x, ρ, ρ' => ∃ ds, x = .d (.tup ds) ∧ ds.length = js.length ∧ ρ' = setAll ρ js ds
inductive NmsOk (C : SC) : List Expr → List Nat → Prop where
  | nil : NmsOk C [] []
  | cons {j : Nat} {x : Str} {pos : Pos} {es : List Expr} {js : List Nat} : C.Nm j x → NmsOk C es js → NmsOk C (.Name x pos :: es) (j :: js)
inductive TgOk (C : SC) : Expr → Tg → Prop where
  | nm {j : Nat} {x : Str} {pos : Pos} : C.Nm j x → TgOk C (.Name x pos) (.nm j)
  | tp {es : List Expr} {js : List Nat} {k : Nat} {pos : Pos} : NmsOk C es js → TgOk C (.Tuple es k pos) (.tp js)
def gNms : List Nat → TGs
  | [] => gNil
  | j :: js => gCons (gName j) (gNms js)
def Tg.g (K : PySem.W.Frag) : Tg → TG
  | .nm j => gName j
  | .tp js => gTup K js.length (gNms js)
section
variable {C : SC} {X : Cx}
theorem NmsOk.pgs : ∀ {es : List Expr} {js : List Nat}, NmsOk C es js → C.Has X → PGs X es (gNms js) ∧ (assignEach es X.env).length = js.length ∧ (assignEach es X.env).findIdx? (·.1) = none
  | _, _, .nil, _ => ⟨pgs_nil, rfl, rfl⟩
  | _, _, .cons n r, hX => by
    obtain ⟨h1, h2, h3⟩ := NmsOk.pgs r hX
    refine ⟨pgs_cons (pg_name (by rw [hX.N]; exact n.nd) (by rw [hX.N]; exact n.at_) (by rw [hX.sc]; exact n.loc) (Nm.fn n hX)) h1 rfl, ?_, ?_⟩
    · show (_ :: assignEach _ X.env).length = _
      rw [List.length_cons, List.length_cons, h2]
    · show List.findIdx? (·.1) ((false, _) :: assignEach _ X.env) = none
      rw [List.findIdx?_cons, h3]
      rfl
theorem TgOk.pg [Calm C] {tg : Expr} {t : Tg} (h : TgOk C tg t) (hX : C.Has X) : PG X tg (t.g X.K) := by
  cases h with
  | nm n => exact pg_name (by rw [hX.N]; exact n.nd) (by rw [hX.N]; exact n.at_) (by rw [hX.sc]; exact n.loc) (Nm.fn n hX)
  | tp n =>
    obtain ⟨h1, h2, h3⟩ := n.pgs hX
    exact pg_tup (hX.calm Calm.h) h1 h2 h3
theorem gNms_go {K : PySem.W.Frag} {μ : Mem} {H : Hp} {w : IA} : ∀ {js : List Nat} {ds : List D} {vs : List V} {ρ : Env} {σ : L2.St}, ds.length = js.length → Reps K (Live μ w) H ds vs → ROk K μ H w ρ σ →
    ∀ {P : L2.St → Hp → Prop}, (∀ σ', ROk K μ H w (setAll ρ js ds) σ' → P σ' H) → gNms js vs σ H P
  | [], [], vs, ρ, σ, _, r, R, P, k => ⟨r, k σ R⟩
  | [], _ :: _, _, _, _, hl, _, _, _, _ => by cases hl
  | _ :: _, [], _, _, _, hl, _, _, _, _ => by cases hl
  | j :: js, d :: ds, vs, ρ, σ, hl, r, R, P, k => by
    obtain ⟨v, vr, rfl, h1, h2⟩ := r
    refine ⟨v, vr, rfl, ?_⟩
    show gNms js vr (σ.set j (some v)) H P
    exact gNms_go (by simpa using hl) h2 (R.put (y := .d d) h1 j) k
theorem Tg.go {t : Tg} {K : PySem.W.Frag} {μ : Mem} {H : Hp} {w : IA} {x : XV} {v : V} {ρ ρ' : Env} {σ : L2.St} (hp : t.put x ρ ρ') (r : RepX K μ H w x v) (R : ROk K μ H w ρ σ) {P : L2.St → Hp → Prop} (k : ∀ σ', ROk K μ H w ρ' σ' → P σ' H) : t.g K v σ H P := by
  cases t with
  | nm j =>
    cases (show ρ' = _ from hp)
    exact k _ (R.put r j)
  | tp js =>
    obtain ⟨ds, rfl, hl, rfl⟩ := hp
    obtain ⟨a, xs, rfl, nl, e, rr⟩ := r
    exact ⟨a, xs, rfl, SqT.of e, by rw [rr.len]; exact hl, gNms_go hl rr R k⟩
end
section
variable {C : SC} {E : EPost} {ρ : Env} {μ : Mem} {D : DEnds} {e tg : Expr} {pos : Pos}
/-- target = e, any value -/
theorem w1_asg [Calm C] {t : Tg} (ht : TgOk C tg t) (h : WE C e ρ μ E fun y μ' => ∃ ρ', t.put y ρ ρ' ∧ D.nx ρ' μ') (hs : ∀ env, swapsWithSole [tg] e pos.line env = pure false := by intro _; rfl) (hw : ∀ env, swappedStores [tg] e env = pure none := by intro _; rfl)
    (h1 : ∀ env, (assignEach [tg] env).map (·.2) = [assign tg env] := by intro _; rfl) : WS1 C (.Assign [tg] e pos) ρ μ E D := fun X σ H w A =>
  tS1_of (ps_asg pe_tE (ht.pg A.has) (hs _) (hw _) (h1 _)) (h.go A fun v H1 z μ1 w1 r1 A1 S1 ⟨ρ', hp, q⟩ => by
    rw [A.has.K]
    exact Tg.go hp r1 A1.R fun σ' R' => ⟨ρ', μ1, w1, R', A1.M, S1, q⟩)
end
/-! ### walks -/
/-- what walked things keep, though others' objects come -/
structure Kp (μ : Mem) (H : Hp) (w : IA) (μ' : Mem) (H' : Hp) (w' : IA) : Prop where
  keep : ∀ a o, H a = some o → ¬ Live μ w a → H' a = some o ∧ ¬ Live μ' w' a
  num : ∀ (n : Nat) a, w.ι[n]? = some a → w'.ι[n]? = some a
theorem Stp.kp {μ μ' : Mem} {H H' : Hp} {w w' : IA} (S : Stp μ H w μ' H' w') : Kp μ H w μ' H' w' := ⟨S.keep, S.num⟩
theorem Kp.trans {μ μ' μ2 : Mem} {H H' H2 : Hp} {w w' w2 : IA} (a : Kp μ H w μ' H' w') (b : Kp μ' H' w' μ2 H2 w2) : Kp μ H w μ2 H2 w2 :=
  ⟨fun c o h n => b.keep c o (a.keep c o h n).1 (a.keep c o h n).2, fun n c h => b.num n c (a.num n c h)⟩
/-- the walk J gives these items, while the cells are as G says -/
def DIt (K : PySem.W.Frag) (J : It) (items : List XV) (G : Mem → Prop) (μ1 : Mem) (H1 : Hp) (w1 : IA) : Prop :=
  ∀ μ' H' w', Kp μ1 H1 w1 μ' H' w' → MOk K μ' H' w' → G μ' →
    (∀ (i : Nat) x, items[i]? = some x → J.go i H' ∧ ∀ v H'', J.yld i H' v H'' → (∀ a o, H' a = some o → H'' a = some o) ∧ RepX K μ' H'' w' x v) ∧ J.stop items.length H'
def WI (C : SC) (tg iter : Expr) (ρ : Env) (μ : Mem) (E : EPost) (R : List XV → (Mem → Prop) → Mem → Prop) : Prop :=
  ∀ X σ H w, At C X E ρ μ σ H w → ∃ wi, PI X tg iter wi ∧ ∀ P : It → Hp → Prop, (∀ J H1 items G μ1 w1, At C X E ρ μ1 σ H1 w1 → Stp μ H w μ1 H1 w1 → DIt C.K J items G μ1 H1 w1 → G μ1 → R items G μ1 → P J H1) → wi σ H P
section
variable {C : SC} {E : EPost} {ρ : Env} {μ : Mem} {tg e : Expr} {p pos : Pos} {R : List XV → (Mem → Prop) → Mem → Prop}
theorem dit_lst {K : PySem.W.Frag} {a : Addr} {xs : List V} {ds : List D} {H : Hp} {w : IA} (nl : ¬ Live μ w a) (e : H a = some (.lst xs)) (r : Reps K (Live μ w) H ds xs) : DIt K (Itl K a) (ds.map XV.d) (fun _ => True) μ H w := by
  intro μ' H' w' kp M _
  have e' := (kp.keep a _ e nl).1
  have r' : Reps K (Live μ' w') H' ds xs := Reps.mono kp.keep _ _ r
  refine ⟨fun i x hx => ?_, ⟨xs, SqL.of e', by rw [List.length_map, r.len]; exact Nat.le_refl _⟩⟩
  rw [List.getElem?_map] at hx
  cases hd : ds[i]? with
  | none => rw [hd] at hx; cases hx
  | some d =>
    rw [hd] at hx
    cases hx
    obtain ⟨v, hv, rv⟩ := Reps.get r' hd
    refine ⟨⟨xs, v, SqL.of e', hv⟩, fun u H'' y => ?_⟩
    obtain ⟨rfl, y⟩ := y
    have := y xs (SqL.of e')
    rw [hv] at this
    cases this
    exact ⟨fun _ _ h => h, rv⟩
theorem dit_tup {K : PySem.W.Frag} {a : Addr} {xs : List V} {ds : List D} {H : Hp} {w : IA} (nl : ¬ Live μ w a) (e : H a = some (.tup xs)) (r : Reps K (Live μ w) H ds xs) : DIt K (Itt K a) (ds.map XV.d) (fun _ => True) μ H w := by
  intro μ' H' w' kp M _
  have e' := (kp.keep a _ e nl).1
  have r' : Reps K (Live μ' w') H' ds xs := Reps.mono kp.keep _ _ r
  refine ⟨fun i x hx => ?_, ⟨xs, SqT.of e', by rw [List.length_map, r.len]; exact Nat.le_refl _⟩⟩
  rw [List.getElem?_map] at hx
  cases hd : ds[i]? with
  | none => rw [hd] at hx; cases hx
  | some d =>
    rw [hd] at hx
    cases hx
    obtain ⟨v, hv, rv⟩ := Reps.get r' hd
    refine ⟨⟨xs, v, SqT.of e', hv⟩, fun u H'' y => ?_⟩
    obtain ⟨rfl, y⟩ := y
    have := y xs (SqT.of e')
    rw [hv] at this
    cases this
    exact ⟨fun _ _ h => h, rv⟩
theorem dit_cell {K : PySem.W.Frag} {a : Addr} {n : Nat} {xs : List XV} {H : Hp} {w : IA} (ha : w.ι[n]? = some a) : DIt K (Itl K a) xs (fun μ' => μ'[n]? = some (some (.lst xs))) μ H w := by
  intro μ' H' w' kp M hm
  have ha' := kp.num n a ha
  obtain ⟨vs, e, r⟩ := M.holds n _ a hm ha'
  refine ⟨fun i x hx => ?_, ⟨vs, SqL.of e, by rw [← r.length]; exact Nat.le_refl _⟩⟩
  obtain ⟨v, hv, rv⟩ := paired_get r hx
  refine ⟨⟨vs, v, SqL.of e, hv⟩, fun u H'' y => ?_⟩
  obtain ⟨rfl, y⟩ := y
  have := y vs (SqL.of e)
  rw [hv] at this
  cases this
  exact ⟨fun _ _ h => h, rv⟩
theorem dit_scr {K : PySem.W.Frag} {a : Addr} {ns : List Int} {H : Hp} {w : IA} (h : Rep K (Live μ w) H (.scr ns) (.ref a)) : DIt K (Itl K a) (ns.map fun i => XV.d (.int i)) (fun _ => True) μ H w := by
  intro μ' H' w' kp M _
  have h' : Rep K (Live μ' w') H' (.scr ns) (.ref a) := Rep.mono kp.keep _ _ h
  obtain ⟨a', ea, hs⟩ := scr_sql h'
  cases ea
  refine ⟨fun i x hx => ?_, ⟨_, hs, by rw [List.length_map, List.length_map]; exact Nat.le_refl _⟩⟩
  rw [List.getElem?_map] at hx
  cases hd : ns[i]? with
  | none => rw [hd] at hx; cases hx
  | some k =>
    rw [hd] at hx
    cases hx
    have hv : (ns.map V.int)[i]? = some (.int k) := by rw [List.getElem?_map, hd]; rfl
    refine ⟨⟨_, _, hs, hv⟩, fun u H'' y => ?_⟩
    obtain ⟨rfl, y⟩ := y
    have := y _ hs
    rw [hv] at this
    cases this
    exact ⟨fun _ _ h => h, rfl⟩
theorem wi_lst (h : WE C e ρ μ E fun x μ1 => ∃ ds, x = .d (.lst ds) ∧ R (ds.map XV.d) (fun _ => True) μ1) : WI C tg e ρ μ E R := fun X σ H w A =>
  ⟨_, pi_list pe_tE, fun P k => h.go A fun v H1 z μ1 w1 r1 A1 S1 ⟨ds, ez, q⟩ => by
    subst ez
    obtain ⟨a, xs, rfl, nl, e, r⟩ := r1
    exact ⟨a, rfl, ⟨xs, SqL.of e⟩, k _ _ _ _ _ _ A1 S1 (by rw [A.has.K]; exact dit_lst nl e r) trivial q⟩⟩
theorem wi_tup (h : WE C e ρ μ E fun x μ1 => ∃ ds, x = .d (.tup ds) ∧ R (ds.map XV.d) (fun _ => True) μ1) : WI C tg e ρ μ E R := fun X σ H w A =>
  ⟨_, pi_tup pe_tE, fun P k => h.go A fun v H1 z μ1 w1 r1 A1 S1 ⟨ds, ez, q⟩ => by
    subst ez
    obtain ⟨a, xs, rfl, nl, e, r⟩ := r1
    exact ⟨a, rfl, ⟨xs, SqT.of e⟩, k _ _ _ _ _ _ A1 S1 (by rw [A.has.K]; exact dit_tup nl e r) trivial q⟩⟩
theorem wi_cell (h : WE C e ρ μ E fun x μ1 => ∃ n xs, x = .l n ∧ μ1[n]? = some (some (.lst xs)) ∧ R xs (fun μ' => μ'[n]? = some (some (.lst xs))) μ1) : WI C tg e ρ μ E R := fun X σ H w A =>
  ⟨_, pi_list pe_tE, fun P k => h.go A fun v H1 z μ1 w1 r1 A1 S1 ⟨n, xs, ez, hm, q⟩ => by
    subst ez
    obtain ⟨a, ha, rfl⟩ := r1
    obtain ⟨vs, e, r⟩ := A1.M.holds n _ a hm ha
    exact ⟨a, rfl, ⟨vs, SqL.of e⟩, k _ _ _ _ _ _ A1 S1 (by rw [A.has.K]; exact dit_cell ha) hm q⟩⟩
theorem wi_scr (h : WE C e ρ μ E fun x μ1 => ∃ ns, x = .d (.scr ns) ∧ R (ns.map fun i => XV.d (.int i)) (fun _ => True) μ1) : WI C tg e ρ μ E R := fun X σ H w A =>
  ⟨_, pi_list pe_tE, fun P k => h.go A fun v H1 z μ1 w1 r1 A1 S1 ⟨ns, ez, q⟩ => by
    subst ez
    obtain ⟨a, rfl, hs⟩ := scr_sql r1
    exact ⟨a, rfl, ⟨_, by rw [A.has.K]; exact hs⟩, k _ _ _ _ _ _ A1 S1 (by rw [A.has.K]; exact dit_scr r1) trivial q⟩⟩
theorem wi_txt (h : WE C e ρ μ E fun x μ1 => ∃ l, x = .d (.txt l) ∧ R (l.map fun c => XV.d (.txt [c])) (fun _ => True) μ1) : WI C tg e ρ μ E R := fun X σ H w A =>
  ⟨_, pi_str pe_tE, fun P k => h.go A fun v H1 z μ1 w1 r1 A1 S1 ⟨l, ez, q⟩ => by
    subst ez
    refine ⟨SX.S l, r1, k _ _ _ _ _ _ A1 S1 (fun μ' H' w' kp M _ => ⟨fun i x hx => ?_, ?_⟩) trivial q⟩
    · rw [List.getElem?_map] at hx
      cases hd : l[i]? with
      | none => rw [hd] at hx; cases hx
      | some c =>
        rw [hd] at hx
        cases hx
        have hi : i < l.length := (List.getElem?_eq_some_iff.mp hd).1
        refine ⟨by show i < l.toArray.size; simpa using hi, fun u H'' y => ?_⟩
        obtain ⟨rfl, c', hc, rfl⟩ := y
        have : l.toArray[i]? = some c' := hc
        rw [List.getElem?_toArray, hd] at this
        cases this
        exact ⟨fun _ _ h => h, rfl⟩
    · show l.toArray.size ≤ (l.map _).length
      simp⟩
/-- range(j), range(i, j) -/
def rng (lo : Int) (n : Nat) : List XV := (List.range n).map fun i => XV.d (.int (lo + (i : Nat)))
theorem dit_rng {K : PySem.W.Frag} {lo : Int} {n : Nat} {H : Hp} {w : IA} : DIt K (Itr lo n) (rng lo n) (fun _ => True) μ H w := by
  intro μ' H' w' kp M _
  refine ⟨fun i x hx => ?_, by show n ≤ (rng lo n).length; unfold rng; simp⟩
  unfold rng at hx
  rw [List.getElem?_map] at hx
  by_cases hi : i < n
  · rw [List.getElem?_range hi] at hx
    cases hx
    refine ⟨hi, fun u H'' y => ?_⟩
    obtain ⟨rfl, rfl⟩ := y
    exact ⟨fun _ _ h => h, rfl⟩
  · rw [List.getElem?_eq_none (by rw [List.length_range]; omega)] at hx
    cases hx
theorem wi_range1 {a : Expr} (hg : C.Glob "range") (hm : C.mg "range" = none) (h : WE C a ρ μ E fun x μ1 => ∃ j : Int, x = .d (.int j) ∧ -(2 ^ 62) ≤ j ∧ j < 2 ^ 62 ∧ R (rng 0 j.toNat) (fun _ => True) μ1)
    (hs : ∀ env, starEach [a] env = [(false, eval a env)] := by intro _; rfl) : WI C tg (.Call (.Name "range" p) [a] [] pos) ρ μ E R := fun X σ H w A =>
  ⟨_, pi_range1 (by show X.env.scope.names.lookup _ = _; rw [A.has.sc]; exact hg) (by rw [A.has.mg]; exact hm) (pa_cons pe_tE pa_nil (hs _)) (hs _), fun P k => h.go A fun v H1 z μ1 w1 r1 A1 S1 ⟨j, ez, h1, h2, q⟩ => by
    subst ez
    exact ⟨j, by rw [show v = V.int j from r1], h1, h2, k _ _ _ _ _ _ A1 S1 dit_rng trivial q⟩⟩
theorem wi_range2 {a b : Expr} (hg : C.Glob "range") (hm : C.mg "range" = none) (h : WE C a ρ μ E fun x μ1 => WE C b ρ μ1 E fun y μ2 => ∃ i j : Int, x = .d (.int i) ∧ y = .d (.int j) ∧ (-(2 ^ 62) ≤ i ∧ i < 2 ^ 62 ∧ -(2 ^ 62) ≤ j ∧ j < 2 ^ 62) ∧ R (rng i (j - i).toNat) (fun _ => True) μ2)
    (hs : ∀ env, starEach [a, b] env = [(false, eval a env), (false, eval b env)] := by intro _; rfl) (hs2 : ∀ env, starEach [b] env = [(false, eval b env)] := by intro _; rfl) : WI C tg (.Call (.Name "range" p) [a, b] [] pos) ρ μ E R := fun X σ H w A =>
  ⟨_, pi_range2 (by show X.env.scope.names.lookup _ = _; rw [A.has.sc]; exact hg) (by rw [A.has.mg]; exact hm) (pa_cons pe_tE (pa_cons pe_tE pa_nil (hs2 _)) ((hs _).trans (by rw [hs2]))) (hs _) (hs2 _), fun P k =>
    h.go A fun v H1 z μ1 w1 r1 A1 S1 h1 => h1.go A1 fun v2 H2 z2 μ2 w2 r2 A2 S2 ⟨i, j, e1, e2, hb, q⟩ => by
      subst e1 e2
      exact ⟨i, j, by rw [show v = V.int i from r1, show v2 = V.int j from r2], hb, k _ _ _ _ _ _ A2 (S1.trans S2) dit_rng trivial q⟩⟩
end
end DL
set_option maxRecDepth 100000
set_option maxHeartbeats 2000000
namespace DL
open PySem L2 PySem.Spec
/-! ### loops -/
/-- fewer names known, the same cells; or the last cells let go -/
structure Sub (n0 : Nat) (ρ : Env) (μ : Mem) (ρ2 : Env) (μ2 : Mem) : Prop where
  len : ρ.length = ρ2.length
  env : ∀ (i : Nat) (x : XV), ρ[i]? = some (some x) → ρ2[i]? = some (some x)
  mem : μ = μ2 ∨ (n0 ≤ μ.length ∧ (∃ r, μ2 = μ ++ r) ∧ (∀ m, some m ∈ μ → m.below μ.length) ∧ ∀ (i : Nat) (x : XV), ρ[i]? = some (some x) → x.below μ.length)
theorem Sub.refl {n0 : Nat} {ρ : Env} {μ : Mem} : Sub n0 ρ μ ρ μ := ⟨rfl, fun _ _ h => h, .inl rfl⟩
def Wk (n0 : Nat) (P : Env → Mem → Prop) : Env → Mem → Prop := fun ρ2 μ2 => ∃ ρ μ, Sub n0 ρ μ ρ2 μ2 ∧ P ρ μ
theorem Wk.of {n0 : Nat} {P : Env → Mem → Prop} {ρ : Env} {μ : Mem} (h : P ρ μ) : Wk n0 P ρ μ := ⟨ρ, μ, Sub.refl, h⟩
section
variable {C : SC} {E : EPost} {ρ : Env} {μ : Mem} {Q : XV → Mem → Prop} {D : DEnds} {tg iter c : Expr} {body : List Stmt} {pos : Pos} {X : Cx} {σ : L2.St} {H : Hp} {w : IA}
theorem cut_num {w2 : IA} {n k : Nat} {a : Addr} (e : (w2.cut n).ι[k]? = some a) : w2.ι[k]? = some a := by
  have e : (w2.ι.take n)[k]? = some a := e
  have hk : k < n := by
    have := (List.getElem?_eq_some_iff.mp e).1
    rw [List.length_take] at this
    omega
  rw [List.getElem?_take_of_lt hk] at e
  exact e
theorem Stp.cut {μ0 μ2 : Mem} {H0 H2 : Hp} {w0 w2 : IA} {K : PySem.W.Frag} (S : Stp μ0 H0 w0 μ2 H2 w2) (M0 : MOk K μ0 H0 w0) {n : Nat} (hn : μ0.length ≤ n) : Stp μ0 H0 w0 (μ2.take n) H2 (w2.cut n) := by
  refine ⟨fun a o h nl => ⟨(S.keep a o h nl).1, fun q => (S.keep a o h nl).2 (live_cut q)⟩, fun k a h => ?_, S.sF, S.frm, S.there, fun k a hk e => S.new k a hk (cut_num e)⟩
  have hk : k < n := by
    have := (List.getElem?_eq_some_iff.mp h).1
    rw [M0.len] at this
    omega
  show (w2.ι.take n)[k]? = some a
  rw [List.getElem?_take_of_lt hk]
  exact S.num k a h
/-- the weaker state is reached -/
theorem Sub.reach {ρ2 : Env} {μ2 : Mem} {μ0 : Mem} {H0 H2 : Hp} {w0 w2 : IA} {σ2 : L2.St} {K : PySem.W.Frag} (h : Sub μ0.length ρ μ ρ2 μ2) (M0 : MOk K μ0 H0 w0) (R : ROk K μ2 H2 w2 ρ2 σ2) (M : MOk K μ2 H2 w2) (S : Stp μ0 H0 w0 μ2 H2 w2) :
    ∃ w', ROk K μ H2 w' ρ σ2 ∧ MOk K μ H2 w' ∧ Stp μ0 H0 w0 μ H2 w' := by
  have Rw : ROk K μ2 H2 w2 ρ σ2 := ⟨h.len.trans R.len, fun i x e => R.rep i x (h.env i x e)⟩
  rcases h.mem with rfl | ⟨hn, ⟨r, rfl⟩, hb, hx⟩
  · exact ⟨w2, Rw, M, S⟩
  · have et : (μ ++ r).take μ.length = μ := List.take_left
    refine ⟨w2.cut μ.length, ⟨Rw.len, fun i x e => ?_⟩, ?_, ?_⟩
    · obtain ⟨v, e1, q⟩ := Rw.rep i x e
      refine ⟨v, e1, ?_⟩
      have := RepX.cut (n := μ.length) (hx i x e) q
      rw [et] at this
      exact this
    · have := M.cut μ.length (by rw [et]; exact hb)
      rw [et] at this
      exact this
    · have := S.cut M0 hn
      rw [et] at this
      exact this
theorem liftN.wk {K : PySem.W.Frag} {P : Env → Mem → Prop} {σ2 : L2.St} {H2 : Hp} {μ0 : Mem} {H0 : Hp} {w0 : IA} (M0 : MOk K μ0 H0 w0) (h : liftN K (Wk μ0.length P) μ0 H0 w0 σ2 H2) : liftN K P μ0 H0 w0 σ2 H2 := by
  obtain ⟨ρ2, μ2, w2, R, M, S, ρ, μ, hs, q⟩ := h
  obtain ⟨w', R', M', S'⟩ := hs.reach M0 R M S
  exact ⟨ρ, μ, w', R', M', S', q⟩
/-- for target in iter: body; P by the turn -/
theorem w1_for [Calm C] {t : Tg} (ht : TgOk C tg t) (h : WI C tg iter ρ μ E fun items G μ1 => ∃ P : Nat → Env → Mem → Prop, P 0 ρ μ1 ∧ (∀ i ρ' μ', i ≤ items.length → P i ρ' μ' → G μ') ∧
      (∀ (i : Nat) x ρ' μ', items[i]? = some x → P i ρ' μ' → ∃ ρ2, t.put x ρ' ρ2 ∧ WS C body ρ2 μ' E { D with nx := Wk μ'.length (P (i + 1)), ct := Wk μ'.length (P (i + 1)), bk := D.nx }) ∧
      (∀ ρ' μ', P items.length ρ' μ' → D.nx ρ' μ'))
    (hs : ∀ env x, foldedSetIterable iter env x = pure x := by intro _ _; rfl) : WS1 C (.For tg iter body [] pos) ρ μ E D := fun X σ H w A => by
  obtain ⟨wi, hi, hw⟩ := h X σ H w A
  refine tS1_of (ps_for A.has.po (A.has.calm Calm.h) hi (ht.pg A.has) ps_tS (hs _)) (hw _ fun J H1 items G μ1 w1 A1 S1 dit g0 ⟨P, p0, pG, pS, pD⟩ => ?_)
  refine ⟨fun i m σ' H' => m = items.length - i ∧ i ≤ items.length ∧ liftN C.K (P i) μ1 H1 w1 σ' H', ⟨items.length, by simp, Nat.zero_le _, ρ, μ1, w1, A1.R, A1.M, Stp.refl, p0⟩, ?_⟩
  rintro i m σ' H' ⟨rfl, hil, ρ', μ', w', R', M', S', p'⟩
  obtain ⟨dgo, dstop⟩ := dit μ' H' w' S'.kp M' (pG i ρ' μ' hil p')
  by_cases hlt : i < items.length
  · obtain ⟨x, hx⟩ : ∃ x, items[i]? = some x := ⟨items[i], List.getElem?_eq_getElem hlt⟩
    obtain ⟨go, yl⟩ := dgo i x hx
    refine .inr ⟨go, liftN C.K (P (i + 1)) μ1 H1 w1, fun σ2 H2 q => ⟨items.length - (i + 1), by omega, rfl, hlt, q⟩, fun v H2 y => ?_⟩
    obtain ⟨gr, rx⟩ := yl v H2 y
    have M2 : MOk C.K μ' H2 w' := M'.grow gr
    have S2 : Stp μ' H' w' μ' H2 w' := Stp.grow gr
    obtain ⟨ρ2, hput, hb⟩ := pS i x ρ' μ' hx p'
    rw [A.has.K]
    refine Tg.go hput rx (R'.stp S2) fun σ3 R3 => ?_
    have A3 : At C X E ρ2 μ' σ3 H2 w' := ⟨A.has, M2, R3, A1.T.imp fun _ _ _ _ h => liftE.from (S'.trans S2) h⟩
    exact tS_mono (hb X σ3 H2 w' A3) (fun _ _ q => liftN.from (S'.trans S2) (liftN.wk M2 q)) (fun _ _ q => lift.from ((S1.trans S').trans S2) q) (fun _ _ q => liftN.from ((S1.trans S').trans S2) q) (fun _ _ q => liftN.from (S'.trans S2) (liftN.wk M2 q))
  · have e : i = items.length := by omega
    subst e
    exact .inl ⟨dstop, ρ', μ', w', R', M', S1.trans S', pD ρ' μ' p'⟩
/-- while c: body; W by a measure -/
theorem w1_while (W : Nat → Env → Mem → Prop) (m0 : Nat) (h0 : W m0 ρ μ)
    (hs : ∀ m ρ' μ', W m ρ' μ' → WT C c ρ' μ' E fun k μ2 => (k = true → WS C body ρ' μ2 E { D with nx := Wk μ2.length (fun ρ3 μ3 => ∃ m', m' < m ∧ W m' ρ3 μ3), ct := Wk μ2.length (fun ρ3 μ3 => ∃ m', m' < m ∧ W m' ρ3 μ3), bk := D.nx }) ∧ (k = false → D.nx ρ' μ2)) : WS1 C (.While c body [] pos) ρ μ E D := fun X σ H w A => by
  refine tS1_of (ps_while A.has.po pt_tT ps_tS) ⟨fun m => liftN C.K (W m) μ H w, ⟨m0, ρ, μ, w, A.R, A.M, Stp.refl, h0⟩, ?_⟩
  rintro m σ1 H1 ⟨ρ1, μ1, w1, R1, M1, S1, p1⟩
  have A1 : At C X E ρ1 μ1 σ1 H1 w1 := ⟨A.has, M1, R1, A.T.imp fun _ _ _ _ h => liftE.from S1 h⟩
  refine (hs m ρ1 μ1 p1).go A1 fun k H2 μ2 w2 A2 S2 q => ?_
  cases k with
  | true =>
    refine iteT ⟨liftN C.K (fun ρ3 μ3 => ∃ m', m' < m ∧ W m' ρ3 μ3) μ H w, ?_, ?_⟩
    · rintro σ3 H3 ⟨ρ3, μ3, w3, R3, M3, S3, m', hm, p3⟩
      exact ⟨m', hm, ρ3, μ3, w3, R3, M3, S3, p3⟩
    · exact tS_mono (q.1 rfl X σ1 H2 w2 A2) (fun _ _ q => liftN.from (S1.trans S2) (liftN.wk A2.M q)) (fun _ _ q => lift.from (S1.trans S2) q) (fun _ _ q => liftN.from (S1.trans S2) q) (fun _ _ q => liftN.from (S1.trans S2) (liftN.wk A2.M q))
  | false => exact iteF ⟨ρ1, μ2, w2, A2.R, A2.M, S1.trans S2, q.2 rfl⟩
/-! ### list comprehensions -/
theorem RepX.kp {K : PySem.W.Frag} {μ' : Mem} {H' : Hp} {w' : IA} (S : Kp μ H w μ' H' w') {x : XV} {v : V} (h : RepX K μ H w x v) : RepX K μ' H' w' x v := by
  cases x with
  | d x => exact Rep.mono S.keep x v h
  | l n =>
    obtain ⟨a, e, r⟩ := h
    exact ⟨a, S.num n a e, r⟩
theorem Holds.kp {K : PySem.W.Frag} {μ μ' : Mem} {H H' : Hp} {w w' : IA} (S : Kp μ H w μ' H' w') {m : MO} {a : Addr} (h : Holds K μ H w m a) (k : ∀ o, H a = some o → H' a = some o) : Holds K μ' H' w' m a := by
  cases m with
  | lst xs => obtain ⟨us, e, r⟩ := h; exact ⟨us, k _ e, Paired.mapP r fun _ _ q => q.kp S⟩
  | ins C' fs xs => obtain ⟨dx, gs, e, f, r⟩ := h; exact ⟨dx, gs, k _ e, f, Paired.mapP r fun _ _ q => q.kp S⟩
  | dct ks xs => obtain ⟨kvs, e, f, r⟩ := h; exact ⟨kvs, k _ e, f, Paired.mapP r fun _ _ q => q.kp S⟩
  | dcn hs ks xs => obtain ⟨ys, e, f, r1, r2⟩ := h; exact ⟨ys, k _ e, f, Reps.mono S.keep ks _ r1, Paired.mapP r2 fun _ _ q => q.kp S⟩
theorem ROk.kp {K : PySem.W.Frag} {μ' : Mem} {H' : Hp} {w' : IA} (S : Kp μ H w μ' H' w') (h : ROk K μ H w ρ σ) : ROk K μ' H' w' ρ σ := ⟨h.len, fun i x e => by
  obtain ⟨v, e1, r⟩ := h.rep i x e
  exact ⟨v, e1, r.kp S⟩⟩
def wipeE (ρ : Env) : List Nat → Env
  | [] => ρ
  | v :: vs => (wipeE ρ vs).set v none
theorem wipeE_length (ρ : Env) : ∀ vs : List Nat, (wipeE ρ vs).length = ρ.length
  | [] => rfl
  | v :: vs => by unfold wipeE; rw [List.length_set, wipeE_length ρ vs]
theorem wipeE_some {ρ : Env} {i : Nat} {x : XV} : ∀ {vs : List Nat}, (wipeE ρ vs)[i]? = some (some x) → ρ[i]? = some (some x) ∧ i ∉ vs
  | [], h => ⟨h, by simp⟩
  | v :: vs, h => by
    unfold wipeE at h
    by_cases hi : v = i
    · subst hi
      by_cases hv : v < (wipeE ρ vs).length
      · rw [List.getElem?_set_self hv] at h; cases h
      · rw [List.getElem?_eq_none (by simpa using hv)] at h; cases h
    · rw [List.getElem?_set_ne hi] at h
      obtain ⟨h1, h2⟩ := wipeE_some h
      exact ⟨h1, by simp only [List.mem_cons, not_or]; exact ⟨fun e => hi e.symm, h2⟩⟩
theorem wipe_at {σ : L2.St} {i : Nat} : ∀ {vs : List Nat}, i ∉ vs → (wipe σ vs)[i]? = σ[i]?
  | [], _ => rfl
  | v :: vs, h => by
    unfold wipe
    simp only [List.mem_cons, not_or] at h
    rw [List.getElem?_set_ne (Ne.symm h.1)]
    exact wipe_at h.2
theorem wipe_in {σ : L2.St} {i : Nat} : ∀ {vs : List Nat}, i ∈ vs → i < σ.length → (wipe σ vs)[i]? = some none
  | [], h, _ => by cases h
  | v :: vs, h, hl => by
    unfold wipe
    by_cases e : v = i
    · subst e
      rw [List.getElem?_set_self (by rw [wipe_length]; exact hl)]
    · rw [List.getElem?_set_ne e]
      exact wipe_in (by rcases List.mem_cons.mp h with q | q; exact absurd q.symm e; exact q) hl
/-- two states that agree but at vs -/
theorem wipe_eq {σ σ' : L2.St} {vs : List Nat} (hl : σ.length = σ'.length) (h : ∀ i, i ∉ vs → σ[i]? = σ'[i]?) : wipe σ vs = wipe σ' vs := by
  apply List.ext_getElem?
  intro i
  by_cases hi : i ∈ vs
  · by_cases hn : i < σ.length
    · rw [wipe_in hi hn, wipe_in hi (by rw [← hl]; exact hn)]
    · rw [List.getElem?_eq_none (by rw [wipe_length]; omega), List.getElem?_eq_none (by rw [wipe_length]; omega)]
  · rw [wipe_at hi, wipe_at hi]
    exact h i hi
theorem ROk.wipe {K : PySem.W.Frag} (R : ROk K μ H w ρ σ) (vs : List Nat) : ROk K μ H w (wipeE ρ vs) (L2.wipe σ vs) := by
  refine ⟨by rw [wipeE_length, wipe_length]; exact R.len, fun i x e => ?_⟩
  obtain ⟨h1, h2⟩ := wipeE_some e
  obtain ⟨v, e1, r⟩ := R.rep i x h1
  exact ⟨v, by rw [wipe_at h2]; exact e1, r⟩
def Tg.slots : Tg → List Nat
  | .nm j => [j]
  | .tp js => js
theorem gNms_go2 {K : PySem.W.Frag} : ∀ {js : List Nat} {ds : List DL.D} {vs : List V} {ρ : Env} {σ : L2.St}, ds.length = js.length → Reps K (Live μ w) H ds vs → ROk K μ H w ρ σ →
    ∀ {P : L2.St → Hp → Prop}, (∀ σ', ROk K μ H w (setAll ρ js ds) σ' → σ'.length = σ.length → (∀ i, i ∉ js → σ'[i]? = σ[i]?) → P σ' H) → gNms js vs σ H P
  | [], [], vs, ρ, σ, _, r, R, P, k => ⟨r, k σ R rfl fun _ _ => rfl⟩
  | [], _ :: _, _, _, _, hl, _, _, _, _ => by cases hl
  | _ :: _, [], _, _, _, hl, _, _, _, _ => by cases hl
  | j :: js, d :: ds, vs, ρ, σ, hl, r, R, P, k => by
    obtain ⟨v, vr, rfl, h1, h2⟩ := r
    refine ⟨v, vr, rfl, ?_⟩
    show gNms js vr (σ.set j (some v)) H P
    refine gNms_go2 (by simpa using hl) h2 (R.put (y := .d d) h1 j) fun σ' R' l e => k σ' R' (by rw [l, List.length_set]) fun i hi => ?_
    simp only [List.mem_cons, not_or] at hi
    rw [e i hi.2, List.getElem?_set_ne (Ne.symm hi.1)]
theorem Tg.go2 {t : Tg} {K : PySem.W.Frag} {x : XV} {v : V} {ρ' : Env} (hp : t.put x ρ ρ') (r : RepX K μ H w x v) (R : ROk K μ H w ρ σ) {P : L2.St → Hp → Prop} (k : ∀ σ', ROk K μ H w ρ' σ' → σ'.length = σ.length → (∀ i, i ∉ t.slots → σ'[i]? = σ[i]?) → P σ' H) : t.g K v σ H P := by
  cases t with
  | nm j =>
    cases (show ρ' = _ from hp)
    refine k _ (R.put r j) (List.length_set ..) fun i hi => ?_
    have hi' : i ≠ j := by simpa [Tg.slots] using hi
    exact List.getElem?_set_ne (Ne.symm hi')
  | tp js =>
    obtain ⟨ds, rfl, hl, rfl⟩ := hp
    obtain ⟨a, xs, rfl, nl, e, rr⟩ := r
    exact ⟨a, xs, rfl, SqT.of e, by rw [rr.len]; exact hl, gNms_go2 hl rr R k⟩
/-- the clause's tests -/
def WIf (C : SC) (ifs : List Expr) (ρ : Env) (μ : Mem) (Q : Bool → Mem → Prop) : Prop :=
  match ifs with
  | [] => Q true μ
  | [c] => WT C c ρ μ noE Q
  | _ => False
def tIfs (X : Cx) : List Expr → TT
  | [] => tYes
  | [c] => tT X c
  | _ => fun _ _ _ => False
theorem pts_tIfs : ∀ {ifs : List Expr}, PTs X ifs (tIfs X ifs)
  | [] => pts_nil
  | [_] => pts_one pt_tT
  | _ :: _ :: _ => ⟨fun _ _ _ _ _ _ h => h.elim⟩
theorem takes_no {K : PySem.W.Frag} {X : Cx} : Takes X (liftE K noE μ H w) := fun u s' x => by
  obtain ⟨_, _, _, _, _, _, _, _, _, _, _, _, _, _, _, _, z⟩ := x
  obtain ⟨_, _, _, _, _, _, _, _, _, _, z⟩ := z
  exact z.elim
theorem blk_has (h : C.Has X) {scope : Scope} {s : Shared} {H0 : Hp} {A0 : Addr} {cl : List (Str × Addr)} {fp : List Addr} : (C.blk scope).Has (X.blk s H0 scope (compEnvC scope cl A0 X.env) fp) := by
  refine ⟨h.P, h.wd, h.K, h.mg, h.base, h.N, ?_, fun x hx => ?_, h.room, h.un, h.calm, PassesOwn.never, h.gd, fun z => nomatch z⟩
  · show relS scope X.env.scope = relS scope C.sc
    rw [h.sc]
  · have hx' : (scope.names.lookup x == some .local || scope.names.lookup x == some .cell) = true := hx
    rw [Bool.or_eq_true] at hx'
    rcases hx' with q | q
    · refine .inr ?_
      show (relS scope X.env.scope).names.lookup x = some .local
      exact lookup_relS_keep (by decide) (eq_of_beq q)
    · exact .inl q
end
/-- the list that a comprehension makes, as it stands on the way -/
structure Acc (K : PySem.W.Frag) (μ1 : Mem) (H1 : Hp) (w1 : IA) (Dl : Addr) (μ' : Mem) (H' : Hp) (w' : IA) (acc : List D) (xs : List V) : Prop where
  M : MOk K μ' H' w'
  kp : Kp μ1 H1 w1 μ' H' w'
  F : ∀ a, w'.F a ↔ (w1.F a ∨ a = Dl)
  frm : ∀ a o, w1.F a → H1 a = some o → H' a = some o
  D : H' Dl = some (.lst xs)
  R : Reps K (Live μ' w') H' acc xs
  there : ∀ a o, H1 a = some o → ∃ o', H' a = some o'
  new : ∀ (n : Nat) a, w1.ι.length ≤ n → w'.ι[n]? = some a → H1 a = none
section
variable {K : PySem.W.Frag} {μ1 μ' μ2 : Mem} {H1 H' H2 : Hp} {w1 w' w2 : IA} {Dl : Addr} {acc : List DL.D} {xs : List V}
theorem Acc.start (M : MOk K μ1 H1 w1) (hDl : H1 Dl = none) : Acc K μ1 H1 w1 Dl μ1 (upd H1 Dl (.lst [])) (w1.hide Dl) [] [] := by
  have nDl : ∀ {a : Addr}, Live μ1 w1 a → a ≠ Dl := fun l e => M.no_live hDl (e ▸ l)
  have M' := M.grow (upd_grow (o := .lst []) hDl)
  have S' : Kp μ1 H1 w1 μ1 (upd H1 Dl (.lst [])) (w1.hide Dl) := ⟨fun b o hb nl => ⟨upd_grow hDl b o hb, fun q => (live_hide.mp q).elim nl fun e => ne_of_none hb hDl e⟩, fun _ _ h => h⟩
  refine ⟨⟨M'.len, M'.inj, fun n m a e1 e2 => ?_, fun n m a e1 e2 f => ?_, fun a f => ?_⟩, S', fun a => Iff.rfl, fun a o f h => upd_grow hDl a o h, upd_same, rfl, fun a o h => ⟨o, upd_grow hDl a o h⟩, fun _ _ h e => (past h e).elim⟩
  · exact Holds.kp S' (M.holds n m a e1 e2) fun o e => upd_grow hDl _ _ e
  · rcases f with f | f
    · exact M.nF n m a e1 e2 f
    · exact nDl (.inr ⟨n, m, e1, e2⟩) f
  · rcases f with f | rfl
    · obtain ⟨o, ho⟩ := M.fr a f
      exact ⟨o, upd_grow hDl a o ho⟩
    · exact ⟨_, upd_same⟩
theorem Acc.step (A : Acc K μ1 H1 w1 Dl μ' H' w' acc xs) (S : Stp μ' H' w' μ2 H2 w2) (M2 : MOk K μ2 H2 w2) : Acc K μ1 H1 w1 Dl μ2 H2 w2 acc xs :=
  have fDl : w'.F Dl := (A.F Dl).mpr (.inr rfl)
  ⟨M2, A.kp.trans S.kp, fun a => by rw [S.sF]; exact A.F a, fun a o f h => S.frm a o ((A.F a).mpr (.inl f)) (A.frm a o f h), S.frm Dl _ fDl A.D, Reps.mono S.keep _ _ A.R, fun a o h => by
    obtain ⟨o1, h1⟩ := A.there a o h
    exact S.there a o1 h1, fun n a hn e => by
    by_cases hl : n < w'.ι.length
    · have e1 : w'.ι[n]? = some w'.ι[n] := List.getElem?_eq_getElem hl
      have e2 := S.num n _ e1
      rw [e] at e2
      exact A.new n a hn (by rw [e1]; exact e2.symm)
    · exact none_of A.there (S.new n a (by omega) e)⟩
theorem Acc.app (A : Acc K μ1 H1 w1 Dl μ' H' w' acc xs) (hDl : H1 Dl = none) {d : DL.D} {u : V} (r : Rep K (Live μ' w') H' d u) : Acc K μ1 H1 w1 Dl μ' (upd H' Dl (.lst (xs ++ [u]))) w' (acc ++ [d]) (xs ++ [u]) := by
  have fDl : w'.F Dl := (A.F Dl).mpr (.inr rfl)
  have kpU : Kp μ' H' w' μ' (upd H' Dl (.lst (xs ++ [u]))) w' := ⟨fun a o h nl => ⟨by rw [upd_ne (fun e => nl (by rw [e]; exact .inl fDl))]; exact h, nl⟩, fun _ _ h => h⟩
  refine ⟨⟨A.M.len, A.M.inj, fun n mm a e1 e2 => ?_, A.M.nF, fun a f => ?_⟩, A.kp.trans kpU, A.F, fun a o f h => ?_, upd_same, Reps.append (Reps.mono kpU.keep _ _ A.R) (Reps.one (Rep.mono kpU.keep _ _ r)), fun a o h => ?_, A.new⟩
  · have h := A.M.holds n mm a e1 e2
    have na : a ≠ Dl := fun e => A.M.nF n mm a e1 e2 (e ▸ fDl)
    exact Holds.kp kpU h fun o e => by rw [upd_ne na]; exact e
  · by_cases ea : a = Dl
    · subst ea; exact ⟨_, upd_same⟩
    · obtain ⟨o, ho⟩ := A.M.fr a f
      exact ⟨o, by rw [upd_ne ea]; exact ho⟩
  · have na : a ≠ Dl := ne_of_none h hDl
    rw [upd_ne na]
    exact A.frm a o f h
  · by_cases ea : a = Dl
    · subst ea; exact ⟨_, upd_same⟩
    · obtain ⟨o', ho⟩ := A.there a o h
      exact ⟨o', by rw [upd_ne ea]; exact ho⟩
theorem Acc.fin {μ : Mem} {H : Hp} {w : IA} {Q : XV → Mem → Prop} (A : Acc K μ1 H1 w1 Dl μ' H' w' acc xs) (hDl : H1 Dl = none) (M1 : MOk K μ1 H1 w1) (S1 : Stp μ H w μ1 H1 w1) (q : Q (.d (.lst acc)) μ') : lift K Q μ H w (.ref Dl) H' := by
  have sub : ∀ {a : Addr}, Live μ' ⟨w'.ι, w1.F⟩ a → Live μ' w' a := fun l => by
    rcases l with f | c
    · exact .inl ((A.F _).mpr (.inl f))
    · exact .inr c
  refine ⟨.d (.lst _), μ', ⟨w'.ι, w1.F⟩, ⟨Dl, xs, rfl, fun l => ?_, A.D, Reps.mono (fun a o h nl => ⟨h, fun q => nl (sub q)⟩) _ _ A.R⟩, ?_, S1.trans ⟨fun a o h nl => ⟨(A.kp.keep a o h nl).1, fun q => (A.kp.keep a o h nl).2 (sub q)⟩, A.kp.num, rfl, A.frm, A.there, A.new⟩, q⟩
  · rcases l with f | ⟨n, m, e1, e2⟩
    · obtain ⟨o, ho⟩ := M1.fr Dl f
      rw [hDl] at ho
      cases ho
    · exact A.M.nF n m Dl e1 e2 ((A.F Dl).mpr (.inr rfl))
  · refine ⟨A.M.len, A.M.inj, fun n m a e1 e2 => ?_, fun n m a e1 e2 f => A.M.nF n m a e1 e2 ((A.F a).mpr (.inl f)), fun a f => A.M.fr a ((A.F a).mpr (.inl f))⟩
    have h := A.M.holds n m a e1 e2
    have kpS : Kp μ' H' w' μ' H' ⟨w'.ι, w1.F⟩ := ⟨fun a o h nl => ⟨h, fun q => nl (sub q)⟩, fun _ _ h => h⟩
    exact Holds.kp kpS h fun o e => e
/-- .. as a cell -/
theorem Acc.finC {acc : List DL.D} {xs : List V} {μ : Mem} {H : Hp} {w : IA} {Q : XV → Mem → Prop} (A : Acc K μ1 H1 w1 Dl μ' H' w' acc xs) (hDl : H1 Dl = none) (M1 : MOk K μ1 H1 w1) (S1 : Stp μ H w μ1 H1 w1) (q : Q (.l μ'.length) (μ' ++ [some (.lst (acc.map XV.d))])) : lift K Q μ H w (.ref Dl) H' := by
  have fDl : w'.F Dl := (A.F Dl).mpr (.inr rfl)
  let w2 : IA := ⟨w'.ι ++ [Dl], w1.F⟩
  have hl := A.M.len
  have last : w2.ι[μ'.length]? = some Dl := by
    show (w'.ι ++ [Dl])[μ'.length]? = some Dl
    rw [← hl]; exact List.getElem?_concat_length
  have gt : ∀ {j : Nat} {c : Addr}, w2.ι[j]? = some c → (j < μ'.length ∧ w'.ι[j]? = some c) ∨ (j = μ'.length ∧ c = Dl) := fun {j c} e => by
    have e : (w'.ι ++ [Dl])[j]? = some c := e
    by_cases hj : j < μ'.length
    · rw [List.getElem?_append_left (by omega)] at e
      exact .inl ⟨hj, e⟩
    · rw [List.getElem?_append_right (by omega)] at e
      have h1 := (List.getElem?_eq_some_iff.mp e).1
      simp only [List.length_singleton] at h1
      exact .inr ⟨by omega, List.mem_singleton.mp (List.mem_of_getElem? e)⟩
  have mem : ∀ {j : Nat} {mm : MO} {c : Addr}, (μ' ++ [some (.lst (acc.map XV.d))])[j]? = some (some mm) → w2.ι[j]? = some c → (μ'[j]? = some (some mm) ∧ w'.ι[j]? = some c) ∨ (j = μ'.length ∧ mm = .lst (acc.map XV.d) ∧ c = Dl) := fun {j mm c} e1 e2 => by
    rcases gt e2 with ⟨hj, e⟩ | ⟨hj, e⟩
    · rw [List.getElem?_append_left hj] at e1
      exact .inl ⟨e1, e⟩
    · subst hj
      rw [List.getElem?_concat_length] at e1
      cases e1
      exact .inr ⟨rfl, rfl, e⟩
  have nF : ∀ {j : Nat} {mm : MO}, μ'[j]? = some (some mm) → w'.ι[j]? = some Dl → False := fun {j mm} e1 e2 => A.M.nF j mm Dl e1 e2 fDl
  have sub : ∀ {a : Addr}, Live (μ' ++ [some (.lst (acc.map XV.d))]) w2 a → Live μ' w' a := fun l => by
    rcases l with f | ⟨j, mm, e1, e2⟩
    · exact .inl ((A.F _).mpr (.inl f))
    · rcases mem e1 e2 with ⟨q1, q2⟩ | ⟨_, _, q2⟩
      · exact .inr ⟨j, mm, q1, q2⟩
      · rw [q2]; exact .inl fDl
  have num : ∀ (n : Nat) a, w'.ι[n]? = some a → w2.ι[n]? = some a := fun n a e => by
    show (w'.ι ++ [Dl])[n]? = some a
    rw [List.getElem?_append_left (List.getElem?_eq_some_iff.mp e).1]; exact e
  have kpS : Kp μ' H' w' (μ' ++ [some (.lst (acc.map XV.d))]) H' w2 := ⟨fun a o h nl => ⟨h, fun q => nl (sub q)⟩, num⟩
  refine ⟨.l μ'.length, _, w2, ⟨Dl, last, rfl⟩, ⟨?_, fun i j mi mj a e1 e2 e3 e4 => ?_, fun n m a e1 e2 => ?_, fun n m a e1 e2 f => ?_, fun a f => A.M.fr a ((A.F a).mpr (.inl f))⟩, S1.trans ⟨fun a o h nl => ⟨(A.kp.keep a o h nl).1, fun q => (A.kp.keep a o h nl).2 (sub q)⟩, fun n a e => num n a (A.kp.num n a e), rfl, A.frm, A.there, fun n a hn e => ?_⟩, q⟩
  · show (w'.ι ++ [Dl]).length = _
    rw [List.length_append, List.length_append, hl]; rfl
  · rcases mem e1 e3 with ⟨a1, a2⟩ | ⟨a1, a2, a3⟩ <;> rcases mem e2 e4 with ⟨b1, b2⟩ | ⟨b1, b2, b3⟩
    · exact A.M.inj i j mi mj a a1 b1 a2 b2
    · subst b3; exact (nF a1 a2).elim
    · subst a3; exact (nF b1 b2).elim
    · omega
  · rcases mem e1 e2 with ⟨a1, a2⟩ | ⟨a1, a2, a3⟩
    · exact Holds.kp kpS (A.M.holds n m a a1 a2) fun o e => e
    · subst a2 a3
      refine ⟨xs, A.D, ?_⟩
      have : ∀ {ds : List DL.D} {vs : List V}, Reps K (Live μ' w') H' ds vs → RepXs K (μ' ++ [some (.lst (acc.map XV.d))]) H' w2 (ds.map XV.d) vs := fun {ds} => by
        induction ds with
        | nil => intro vs h; rw [show vs = [] from h]; exact .nil
        | cons d ds ih =>
          intro vs h
          obtain ⟨x, r, rfl, h1, h2⟩ := h
          exact .cons (Rep.mono (fun a o h nl => ⟨h, fun q => nl (sub q)⟩) _ _ h1) (ih h2)
      exact this A.R
  · rcases mem e1 e2 with ⟨a1, a2⟩ | ⟨a1, a2, a3⟩
    · exact A.M.nF n m a a1 a2 ((A.F a).mpr (.inl f))
    · subst a3
      obtain ⟨o, ho⟩ := M1.fr _ f
      rw [hDl] at ho
      cases ho
  · rcases gt e with ⟨hj, e⟩ | ⟨hj, e⟩
    · exact A.new n a hn e
    · rw [e]; exact hDl
end
section
variable {C : SC} {E : EPost} {ρ : Env} {μ : Mem} {Q : XV → Mem → Prop} {D : DEnds} {tg iter c : Expr} {body : List Stmt} {pos : Pos} {X : Cx} {σ : L2.St} {H : Hp} {w : IA}
/-- what a turn of a comprehension asks -/
def LcT (C : SC) (scope : Scope) (t : Tg) (ifs : List Expr) (elt : Expr) (x : XV) (ρ : Env) (μ : Mem) (Py : DL.D → Mem → Prop) (Pn : Mem → Prop) : Prop :=
  ∃ ρ', t.put x ρ ρ' ∧ WIf (C.blk scope) ifs ρ' μ fun k μ2 => (k = true → WE (C.blk scope) elt ρ' μ2 noE fun y μ3 => ∃ d, y = .d d ∧ Py d μ3) ∧ (k = false → Pn μ2)
/-- the reading of a comprehension -/
theorem lc_read {elt : Expr} {ifs : List Expr} {scope : Scope} {own : List (Str × Nat)} {t : Tg} {wi : TI} {Qv : VK} (A : At C X E ρ μ σ H w) (hsl : ∀ j ∈ t.slots, j ∈ own.map (·.2))
    (hw : ∀ P : It → Hp → Prop, (∀ J H1 items G μ1 w1, At C X E ρ μ1 σ H1 w1 → Stp μ H w μ1 H1 w1 → DIt C.K J items G μ1 H1 w1 → G μ1 → (items.length ≤ sizeLine ∧ ∃ P : Nat → List DL.D → Mem → Prop, P 0 [] μ1 ∧ (∀ i acc μ', i ≤ items.length → P i acc μ' → G μ') ∧
      (∀ (i : Nat) x acc μ', items[i]? = some x → P i acc μ' → LcT C scope t ifs elt x (wipeE ρ (own.map (·.2))) μ' (fun d μ3 => P (i + 1) (acc ++ [d]) μ3) (P (i + 1) acc)) ∧
      (∀ acc μ', P items.length acc μ' → Q (.d (.lst acc)) μ')) → P J H1) → wi σ H P) (hq : ∀ {acc xs μ1 H1 w1 Dl μ' H' w'}, H1 Dl = none → MOk C.K μ1 H1 w1 → Stp μ H w μ1 H1 w1 → Acc C.K μ1 H1 w1 Dl μ' H' w' acc xs → Q (.d (.lst acc)) μ' → Qv (.ref Dl) H') :
    tLc wi (t.g X.K) (fun σ' H' R => ∀ s0 H0 A0 cl fp, tIfs (X.blk s0 H0 scope (compEnvC scope cl A0 X.env) fp) ifs σ' H' R) (fun σ' H' R => ∀ s0 H0 A0 cl fp, tE (X.blk s0 H0 scope (compEnvC scope cl A0 X.env) fp) elt σ' H' R) (own.map (·.2)) σ H Qv := by
  refine hw _ fun J H1 items G μ1 w1 A1 S1 dit g0 ⟨hz, P, p0, pG, pS, pD⟩ Dl hDl => ?_
  generalize hvs : own.map (·.2) = vs at *
  let Pv : Nat → Hp → Prop := fun i H' => ∃ acc xs μ' w', Acc C.K μ1 H1 w1 Dl μ' H' w' acc xs ∧ acc.length ≤ i ∧ P i acc μ'
  refine ⟨fun i m H' => m = items.length - i ∧ i ≤ items.length ∧ Pv i H', ⟨items.length, by simp, Nat.zero_le _, [], [], μ1, _, Acc.start A1.M hDl, Nat.le_refl _, p0⟩, ?_⟩
  rintro i m H' ⟨rfl, hil, acc, xs, μ', w', B, hacc, p'⟩
  obtain ⟨dgo, dstop⟩ := dit μ' H' w' B.kp B.M (pG i acc μ' hil p')
  by_cases hlt : i < items.length
  · obtain ⟨x, hx⟩ : ∃ x, items[i]? = some x := ⟨items[i], List.getElem?_eq_getElem hlt⟩
    obtain ⟨go, yl⟩ := dgo i x hx
    refine .inr ⟨go, Pv (i + 1), fun H2 q => ⟨items.length - (i + 1), by omega, rfl, hlt, q⟩, fun v H2 y => ?_⟩
    obtain ⟨gr, rx⟩ := yl v H2 y
    have B2 : Acc C.K μ1 H1 w1 Dl μ' H2 w' acc xs := B.step (Stp.grow gr) (B.M.grow gr)
    obtain ⟨ρ', hput, hif⟩ := pS i x acc μ' hx p'
    have Rw : ROk C.K μ' H2 w' (wipeE ρ vs) (wipe σ vs) := (A1.R.kp B2.kp).wipe vs
    rw [A.has.K]
    refine Tg.go2 hput rx Rw fun σ3 R3 l3 e3 => ?_
    have wEq : wipe σ3 vs = wipe σ vs := by
      refine (wipe_eq (σ' := wipe σ vs) l3 fun k hk => e3 k fun hm => hk (hsl k hm)).trans (wipe_eq (wipe_length _ _) fun k hk => wipe_at hk)
    refine ⟨wEq, fun s0 H0 A0 cl fp => ?_⟩
    have AB : ∀ {s0 H0 A0 cl fp}, At (C.blk scope) (X.blk s0 H0 scope (compEnvC scope cl A0 X.env) fp) noE ρ' μ' σ3 H2 w' := fun {s0 H0 A0 cl fp} => ⟨blk_has A.has, B2.M, R3, takes_no⟩
    have fin : ∀ {k : Bool} {H3 : Hp} {μ3 : Mem} {w3 : IA}, MOk C.K μ3 H3 w3 → Stp μ' H2 w' μ3 H3 w3 → ((k = true → WE (C.blk scope) elt ρ' μ3 noE fun y μ3 => ∃ d, y = .d d ∧ P (i + 1) (acc ++ [d]) μ3) ∧ (k = false → P (i + 1) acc μ3)) →
        if k = true then (∀ s0 H0 A0 cl fp, tE (X.blk s0 H0 scope (compEnvC scope cl A0 X.env) fp) elt σ3 H3 fun y H4 => ∃ acc, H4 Dl = some (.lst acc) ∧ acc.length < sizeLine ∧ Pv (i + 1) (upd H4 Dl (.lst (acc ++ [y])))) else Pv (i + 1) H3 := by
      intro k H3 μ3 w3 M3 S3 q
      have B3 := B2.step S3 M3
      cases k with
      | true =>
        refine iteT fun s0 H0 A0 cl fp => ?_
        have A3 : At (C.blk scope) (X.blk s0 H0 scope (compEnvC scope cl A0 X.env) fp) noE ρ' μ3 σ3 H3 w3 := AB.step S3 M3
        refine (q.1 rfl).go A3 fun u H4 z μ4 w4 r4 A4 S4 ⟨d, ez, pd⟩ => ?_
        subst ez
        have B4 := B3.step S4 A4.M
        exact ⟨xs, B4.D, by rw [B4.R.len]; omega, acc ++ [d], xs ++ [u], μ4, w4, B4.app hDl r4, by rw [List.length_append, List.length_singleton]; omega, pd⟩
      | false => exact iteF ⟨acc, xs, μ3, w3, B3, by omega, q.2 rfl⟩
    match ifs, hif with
    | [], hif => exact fin B2.M Stp.refl hif
    | [c], hif => exact WT.go hif AB fun k H3 μ3 w3 A3 S3 q => fin A3.M S3 q
    | _ :: _ :: _, hif => exact hif.elim
  · have e : i = items.length := by omega
    subst e
    exact .inl ⟨dstop, hq hDl A1.M S1 B (pD acc μ' p')⟩
/-- what a comprehension asks of its walk -/
def LcI (C : SC) (scope : Scope) (t : Tg) (ifs : List Expr) (elt : Expr) (vs : List Nat) (ρ : Env) (Q : XV → Mem → Prop) : List XV → (Mem → Prop) → Mem → Prop := fun items G μ1 =>
  items.length ≤ sizeLine ∧ ∃ P : Nat → List DL.D → Mem → Prop, P 0 [] μ1 ∧ (∀ i acc μ', i ≤ items.length → P i acc μ' → G μ') ∧
      (∀ (i : Nat) x acc μ', items[i]? = some x → P i acc μ' → LcT C scope t ifs elt x (wipeE ρ vs) μ' (fun d μ3 => P (i + 1) (acc ++ [d]) μ3) (P (i + 1) acc)) ∧
      (∀ acc μ', P items.length acc μ' → Q (.d (.lst acc)) μ')
theorem we_lc [Calm C] {elt : Expr} {ifs : List Expr} {scope : Scope} {own : List (Str × Nat)} {t : Tg} (ht : TgOk (C.blk scope) tg t) (nd : C.N.Nodup) (ok : BlkOk C.N C.sc scope own) (hsl : ∀ j ∈ t.slots, j ∈ own.map (·.2))
    (h : WI C tg iter ρ μ E (LcI C scope t ifs elt (own.map (·.2)) ρ Q)) (hs : ∀ env x, foldedSetIterable iter env x = pure x := by intro _ _; rfl) : WE C (.ListComp elt [⟨tg, iter, ifs, 0⟩] scope pos) ρ μ E Q := fun X σ H w A => by
  obtain ⟨wi, hi, hw⟩ := h X σ H w A
  exact tE_of (pe_lc (own := own) (A.has.calm Calm.h) (by rw [A.has.N]; exact nd) hi (by rw [A.has.N, A.has.sc]; exact ok) (fun s0 H0 A0 cl fp => ht.pg (blk_has A.has)) (fun s0 H0 A0 cl fp => ⟨fun pins s σ' H' R I h => pts_tIfs.run pins s σ' H' R I (h s0 H0 A0 cl fp)⟩)
    (fun s0 H0 A0 cl fp => ⟨fun pins s σ' H' R I h => h s0 H0 A0 cl fp pins s I⟩) (hs _)) (lc_read A hsl hw fun hDl M1 S1 B q => B.fin hDl M1 S1 q)
/-- name = [..] on one line -/
theorem w1_setLc [Calm C] {elt : Expr} {ifs : List Expr} {scope : Scope} {own : List (Str × Nat)} {t : Tg} {i : Nat} {y : Str} {py spos : Pos} (n : C.Nm i y) (hyl : C.sc.names.lookup y = some .local) (ht : TgOk (C.blk scope) tg t) (ok : BlkOk C.N C.sc scope own) (hsl : ∀ j ∈ t.slots, j ∈ own.map (·.2))
    (h : WI C tg iter ρ μ E (LcI C scope t ifs elt (own.map (·.2)) ρ fun z μ' => D.nx (ρ.set i (some z)) μ')) (hk : C.sc.kind = .function) (hl : (py.line == pos.line) = true) (ha : (scope.names.any fun (n, k) => n == y && (k == .local || k == .cell)) = false)
    (hs : ∀ env x, foldedSetIterable iter env x = pure x := by intro _ _; rfl) : WS1 C (.Assign [.Name y py] (.ListComp elt [⟨tg, iter, ifs, 0⟩] scope pos) spos) ρ μ E D := fun X σ H w A => by
  obtain ⟨wi, hi, hw⟩ := h X σ H w A
  refine tS1_of (ps_setLc (i := i) (own := own) (g := t.g X.K) (tt := fun σ' H' R => ∀ s0 H0 A0 cl fp, tIfs (X.blk s0 H0 scope (compEnvC scope cl A0 X.env) fp) ifs σ' H' R) (te := fun σ' H' R => ∀ s0 H0 A0 cl fp, tE (X.blk s0 H0 scope (compEnvC scope cl A0 X.env) fp) elt σ' H' R) (A.has.calm Calm.h) (by rw [A.has.N]; exact n.nd) (by rw [A.has.N]; exact n.at_) (by rw [A.has.sc]; exact hyl) (sw_true (by rw [A.has.sc]; exact hk) (by rw [A.has.sc]; exact hyl) hl ha) hi (by rw [A.has.N, A.has.sc]; exact ok) (fun s0 H0 A0 cl fp => ht.pg (blk_has A.has)) (fun s0 H0 A0 cl fp => ⟨fun pins s σ' H' R I h => pts_tIfs.run pins s σ' H' R I (h s0 H0 A0 cl fp)⟩)
    (fun s0 H0 A0 cl fp => ⟨fun pins s σ' H' R I h => h s0 H0 A0 cl fp pins s I⟩) (hs _)) ?_
  exact lc_read (Q := fun z μ' => D.nx (ρ.set i (some z)) μ') (Qv := fun v H' => gName i v σ H' (liftD C.K D μ H w).nx) A hsl hw fun hDl M1 S1 B q => by
    obtain ⟨z, μ', w', r, M, S, q⟩ := B.fin (Q := fun z μ' => D.nx (ρ.set i (some z)) μ') hDl M1 S1 q
    exact ⟨_, μ', w', (A.R.stp S).put r i, M, S, q⟩
end
end DL
set_option maxRecDepth 100000
set_option maxHeartbeats 2000000
namespace DL
open PySem L2 PySem.Spec PyProof.Rows
/-! ### what a def does: its contract -/
inductive Out where
  | ret (x : XV) (μ : Mem)
  | exc (C : Addr) (fl : List (Str × D)) (μ : Mem)
def Out.mem : Out → Mem
  | .ret _ μ => μ
  | .exc _ _ μ => μ
/-- for each case a: the arguments, the cells, what must hold, what comes -/
structure Con where
  α : Type
  args : α → List XV
  mem : α → Mem
  pre : α → Prop
  out : α → Out → Prop
structure Con.Wf (c : Con) : Prop where
  args : ∀ a, c.pre a → ∀ x ∈ c.args a, x.below (c.mem a).length
  mem : ∀ a, c.pre a → ∀ m, some m ∈ c.mem a → m.below (c.mem a).length
  out : ∀ a o, c.pre a → c.out a o → (c.mem a).length ≤ o.mem.length
def toSp (K : PySem.W.Frag) (c : Con) : Sp := fun vs H Q E => ∃ (a : c.α) (w : IA), c.pre a ∧ RepXs K (c.mem a) H w (c.args a) vs ∧ MOk K (c.mem a) H w ∧
  (∀ x μ', c.out a (.ret x μ') → ∀ v H' w', RepX K μ' H' w' x v → MOk K μ' H' w' → Stp (c.mem a) H w μ' H' w' → Q v H') ∧
  (∀ Cl fl μ', c.out a (.exc Cl fl μ') → ∀ d H' w', XRep K μ' H' w' d fl → MOk K μ' H' w' → Stp (c.mem a) H w μ' H' w' → E (.ref Cl) d H')
section
variable {K : PySem.W.Frag} {μa μr μ' : Mem} {H H' : Hp} {w w1 : IA}
/-- the cells behind the first ones are others' while a def runs -/
def IA.part (w : IA) (μa μr : Mem) : IA := ⟨w.ι.take μa.length, fun b => w.F b ∨ ∃ (k : Nat) (m : MO), μa.length ≤ k ∧ (μa ++ μr)[k]? = some (some m) ∧ w.ι[k]? = some b⟩
def IA.whole (w1 w : IA) (n : Nat) : IA := ⟨w1.ι ++ w.ι.drop n, w.F⟩
theorem live_part (b : Addr) : Live μa (w.part μa μr) b ↔ Live (μa ++ μr) w b := by
  constructor
  · rintro ((f | ⟨k, m, _, e1, e2⟩) | ⟨k, m, e1, e2⟩)
    · exact .inl f
    · exact .inr ⟨k, m, e1, e2⟩
    · have hk := (List.getElem?_eq_some_iff.mp e1).1
      have e2 : (w.ι.take μa.length)[k]? = some b := e2
      rw [List.getElem?_take_of_lt hk] at e2
      exact .inr ⟨k, m, by rw [List.getElem?_append_left hk]; exact e1, e2⟩
  · rintro (f | ⟨k, m, e1, e2⟩)
    · exact .inl (.inl f)
    · by_cases hk : k < μa.length
      · rw [List.getElem?_append_left hk] at e1
        refine .inr ⟨k, m, e1, ?_⟩
        show (w.ι.take μa.length)[k]? = some b
        rw [List.getElem?_take_of_lt hk]
        exact e2
      · exact .inl (.inr ⟨k, m, by omega, e1, e2⟩)
theorem repX_part {x : XV} {v : V} (hb : x.below μa.length) (h : RepX K (μa ++ μr) H w x v) : RepX K μa H (w.part μa μr) x v := by
  cases x with
  | d x => exact Rep.mono (fun a o e nl => ⟨e, fun q => nl ((live_part a).mp q)⟩) x v h
  | l k =>
    obtain ⟨a, e, r⟩ := h
    refine ⟨a, ?_, r⟩
    show (w.ι.take μa.length)[k]? = some a
    rw [List.getElem?_take_of_lt hb]
    exact e
theorem repXs_part : ∀ {xs : List XV} {vs : List V}, (∀ x ∈ xs, x.below μa.length) → RepXs K (μa ++ μr) H w xs vs → RepXs K μa H (w.part μa μr) xs vs
  | _, _, _, .nil => .nil
  | _, _, hb, .cons r t => .cons (repX_part (hb _ List.mem_cons_self) r) (repXs_part (fun x hx => hb x (List.mem_cons_of_mem _ hx)) t)
theorem mok_part (M : MOk K (μa ++ μr) H w) (hb : ∀ m, some m ∈ μa → m.below μa.length) : MOk K μa H (w.part μa μr) := by
  have up : ∀ {k : Nat} {m : MO} {b : Addr}, μa[k]? = some (some m) → (w.part μa μr).ι[k]? = some b → k < μa.length ∧ (μa ++ μr)[k]? = some (some m) ∧ w.ι[k]? = some b := fun {k m b} e1 e2 => by
    have hk := (List.getElem?_eq_some_iff.mp e1).1
    have e2 : (w.ι.take μa.length)[k]? = some b := e2
    rw [List.getElem?_take_of_lt hk] at e2
    exact ⟨hk, by rw [List.getElem?_append_left hk]; exact e1, e2⟩
  have hl := M.len
  rw [List.length_append] at hl
  refine ⟨by show (w.ι.take μa.length).length = _; rw [List.length_take]; omega, fun i j mi mj a e1 e2 e3 e4 => ?_, fun n m a e1 e2 => ?_, fun n m a e1 e2 f => ?_, fun a f => ?_⟩
  · obtain ⟨_, a1, a2⟩ := up e1 e3
    obtain ⟨_, b1, b2⟩ := up e2 e4
    exact M.inj i j mi mj a a1 b1 a2 b2
  · obtain ⟨_, a1, a2⟩ := up e1 e2
    have h := M.holds n m a a1 a2
    have hm := hb m (List.mem_of_getElem? e1)
    cases m with
    | lst xs => obtain ⟨us, e, r⟩ := h; exact ⟨us, e, repXs_part hm r⟩
    | ins C fs xs => obtain ⟨dx, gs, e, f, r⟩ := h; exact ⟨dx, gs, e, f, repXs_part hm r⟩
    | dct ks xs => obtain ⟨kvs, e, f, r⟩ := h; exact ⟨kvs, e, f, repXs_part hm r⟩
    | dcn hs ks xs => obtain ⟨ys, e, f, r1, r2⟩ := h; exact ⟨ys, e, f, Reps.mono (fun a o q nl => ⟨q, fun z => nl ((live_part a).mp z)⟩) ks _ r1, repXs_part hm r2⟩
  · obtain ⟨hk, a1, a2⟩ := up e1 e2
    rcases f with f | ⟨k, m', hk', e3, e4⟩
    · exact M.nF n m a a1 a2 f
    · have := M.inj n k m m' a a1 e3 a2 e4
      omega
  · rcases f with f | ⟨k, m', hk', e3, e4⟩
    · exact M.fr a f
    · exact (M.holds k m' a e3 e4).there
theorem live_whole (hl : w1.ι.length = μ'.length) (hw : w.ι.length = (μa ++ μr).length) (sF : w1.F = (w.part μa μr).F) (b : Addr) : Live (μ' ++ μr) (w1.whole w μa.length) b ↔ Live μ' w1 b := by
  constructor
  · rintro (f | ⟨k, m, e1, e2⟩)
    · refine .inl ?_
      rw [sF]
      exact .inl f
    · have e2 : (w1.ι ++ w.ι.drop μa.length)[k]? = some b := e2
      by_cases hk : k < μ'.length
      · rw [List.getElem?_append_left hk] at e1
        rw [List.getElem?_append_left (by omega)] at e2
        exact .inr ⟨k, m, e1, e2⟩
      · rw [List.getElem?_append_right (by omega)] at e1 e2
        refine .inl ?_
        rw [sF]
        refine .inr ⟨μa.length + (k - μ'.length), m, by omega, ?_, ?_⟩
        · rw [List.getElem?_append_right (by omega)]
          rw [show μa.length + (k - μ'.length) - μa.length = k - μ'.length by omega]
          exact e1
        · rw [List.getElem?_drop] at e2
          rw [← hl]
          exact e2
  · rintro (f | ⟨k, m, e1, e2⟩)
    · rw [sF] at f
      rcases f with f | ⟨k, m, hk, e1, e2⟩
      · exact .inl f
      · refine .inr ⟨μ'.length + (k - μa.length), m, ?_, ?_⟩
        · rw [List.getElem?_append_right (by omega)] at e1
          rw [List.getElem?_append_right (by omega)]
          rw [show μ'.length + (k - μa.length) - μ'.length = k - μa.length by omega]
          exact e1
        · show (w1.ι ++ w.ι.drop μa.length)[μ'.length + (k - μa.length)]? = some b
          rw [List.getElem?_append_right (by omega), List.getElem?_drop, hl]
          rw [show μa.length + (μ'.length + (k - μa.length) - μ'.length) = k by omega]
          exact e2
    · refine .inr ⟨k, m, ?_, ?_⟩
      · rw [List.getElem?_append_left (List.getElem?_eq_some_iff.mp e1).1]; exact e1
      · show (w1.ι ++ w.ι.drop μa.length)[k]? = some b
        rw [List.getElem?_append_left (List.getElem?_eq_some_iff.mp e2).1]; exact e2
/-- behind a def's run: all cells again -/
theorem whole_ok (M : MOk K (μa ++ μr) H w) (M1 : MOk K μ' H' w1) (S : Stp μa H (w.part μa μr) μ' H' w1) (hc : μ'.length = μa.length ∨ μr = []) :
    MOk K (μ' ++ μr) H' (w1.whole w μa.length) ∧ Stp (μa ++ μr) H w (μ' ++ μr) H' (w1.whole w μa.length) ∧ ∀ x v, RepX K μ' H' w1 x v → RepX K (μ' ++ μr) H' (w1.whole w μa.length) x v := by
  have hl := M1.len
  have hw := M.len
  have LW := live_whole hl hw S.sF
  have hwl : w.ι.length = μa.length + μr.length := by rw [hw, List.length_append]
  have num : ∀ (k : Nat) b, w.ι[k]? = some b → (w1.whole w μa.length).ι[k]? = some b := fun k b e => by
    show (w1.ι ++ w.ι.drop μa.length)[k]? = some b
    by_cases hk : k < μa.length
    · have e0 : (w.part μa μr).ι[k]? = some b := by
        show (w.ι.take μa.length)[k]? = some b
        rw [List.getElem?_take_of_lt hk]
        exact e
      have e1 := S.num k b e0
      rw [List.getElem?_append_left (List.getElem?_eq_some_iff.mp e1).1]
      exact e1
    · have hk2 : k < w.ι.length := (List.getElem?_eq_some_iff.mp e).1
      have hlen : w1.ι.length = μa.length := by
        rcases hc with h | h
        · omega
        · subst h; simp at hwl; omega
      rw [List.getElem?_append_right (by omega), List.getElem?_drop, hlen, show μa.length + (k - μa.length) = k by omega]
      exact e
  have kp : Kp (μa ++ μr) H w (μ' ++ μr) H' (w1.whole w μa.length) := ⟨fun a o h nl => by
    obtain ⟨h1, h2⟩ := S.keep a o h (fun q => nl ((live_part a).mp q))
    exact ⟨h1, fun q => h2 ((LW a).mp q)⟩, num⟩
  have lx : ∀ x v, RepX K μ' H' w1 x v → RepX K (μ' ++ μr) H' (w1.whole w μa.length) x v := fun x v h => by
    cases x with
    | d x => exact Rep.mono (fun a o e nl => ⟨e, fun q => nl ((LW a).mp q)⟩) x v h
    | l k =>
      obtain ⟨a, e, r⟩ := h
      refine ⟨a, ?_, r⟩
      show (w1.ι ++ w.ι.drop μa.length)[k]? = some a
      rw [List.getElem?_append_left (List.getElem?_eq_some_iff.mp e).1]
      exact e
  have split : ∀ {k : Nat} {m : MO} {b : Addr}, (μ' ++ μr)[k]? = some (some m) → (w1.whole w μa.length).ι[k]? = some b →
      (μ'[k]? = some (some m) ∧ w1.ι[k]? = some b) ∨ (μ'.length ≤ k ∧ (μa ++ μr)[μa.length + (k - μ'.length)]? = some (some m) ∧ w.ι[μa.length + (k - μ'.length)]? = some b ∧ w1.F b) := fun {k m b} e1 e2 => by
    have e2 : (w1.ι ++ w.ι.drop μa.length)[k]? = some b := e2
    by_cases hk : k < μ'.length
    · rw [List.getElem?_append_left hk] at e1
      rw [List.getElem?_append_left (by omega)] at e2
      exact .inl ⟨e1, e2⟩
    · rw [List.getElem?_append_right (by omega)] at e1 e2
      rw [List.getElem?_drop, hl] at e2
      have q1 : (μa ++ μr)[μa.length + (k - μ'.length)]? = some (some m) := by
        rw [List.getElem?_append_right (by omega), show μa.length + (k - μ'.length) - μa.length = k - μ'.length by omega]
        exact e1
      exact .inr ⟨by omega, q1, e2, by rw [S.sF]; exact .inr ⟨_, m, by omega, q1, e2⟩⟩
  refine ⟨⟨?_, fun i j mi mj a e1 e2 e3 e4 => ?_, fun n m a e1 e2 => ?_, fun n m a e1 e2 f => ?_, fun a f => ?_⟩, ⟨kp.keep, kp.num, rfl, fun a o f h => S.frm a o (.inl f) h, S.there, fun n a hn e => ?_⟩, lx⟩
  · show (w1.ι ++ w.ι.drop μa.length).length = _
    rw [List.length_append, List.length_drop, List.length_append]
    omega
  · rcases split e1 e3 with ⟨a1, a2⟩ | ⟨a0, a1, a2, a3⟩
    · rcases split e2 e4 with ⟨b1, b2⟩ | ⟨b0, b1, b2, b3⟩
      · exact M1.inj i j mi mj a a1 b1 a2 b2
      · exact (M1.nF i mi a a1 a2 b3).elim
    · rcases split e2 e4 with ⟨b1, b2⟩ | ⟨b0, b1, b2, b3⟩
      · exact (M1.nF j mj a b1 b2 a3).elim
      · have := M.inj _ _ mi mj a a1 b1 a2 b2
        omega
  · rcases split e1 e2 with ⟨a1, a2⟩ | ⟨a0, a1, a2, a3⟩
    · have h := M1.holds n m a a1 a2
      cases m with
      | lst xs => obtain ⟨us, e, r⟩ := h; exact ⟨us, e, Paired.mapP r fun x v q => lx x v q⟩
      | ins C fs xs => obtain ⟨dx, gs, e, f, r⟩ := h; exact ⟨dx, gs, e, f, Paired.mapP r fun x v q => lx x v q⟩
      | dct ks xs => obtain ⟨kvs, e, f, r⟩ := h; exact ⟨kvs, e, f, Paired.mapP r fun x v q => lx x v q⟩
      | dcn hs ks xs => obtain ⟨ys, e, f, r1, r2⟩ := h; exact ⟨ys, e, f, Reps.mono (fun a o e nl => ⟨e, fun q => nl ((LW a).mp q)⟩) ks _ r1, Paired.mapP r2 fun x v q => lx x v q⟩
    · have h := M.holds _ m a a1 a2
      have k : ∀ o, H a = some o → H' a = some o := fun o e => S.frm a o (by rw [← S.sF]; exact a3) e
      exact Holds.kp kp h k
  · rcases split e1 e2 with ⟨a1, a2⟩ | ⟨a0, a1, a2, a3⟩
    · exact M1.nF n m a a1 a2 (by rw [S.sF]; exact .inl f)
    · exact M.nF _ m a a1 a2 f
  · exact M1.fr a (by rw [S.sF]; exact .inl f)
  · have e : (w1.ι ++ w.ι.drop μa.length)[n]? = some a := e
    have lp9 : (w.part μa μr).ι.length = μa.length := by
      show (w.ι.take μa.length).length = _
      rw [List.length_take]; omega
    rcases hc with h | h
    · exact (past (by rw [List.length_append, List.length_drop]; omega) e).elim
    · subst h
      by_cases hn1 : n < w1.ι.length
      · rw [List.getElem?_append_left hn1] at e
        exact S.new n a (by rw [lp9]; simp at hwl; omega) e
      · exact (past (by rw [List.length_append, List.length_drop]; simp at hwl; omega) e).elim
theorem XRep.whole {d : Option Addr} {fl : List (Str × D)} (L : ∀ a, Live (μ' ++ μr) (w1.whole w μa.length) a ↔ Live μ' w1 a) (h : XRep K μ' H' w1 d fl) : XRep K (μ' ++ μr) H' (w1.whole w μa.length) d fl := by
  cases d with
  | none => exact h
  | some a =>
    obtain ⟨nl, gs, e, f, r⟩ := h
    exact ⟨fun q => nl ((L a).mp q), gs, e, f, Reps.mono (fun b o hb n => ⟨hb, fun q => n ((L b).mp q)⟩) _ _ r⟩
end
section
variable {K : PySem.W.Frag} {μa μb μr : Mem} {H H' : Hp} {w w1 : IA} {m : MO} {b : Addr}
def IA.more (w1 w : IA) (n : Nat) (b : Addr) : IA := ⟨w1.ι.take n ++ w.ι.drop n ++ [b], w.F⟩
/-- a cell of data -/
def MO.pure : MO → Prop
  | .lst xs => ∀ x ∈ xs, ∃ d, x = .d d
  | .dct _ xs => ∀ x ∈ xs, ∃ d, x = .d d
  | _ => False
theorem more_get (h1 : w1.ι.length = μa.length + 1) (hw : w.ι.length = μa.length + μr.length) {k : Nat} {a : Addr} (e : (w1.more w μa.length b).ι[k]? = some a) :
    (k < μa.length ∧ w1.ι[k]? = some a) ∨ (μa.length ≤ k ∧ k < μa.length + μr.length ∧ w.ι[k]? = some a) ∨ (k = μa.length + μr.length ∧ a = b) := by
  have e : (w1.ι.take μa.length ++ w.ι.drop μa.length ++ [b])[k]? = some a := e
  have l1 : (w1.ι.take μa.length).length = μa.length := by rw [List.length_take]; omega
  have l2 : (w1.ι.take μa.length ++ w.ι.drop μa.length).length = μa.length + μr.length := by rw [List.length_append, l1, List.length_drop]; omega
  by_cases h : k < μa.length + μr.length
  · rw [List.getElem?_append_left (by omega)] at e
    by_cases hk : k < μa.length
    · rw [List.getElem?_append_left (by omega), List.getElem?_take_of_lt hk] at e
      exact .inl ⟨hk, e⟩
    · rw [List.getElem?_append_right (by omega), l1, List.getElem?_drop, show μa.length + (k - μa.length) = k by omega] at e
      exact .inr (.inl ⟨by omega, h, e⟩)
  · rw [List.getElem?_append_right (by omega)] at e
    have hk := (List.getElem?_eq_some_iff.mp e).1
    simp only [List.length_singleton] at hk
    have := List.mem_of_getElem? e
    exact .inr (.inr ⟨by omega, List.mem_singleton.mp this⟩)
theorem more_of1 (h1 : w1.ι.length = μa.length + 1) {k : Nat} {a : Addr} (hk : k < μa.length) (e : w1.ι[k]? = some a) : (w1.more w μa.length b).ι[k]? = some a := by
  show (w1.ι.take μa.length ++ w.ι.drop μa.length ++ [b])[k]? = some a
  rw [List.append_assoc, List.getElem?_append_left (by rw [List.length_take]; omega), List.getElem?_take_of_lt hk]
  exact e
theorem more_of2 (h1 : w1.ι.length = μa.length + 1) {k : Nat} {a : Addr} (hk : μa.length ≤ k) (e : w.ι[k]? = some a) : (w1.more w μa.length b).ι[k]? = some a := by
  have hl := (List.getElem?_eq_some_iff.mp e).1
  show (w1.ι.take μa.length ++ w.ι.drop μa.length ++ [b])[k]? = some a
  rw [List.append_assoc, List.getElem?_append_right (by rw [List.length_take]; omega), List.getElem?_append_left (by rw [List.length_take, List.length_drop]; omega), List.length_take, List.getElem?_drop]
  rw [show μa.length + (k - min μa.length w1.ι.length) = k by omega]
  exact e
theorem more_of3 (h1 : w1.ι.length = μa.length + 1) (hw : w.ι.length = μa.length + μr.length) : (w1.more w μa.length b).ι[μa.length + μr.length]? = some b := by
  show (w1.ι.take μa.length ++ w.ι.drop μa.length ++ [b])[μa.length + μr.length]? = some b
  have l2 : (w1.ι.take μa.length ++ w.ι.drop μa.length).length = μa.length + μr.length := by rw [List.length_append, List.length_take, List.length_drop]; omega
  rw [List.getElem?_append_right (by omega), l2, Nat.sub_self]
  rfl
/-- behind a def's run: all cells again, and the new one at the end -/
theorem whole_new (M : MOk K (μa ++ μr) H w) (M1 : MOk K (μb ++ [some m]) H' w1) (S : Stp μa H (w.part μa μr) (μb ++ [some m]) H' w1) (hl : μb.length = μa.length) (hp : m.pure) (hbl : ∀ m', some m' ∈ μb → m'.below μa.length) :
    ∃ b, w1.ι[μa.length]? = some b ∧ MOk K (μb ++ μr ++ [some m]) H' (w1.more w μa.length b) ∧ Stp (μa ++ μr) H w (μb ++ μr ++ [some m]) H' (w1.more w μa.length b) := by
  have h1 : w1.ι.length = μa.length + 1 := by rw [M1.len, List.length_append, hl]; rfl
  have hw : w.ι.length = μa.length + μr.length := by rw [M.len, List.length_append]
  obtain ⟨b, eb⟩ : ∃ b, w1.ι[μa.length]? = some b := ⟨w1.ι[μa.length], List.getElem?_eq_getElem (by omega)⟩
  have em : (μb ++ [some m])[μa.length]? = some (some m) := by rw [← hl]; exact List.getElem?_concat_length
  have lp : (w.part μa μr).ι.length = μa.length := by
    show (w.ι.take μa.length).length = _
    rw [List.length_take]; omega
  have fb : H b = none := S.new _ b (by rw [lp]; exact Nat.le_refl _) eb
  have up1 : ∀ {k : Nat} {mm : MO}, k < μa.length → ((μb ++ μr ++ [some m])[k]? = some (some mm) ↔ μb[k]? = some (some mm)) := fun {k mm} hk => by
    rw [List.append_assoc, List.getElem?_append_left (by omega)]
  have up2 : ∀ {k : Nat} {mm : MO}, μa.length ≤ k → k < μa.length + μr.length → ((μb ++ μr ++ [some m])[k]? = some (some mm) ↔ (μa ++ μr)[k]? = some (some mm)) := fun {k mm} hk hk2 => by
    rw [List.append_assoc, List.getElem?_append_right (by omega), List.getElem?_append_left (by omega), List.getElem?_append_right (by omega), hl]
  have up3 : (μb ++ μr ++ [some m])[μa.length + μr.length]? = some (some m) := by
    have : (μb ++ μr).length = μa.length + μr.length := by rw [List.length_append, hl]
    rw [← this]; exact List.getElem?_concat_length
  have split : ∀ {k : Nat} {mm : MO} {a : Addr}, (μb ++ μr ++ [some m])[k]? = some (some mm) → (w1.more w μa.length b).ι[k]? = some a →
      (k < μa.length ∧ μb[k]? = some (some mm) ∧ w1.ι[k]? = some a) ∨ (μa.length ≤ k ∧ (μa ++ μr)[k]? = some (some mm) ∧ w.ι[k]? = some a ∧ w1.F a) ∨ (k = μa.length + μr.length ∧ mm = m ∧ a = b) := fun {k mm a} e1 e2 => by
    rcases more_get h1 hw e2 with ⟨hk, e⟩ | ⟨hk, hk2, e⟩ | ⟨hk, e⟩
    · exact .inl ⟨hk, (up1 hk).mp e1, e⟩
    · have q := (up2 hk hk2).mp e1
      exact .inr (.inl ⟨hk, q, e, by rw [S.sF]; exact .inr ⟨k, mm, hk, q, e⟩⟩)
    · subst hk
      rw [up3] at e1
      cases e1
      exact .inr (.inr ⟨rfl, rfl, e⟩)
  have mb : ∀ {k : Nat} {mm : MO}, μb[k]? = some (some mm) → (μb ++ [some m])[k]? = some (some mm) := fun {k mm} e => by
    rw [List.getElem?_append_left (List.getElem?_eq_some_iff.mp e).1]; exact e
  have LW : ∀ a, Live (μb ++ μr ++ [some m]) (w1.more w μa.length b) a ↔ Live (μb ++ [some m]) w1 a := fun a => by
    constructor
    · rintro (f | ⟨k, mm, e1, e2⟩)
      · exact .inl (by rw [S.sF]; exact .inl f)
      · rcases split e1 e2 with ⟨hk, q1, q2⟩ | ⟨hk, q1, q2, q3⟩ | ⟨hk, q1, q2⟩
        · exact .inr ⟨k, mm, mb q1, q2⟩
        · exact .inl q3
        · rw [q2]; exact .inr ⟨_, m, em, eb⟩
    · rintro (f | ⟨k, mm, e1, e2⟩)
      · rw [S.sF] at f
        rcases f with f | ⟨k, mm, hk, e1, e2⟩
        · exact .inl f
        · have hk2 := (List.getElem?_eq_some_iff.mp e1).1
          rw [List.length_append] at hk2
          exact .inr ⟨k, mm, (up2 hk hk2).mpr e1, more_of2 h1 hk e2⟩
      · by_cases hk : k < μa.length
        · rw [List.getElem?_append_left (by omega)] at e1
          exact .inr ⟨k, mm, (up1 hk).mpr e1, more_of1 h1 hk e2⟩
        · have hk3 := (List.getElem?_eq_some_iff.mp e1).1
          rw [List.length_append, List.length_singleton] at hk3
          obtain rfl : k = μa.length := by omega
          rw [eb] at e2
          cases e2
          exact .inr ⟨_, m, up3, more_of3 h1 hw⟩
  have num : ∀ (k : Nat) a, w.ι[k]? = some a → (w1.more w μa.length b).ι[k]? = some a := fun k a e => by
    by_cases hk : k < μa.length
    · refine more_of1 h1 hk (S.num k a ?_)
      show (w.ι.take μa.length)[k]? = some a
      rw [List.getElem?_take_of_lt hk]; exact e
    · exact more_of2 h1 (by omega) e
  have kp : Kp (μa ++ μr) H w (μb ++ μr ++ [some m]) H' (w1.more w μa.length b) := ⟨fun a o h nl => by
    obtain ⟨h1, h2⟩ := S.keep a o h (fun q => nl ((live_part a).mp q))
    exact ⟨h1, fun q => h2 ((LW a).mp q)⟩, num⟩
  have lx : ∀ x v, x.below μa.length → RepX K (μb ++ [some m]) H' w1 x v → RepX K (μb ++ μr ++ [some m]) H' (w1.more w μa.length b) x v := fun x v hb h => by
    cases x with
    | d x => exact Rep.mono (fun a o e nl => ⟨e, fun q => nl ((LW a).mp q)⟩) x v h
    | l k =>
      obtain ⟨a, e, r⟩ := h
      exact ⟨a, more_of1 h1 hb e, r⟩
  have lxs : ∀ {xs : List XV} {vs : List V}, (∀ x ∈ xs, x.below μa.length) → RepXs K (μb ++ [some m]) H' w1 xs vs → RepXs K (μb ++ μr ++ [some m]) H' (w1.more w μa.length b) xs vs := fun {xs} => by
    induction xs with
    | nil => intro vs _ h; cases h; exact .nil
    | cons x xs ih => intro vs hb h; cases h with
      | cons r t => exact .cons (lx _ _ (hb _ List.mem_cons_self) r) (ih (fun y hy => hb y (List.mem_cons_of_mem _ hy)) t)
  have hold1 : ∀ {mm : MO} {a : Addr}, mm.below μa.length → Holds K (μb ++ [some m]) H' w1 mm a → Holds K (μb ++ μr ++ [some m]) H' (w1.more w μa.length b) mm a := fun {mm a} hb h => by
    cases mm with
    | lst xs => obtain ⟨us, e, r⟩ := h; exact ⟨us, e, lxs hb r⟩
    | ins C fs xs => obtain ⟨dx, gs, e, f, r⟩ := h; exact ⟨dx, gs, e, f, lxs hb r⟩
    | dct ks xs => obtain ⟨kvs, e, f, r⟩ := h; exact ⟨kvs, e, f, lxs hb r⟩
    | dcn hs ks xs => obtain ⟨ys, e, f, r1, r2⟩ := h; exact ⟨ys, e, f, Reps.mono (fun a o e nl => ⟨e, fun q => nl ((LW a).mp q)⟩) ks _ r1, lxs hb r2⟩
  have mbel : m.below μa.length := by
    cases m with
    | lst xs => intro x hx; obtain ⟨d, rfl⟩ := hp x hx; trivial
    | dct ks xs => intro x hx; obtain ⟨d, rfl⟩ := hp x hx; trivial
    | ins C fs xs => exact hp.elim
    | dcn hs ks xs => exact hp.elim
  have nb : ∀ {k : Nat} {mm : MO}, μb[k]? = some (some mm) → w1.ι[k]? = some b → False := fun {k mm} e1 e2 => by
    have := M1.inj k μa.length mm m b (mb e1) em e2 eb
    have hk := (List.getElem?_eq_some_iff.mp e1).1
    omega
  have nr : ∀ {k : Nat} {mm : MO}, (μa ++ μr)[k]? = some (some mm) → w.ι[k]? = some b → False := fun {k mm} e1 e2 => by
    obtain ⟨o, ho⟩ := (M.holds k mm b e1 e2).there
    rw [fb] at ho
    cases ho
  refine ⟨b, eb, ⟨?_, fun i j mi mj a e1 e2 e3 e4 => ?_, fun n mm a e1 e2 => ?_, fun n mm a e1 e2 f => ?_, fun a f => M1.fr a (by rw [S.sF]; exact .inl f)⟩, ⟨kp.keep, kp.num, rfl, fun a o f h => S.frm a o (.inl f) h, S.there, fun n a hn e => ?_⟩⟩
  · show (w1.ι.take μa.length ++ w.ι.drop μa.length ++ [b]).length = _
    simp only [List.length_append, List.length_take, List.length_drop, List.length_singleton]
    omega
  · rcases split e1 e3 with ⟨a0, a1, a2⟩ | ⟨a0, a1, a2, a3⟩ | ⟨a0, a1, a2⟩
    · rcases split e2 e4 with ⟨b0, b1, b2⟩ | ⟨b0, b1, b2, b3⟩ | ⟨b0, b1, b2⟩
      · exact M1.inj i j mi mj a (mb a1) (mb b1) a2 b2
      · exact (M1.nF i mi a (mb a1) a2 b3).elim
      · subst b2; exact (nb a1 a2).elim
    · rcases split e2 e4 with ⟨b0, b1, b2⟩ | ⟨b0, b1, b2, b3⟩ | ⟨b0, b1, b2⟩
      · exact (M1.nF j mj a (mb b1) b2 a3).elim
      · exact M.inj i j mi mj a a1 b1 a2 b2
      · subst b2; exact (nr a1 a2).elim
    · rcases split e2 e4 with ⟨b0, b1, b2⟩ | ⟨b0, b1, b2, b3⟩ | ⟨b0, b1, b2⟩
      · subst a2; exact (nb b1 b2).elim
      · subst a2; exact (nr b1 b2).elim
      · omega
  · rcases split e1 e2 with ⟨a0, a1, a2⟩ | ⟨a0, a1, a2, a3⟩ | ⟨a0, a1, a2⟩
    · exact hold1 (hbl mm (List.mem_of_getElem? a1)) (M1.holds n mm a (mb a1) a2)
    · have h := M.holds n mm a a1 a2
      exact Holds.kp kp h fun o e => S.frm a o (by rw [← S.sF]; exact a3) e
    · subst a1 a2
      exact hold1 mbel (M1.holds _ _ _ em eb)
  · rcases split e1 e2 with ⟨a0, a1, a2⟩ | ⟨a0, a1, a2, a3⟩ | ⟨a0, a1, a2⟩
    · exact M1.nF n mm a (mb a1) a2 (by rw [S.sF]; exact .inl f)
    · exact M.nF n mm a a1 a2 f
    · subst a2; exact M1.nF _ m _ em eb (by rw [S.sF]; exact .inl f)
  · rcases more_get h1 hw e with ⟨hk, _⟩ | ⟨hk, hk2, _⟩ | ⟨hk, e⟩
    · omega
    · omega
    · rw [e]; exact fb
end
/-- a def of the contract c is called with these, here -/
def Calls (c : Con) (xs : List XV) (μ : Mem) (Q : XV → Mem → Prop) (E : Addr → List (Str × D) → Mem → Prop) : Prop :=
  ∃ (a : c.α) (μr : Mem), c.pre a ∧ c.args a = xs ∧ μ = c.mem a ++ μr ∧ ∀ o, c.out a o → ((o.mem.length = (c.mem a).length ∨ μr = []) ∧
    match o with
    | .ret x μ' => Q x (μ' ++ μr)
    | .exc Cl fl μ' => E Cl fl (μ' ++ μr)) ∨
    ∃ (μb : Mem) (m : MO), o = .ret (.l (c.mem a).length) (μb ++ [some m]) ∧ μb.length = (c.mem a).length ∧ m.pure ∧ (∀ m', some m' ∈ μb → m'.below (c.mem a).length) ∧ Q (.l μ.length) (μb ++ μr ++ [some m])
theorem Calls.sp {c : Con} (wf : c.Wf) {xs : List XV} {μ : Mem} {Q : XV → Mem → Prop} {E : Addr → List (Str × D) → Mem → Prop} (h : Calls c xs μ Q E) {K : PySem.W.Frag} {H : Hp} {w : IA} {vs : List V} (M : MOk K μ H w) (rs : RepXs K μ H w xs vs)
    {Qv : VK} {Ev : XK} (k1 : ∀ v H', lift K Q μ H w v H' → Qv v H') (k2 : ∀ Cl fl d H' μ' w', XRep K μ' H' w' d fl → MOk K μ' H' w' → Stp μ H w μ' H' w' → E Cl fl μ' → Ev (.ref Cl) d H') : toSp K c vs H Qv Ev := by
  obtain ⟨a, μr, hp, rfl, rfl, hq⟩ := h
  refine ⟨a, w.part (c.mem a) μr, hp, repXs_part (wf.args a hp) rs, mok_part M (wf.mem a hp), fun x μ' e v H' w1 r M1 S => ?_, fun Cl fl μ' e d H' w1 r M1 S => ?_⟩
  · rcases hq _ e with ⟨hc, q⟩ | ⟨μb, m, eo, hl, hpm, hbl, q⟩
    · obtain ⟨M2, S2, lx⟩ := whole_ok M M1 S hc
      exact k1 v H' ⟨x, μ' ++ μr, _, lx x v r, M2, S2, q⟩
    · cases eo
      obtain ⟨b, eb, M2, S2⟩ := whole_new M M1 S hl hpm hbl
      obtain ⟨b', eb', rfl⟩ := r
      rw [eb] at eb'
      cases eb'
      refine k1 _ H' ⟨.l (c.mem a ++ μr).length, _, _, ⟨b, ?_, rfl⟩, M2, S2, q⟩
      rw [List.length_append]
      exact more_of3 (by rw [M1.len, List.length_append, hl]; rfl) (by rw [M.len, List.length_append])
  · rcases hq _ e with ⟨hc, q⟩ | ⟨μb, m, eo, _⟩
    · obtain ⟨M2, S2, lx⟩ := whole_ok M M1 S hc
      exact k2 Cl fl d H' _ _ (XRep.whole (live_whole M1.len M.len S.sF) r) M2 S2 q
    · cases eo
/-- a def that keeps its promise, called where (if g) no repr is under way -/
structure FnG (P : Program) (wd : World) (K : PySem.W.Frag) (mg : Str → Option Value) (base : Heap) (g : Bool) (k : Nat) (f : Addr) (fd : FuncData) (ps : List Str) (sp : Sp) : Prop where
  len : ∀ vs H Q E, sp vs H Q E → vs.length = ps.length
  run : ∀ (A : Around) (outer : List PySem.Env) (s : Shared) (H : Hp) (args : Args) (us : List Value) (vs : List V) (Q : VK) (E : XK), (g = true → A.guards = some []) → Room k A → Env0 P wd K mg base A outer s H → BindsTo s fd args (ps.zip us) → Vals vs us → sp vs H Q E →
    codeAny (model P wd) A (.call (.ref f) args) (CR (L2.CX P wd) outer P wd H s Q E) s
theorem FnG.fnok {P : Program} {wd : World} {K : PySem.W.Frag} {mg : Str → Option Value} {base : Heap} {k : Nat} {f : Addr} {fd : FuncData} {ps : List Str} {sp : Sp} (F : FnG P wd K mg base false k f fd ps sp) : FnOk P wd K mg base (L2.CX P wd) k f fd ps sp :=
  ⟨F.len, fun A outer s H args us vs Q E => F.run A outer s H args us vs Q E fun z => nomatch z⟩
theorem Fun.okG {P : Program} {wd : World} {K : PySem.W.Frag} {mg : Str → Option Value} {base : Heap} {g : Bool} {x qual : Str} {st : Stmt} {f : Addr} {fd : FuncData} {N ps : List Str} {k : Nat} {sp : Sp} (F : Fun K x qual st f fd) (S : FnScope N ps (defScope st)) (len : ∀ vs H Q E, sp vs H Q E → vs.length = ps.length)
    (hbody : ∀ (cdv : Value) (A : Around) (outer : List PySem.Env) (s : Shared) (H : Hp) (vs : List V) (Q : VK) (E : XK), (g = true → A.guards = some []) → Room k (A.deeper (envOfC qual (defScope st) s.heap.objs.size f cdv)) → sp vs H Q E →
      ∃ t, PSs (cxOf (L2.CX P wd) P wd K mg base N qual (defScope st) f cdv A outer s H E) (defBody st) t ∧ t { nx := fun _ H' => Q .non H', rt := Q } (L2.start N vs) H) : FnG P wd K mg base g (k + 1) f fd ps sp := by
  obtain ⟨oc, od, kV, doc, pm, an, cdv, ct, osl, rfl, look, code⟩ := F.ex
  refine ⟨len, fun A outer s H args us vs Q E hg hr e0 hb r hsp => ?_⟩
  have old : ∀ b o, base.get? b = some o → s.heap.get? b = some o := fun b o e => (e0.bs b o e).1
  have inK : K.In s.heap := e0.mod.kin.keeps old
  have par : ∀ q ∈ ps.zip us, (defScope st).names.lookup q.1 = some .local ∨ ((defScope st).names.lookup q.1 = some .cell ∧ ((cellsFrom (s.heap.objs.size + 1) (defScope st).names []).lookup q.1).isSome = true) := by
    rintro ⟨n, v⟩ hy
    exact (S.par n (List.of_mem_zip hy).1).imp id fun q => ⟨q, PySem.W.cellsFrom_some _ _ _ (.inl q)⟩
  refine codeAny_call_function hr.depth (inK _ _ look) rfl S.co S.gen rfl (PySem.W.codeRec_of inK code) (hb _ _ _ _ ?_)
  refine wpAny_newFunctionEnv_cells S.kind par fun env he s1 x => ?_
  cases he
  refine ⟨(e0.mod.nolimit.keeps old).keeps x.toInCall.keep, codeAny_func ?_⟩
  obtain ⟨t, ht, hq⟩ := hbody cdv A outer s H vs Q E hg (hr.deeper _) hsp
  refine wpAny_mono (ht.run [] s1 (L2.start N vs) H _ (inv_start S hr.hd e0 (len _ _ _ _ hsp) r x) hq) (fun fl s' hs => ?_) fun _ _ hs => hs
  match fl, hs with
  | .ret u, ⟨v, _, H', J, rv, q⟩ => exact ⟨v, H', J.os, J.bare, J.base, J.hok, rv, q⟩
  | .next, ⟨_, H', J, q⟩ => exact ⟨V.non, H', J.os, J.bare, J.base, J.hok, rfl, q⟩
  | .brk, ⟨_, _, _, q⟩ => exact q.elim
  | .cont, ⟨_, _, _, q⟩ => exact q.elim
/-! ### defs of the module -/
structure FnD (C : SC) (k : Nat) (x : Str) (ps : List Str) (c : Con) : Prop where
  ex : ∃ (f : Addr) (fd : FuncData), FnG C.P C.wd C.K C.mg C.base C.g k f fd ps (toSp C.K c) ∧ C.mg x = some (.ref f) ∧ PySem.W.keepIn C.K (.ref f) = true ∧ Binds C.K fd ps []
  wf : c.Wf
section
variable {C : SC} {E : EPost} {ρ : Env} {μ : Mem} {Q : XV → Mem → Prop} {e : Expr} {es : List Expr} {p pos : Pos} {x : Str} {k : Nat} {ps : List Str} {c : Con} {X : Cx}
theorem FnD.at_ (F : FnD C k x ps c) (h : C.Has X) : ∃ (f : Addr) (fd : FuncData), FnG X.prog X.w X.K X.mg X.base C.g k f fd ps (toSp C.K c) ∧ X.mg x = some (.ref f) ∧ PySem.W.keepIn X.K (.ref f) = true ∧ Binds X.K fd ps [] := by
  obtain ⟨f, fd, h1, h2, h3, h4⟩ := F.ex
  refine ⟨f, fd, ?_, ?_, ?_, ?_⟩
  · rw [h.P, h.wd, h.K, h.mg, h.base]; exact h1
  · rw [h.mg]; exact h2
  · rw [h.K]; exact h3
  · rw [h.K]; exact h4
/-- the wish about a callee's exceptions, at the names as they stand -/
def xkOf (K : PySem.W.Frag) (E : EPost) (ρ : Env) (μ : Mem) (H : Hp) (w : IA) : XK := fun cls d H' => ∃ Cl fl μ' w', cls = .ref Cl ∧ XRep K μ' H' w' d fl ∧ MOk K μ' H' w' ∧ Stp μ H w μ' H' w' ∧ E Cl fl ρ μ'
theorem passes_at {H : Hp} {w : IA} {σ : L2.St} (A : At C X E ρ μ σ H w) {pins : List (Addr × Obj)} {H1 : Hp} {s : Shared} {u : Value} {s' : Shared} (I : Inv X pins σ H1 s) (h : L2.CX X.prog X.w X.stack H1 s (xkOf C.K E ρ μ H w) u s') : X.xe u s' := by
  refine A.T u s' (XE.of_call I (E := xkOf C.K E ρ μ H w) (fun cls d H' q => ?_) h)
  obtain ⟨Cl, fl, μ', w', h1, h2, h3, h4, h5⟩ := q
  exact ⟨Cl, fl, ρ, μ', w', h1, h2, h3, A.R.stp h4, h4, h5⟩
theorem run_at [Calm C] {H : Hp} {w : IA} {σ : L2.St} {f : Addr} {fd : FuncData} {pins : List (Addr × Obj)} {s : Shared} {Qv : VK} {us : List Value} {vs : List V} {sp : Sp} (A : At C X E ρ μ σ H w) (F : FnG X.prog X.w X.K X.mg X.base C.g k f fd ps sp) (hk : k ≤ C.room) (hb : Binds X.K fd ps [])
    (I : Inv X pins σ H s) (r : Vals vs us) (h : sp vs H Qv (xkOf C.K E ρ μ H w)) : wpAny (model X.prog X.w) X.A (call (.ref f) us) (EP X pins σ Qv) X.xe s := by
  have hl : (us ++ []).length = ps.length := by rw [List.append_nil, ← r.length]; exact F.len _ _ _ _ h
  have hb' := hb s us I.kIn hl
  rw [List.append_nil] at hb'
  refine PySem.wpAny_call (PySem.codeAny_mono (F.run X.A X.stack s H ⟨us, []⟩ us vs Qv (xkOf C.K E ρ μ H w) A.has.gd ((A.has.room Calm.h).mono hk) I.env0 hb' r h) fun r s' hq => ?_)
  cases r with
  | error e => exact passes_at A I hq
  | ok fl =>
    cases fl with
    | ret u => exact I.after hq
    | next => exact False.elim hq
    | brk => exact False.elim hq
    | cont => exact False.elim hq
/-- f(e, ..) -/
theorem we_call [Calm C] (F : FnD C k x ps c) (hk : k ≤ C.room) (hg : C.Glob x) (h : WA C (e :: es) ρ μ E fun xs μ1 => Calls c xs μ1 Q fun Cl fl μ2 => E Cl fl ρ μ2) (hdb : (x == ("__debug__" : Str)) = false := by decide)
    (he : ∀ env, starEach (e :: es) env = (false, eval e env) :: starEach es env := by intro _; rfl) (hpl : ∀ env, (backTo pos (starEach es env)).any (·.1) = false := by intro _; rfl) : WE C (.Call (.Name x p) (e :: es) [] pos) ρ μ E Q := fun X σ H w A pins s I => by
  obtain ⟨f, fd, F1, hm, kp, hb⟩ := F.at_ A.has
  refine wpAny_Call_Name_kw (ld_glob I (by show X.env.scope.names.lookup x = _; rw [A.has.sc]; exact hg) hm ?_ hdb)
  have ha : tA X (e :: es) σ H fun vs H1 => ∃ xs μ1 w1, RepXs C.K μ1 H1 w1 xs vs ∧ At C X E ρ μ1 σ H1 w1 ∧ Stp μ H w μ1 H1 w1 ∧ Calls c xs μ1 Q fun Cl fl μ2 => E Cl fl ρ μ2 := h.go A fun vs H1 xs μ1 w1 rs A1 S1 q => ⟨xs, μ1, w1, rs, A1, S1, q⟩
  refine PySem.W.callWith_K (h₀ := X.base) I.ok.mod.kin kp (thn (ha pos pins s I) fun us s1 ⟨vs, H1, I1, r, xs, μ1, w1, rs, A1, S1, q⟩ => ⟨I1.kIn, ?_⟩) (he _) (hpl _)
  exact EP_from S1 (run_at A1 F1 hk hb I1 r (Calls.sp F.wf q A1.M rs (fun v H' h => h) fun Cl fl d H' μ' w' h1 h2 h3 h4 => ⟨Cl, fl, μ', w', rfl, h1, h2, h3, h4⟩))
theorem we_call0 [Calm C] (F : FnD C k x ps c) (hk : k ≤ C.room) (hg : C.Glob x) (h : Calls c [] μ Q fun Cl fl μ2 => E Cl fl ρ μ2) (hdb : (x == ("__debug__" : Str)) = false := by decide) : WE C (.Call (.Name x p) [] [] pos) ρ μ E Q := fun X σ H w A pins s I => by
  obtain ⟨f, fd, F1, hm, kp, hb⟩ := F.at_ A.has
  refine wpAny_Call_Name_kw (ld_glob I (by show X.env.scope.names.lookup x = _; rw [A.has.sc]; exact hg) hm ?_ hdb)
  exact PySem.W.callWith_K0 I.kIn kp (run_at A F1 hk hb I .nil (Calls.sp F.wf h A.M .nil (fun v H' h => h) fun Cl fl d H' μ' w' h1 h2 h3 h4 => ⟨Cl, fl, μ', w', rfl, h1, h2, h3, h4⟩))
/-! ### a def's body keeps its contract -/
def startE (N : List Str) (xs : List XV) : Env := xs.map some ++ List.replicate (N.length - xs.length) none
/-- what is handed back fits the contract -/
def Fits (o : Out → Prop) (x : XV) (μ2 : Mem) : Prop := ∃ μ', o (.ret x μ') ∧ (∃ r, μ2 = μ' ++ r) ∧ x.below μ'.length ∧ ∀ m, some m ∈ μ' → m.below μ'.length
/-- .. a new cell of data, made anywhere on the way -/
def FitsN (o : Out → Prop) (x : XV) (μ2 : Mem) : Prop := ∃ (μb : Mem) (m : MO) (k : Nat), o (.ret (.l μb.length) (μb ++ [some m])) ∧ x = .l k ∧ μb.length ≤ k ∧ μ2[k]? = some (some m) ∧ m.pure ∧ (∃ r, μ2 = μb ++ r) ∧ ∀ m', some m' ∈ μb → m'.below μb.length
def Fits2 (o : Out → Prop) (x : XV) (μ2 : Mem) : Prop := Fits o x μ2 ∨ FitsN o x μ2
def FitsX (o : Out → Prop) (Cl : Addr) (fl : List (Str × D)) (μ2 : Mem) : Prop := ∃ μ', o (.exc Cl fl μ') ∧ (∃ r, μ2 = μ' ++ r) ∧ ∀ m, some m ∈ μ' → m.below μ'.length
/-- a def's own context -/
def SC.defC (C : SC) (N : List Str) (sc : Scope) (k : Nat) : SC := { C with N := N, sc := sc, own := fun _ => true, room := k, top := true, cm := true }
instance {C : SC} {N : List Str} {sc : Scope} {k : Nat} : Calm (C.defC N sc k) := ⟨rfl⟩
theorem rok_start {K : PySem.W.Frag} {H : Hp} {w : IA} {N : List Str} {xs : List XV} {vs : List V} (rs : RepXs K μ H w xs vs) : ROk K μ H w (startE N xs) (L2.start N vs) := by
  have hl := rs.length
  refine ⟨by unfold startE L2.start; simp [hl], fun i x e => ?_⟩
  unfold startE at e
  by_cases hi : i < xs.length
  · rw [List.getElem?_append_left (by simpa using hi), List.getElem?_map] at e
    cases ex : xs[i]? with
    | none => rw [ex] at e; cases e
    | some y =>
      rw [ex] at e
      cases e
      obtain ⟨v, hv, r⟩ := paired_get rs ex
      refine ⟨v, ?_, r⟩
      unfold L2.start
      rw [List.getElem?_append_left (by rw [List.length_map]; exact (List.getElem?_eq_some_iff.mp hv).1), List.getElem?_map, hv]
      rfl
  · rw [List.getElem?_append_right (by simpa using hi), List.getElem?_replicate] at e
    split at e <;> cases e
theorem XRep.cut {K : PySem.W.Frag} {H : Hp} {w : IA} {d : Option Addr} {fl : List (Str × D)} {n : Nat} (h : XRep K μ H w d fl) : XRep K (μ.take n) H (w.cut n) d fl := by
  cases d with
  | none => exact h
  | some a =>
    obtain ⟨nl, gs, e, f, r⟩ := h
    exact ⟨fun q => nl (live_cut q), gs, e, f, Reps.mono (fun b o hb n => ⟨hb, fun q => n (live_cut q)⟩) _ _ r⟩
/-- of the new cells one stays -/
theorem pick_cell {K : PySem.W.Frag} {μ0 μb r : Mem} {H0 H : Hp} {w0 w : IA} {m : MO} {k : Nat} {v : V} (M : MOk K (μb ++ r) H w) (S : Stp μ0 H0 w0 (μb ++ r) H w) (M0 : MOk K μ0 H0 w0) (hl : μ0.length ≤ μb.length) (hk : μb.length ≤ k) (hm : (μb ++ r)[k]? = some (some m)) (hp : m.pure) (hb : ∀ m', some m' ∈ μb → m'.below μb.length) (rz : RepX K (μb ++ r) H w (.l k) v) :
    ∃ w', (MOk K (μb ++ [some m]) H w') ∧ Stp μ0 H0 w0 (μb ++ [some m]) H w' ∧ RepX K (μb ++ [some m]) H w' (.l μb.length) v := by
  obtain ⟨a, ea, rfl⟩ := rz
  have hw := M.len
  rw [List.length_append] at hw
  have hkl := (List.getElem?_eq_some_iff.mp ea).1
  have lt : (w.ι.take μb.length).length = μb.length := by rw [List.length_take]; omega
  let w' : IA := ⟨w.ι.take μb.length ++ [a], w.F⟩
  have gt : ∀ {j : Nat} {c : Addr}, w'.ι[j]? = some c → (j < μb.length ∧ w.ι[j]? = some c) ∨ (j = μb.length ∧ c = a) := fun {j c} e => by
    have e : (w.ι.take μb.length ++ [a])[j]? = some c := e
    by_cases hj : j < μb.length
    · rw [List.getElem?_append_left (by omega), List.getElem?_take_of_lt hj] at e
      exact .inl ⟨hj, e⟩
    · rw [List.getElem?_append_right (by omega)] at e
      have h1 := (List.getElem?_eq_some_iff.mp e).1
      simp only [List.length_singleton] at h1
      exact .inr ⟨by omega, List.mem_singleton.mp (List.mem_of_getElem? e)⟩
  have mem : ∀ {j : Nat} {mm : MO} {c : Addr}, (μb ++ [some m])[j]? = some (some mm) → w'.ι[j]? = some c → (μb[j]? = some (some mm) ∧ (μb ++ r)[j]? = some (some mm) ∧ w.ι[j]? = some c ∧ j < μb.length) ∨ (j = μb.length ∧ mm = m ∧ c = a) := fun {j mm c} e1 e2 => by
    rcases gt e2 with ⟨hj, e⟩ | ⟨hj, e⟩
    · rw [List.getElem?_append_left hj] at e1
      exact .inl ⟨e1, by rw [List.getElem?_append_left hj]; exact e1, e, hj⟩
    · subst hj
      rw [List.getElem?_concat_length] at e1
      cases e1
      exact .inr ⟨rfl, rfl, e⟩
  have lv : ∀ {c : Addr}, Live (μb ++ [some m]) w' c → Live (μb ++ r) w c := fun {c} l => by
    rcases l with f | ⟨j, mm, e1, e2⟩
    · exact .inl f
    · rcases mem e1 e2 with ⟨_, q1, q2, _⟩ | ⟨_, _, q2⟩
      · exact .inr ⟨j, mm, q1, q2⟩
      · rw [q2]; exact .inr ⟨k, m, hm, ea⟩
  have lx : ∀ x v, x.below μb.length → RepX K (μb ++ r) H w x v → RepX K (μb ++ [some m]) H w' x v := fun x v hb h => by
    cases x with
    | d x => exact Rep.mono (fun a o e nl => ⟨e, fun q => nl (lv q)⟩) x v h
    | l j =>
      obtain ⟨c, e, rr⟩ := h
      refine ⟨c, ?_, rr⟩
      show (w.ι.take μb.length ++ [a])[j]? = some c
      have hb : j < μb.length := hb
      rw [List.getElem?_append_left (by omega), List.getElem?_take_of_lt hb]
      exact e
  have lxs : ∀ {xs : List XV} {vs : List V}, (∀ x ∈ xs, x.below μb.length) → RepXs K (μb ++ r) H w xs vs → RepXs K (μb ++ [some m]) H w' xs vs := fun {xs} => by
    induction xs with
    | nil => intro vs _ h; cases h; exact .nil
    | cons x xs ih => intro vs hb h; cases h with
      | cons r t => exact .cons (lx _ _ (hb _ List.mem_cons_self) r) (ih (fun y hy => hb y (List.mem_cons_of_mem _ hy)) t)
  have hold : ∀ {mm : MO} {c : Addr}, mm.below μb.length → Holds K (μb ++ r) H w mm c → Holds K (μb ++ [some m]) H w' mm c := fun {mm c} hb h => by
    cases mm with
    | lst xs => obtain ⟨us, e, r⟩ := h; exact ⟨us, e, lxs hb r⟩
    | ins C fs xs => obtain ⟨dx, gs, e, f, r⟩ := h; exact ⟨dx, gs, e, f, lxs hb r⟩
    | dct ks xs => obtain ⟨kvs, e, f, r⟩ := h; exact ⟨kvs, e, f, lxs hb r⟩
    | dcn hs ks xs => obtain ⟨ys, e, f, r1, r2⟩ := h; exact ⟨ys, e, f, Reps.mono (fun a o e nl => ⟨e, fun q => nl (lv q)⟩) ks _ r1, lxs hb r2⟩
  have mbel : m.below μb.length := by
    cases m with
    | lst xs => intro x hx; obtain ⟨d, rfl⟩ := hp x hx; trivial
    | dct ks xs => intro x hx; obtain ⟨d, rfl⟩ := hp x hx; trivial
    | ins C fs xs => exact hp.elim
    | dcn hs ks xs => exact hp.elim
  refine ⟨w', ⟨?_, fun i j mi mj c e1 e2 e3 e4 => ?_, fun n mm c e1 e2 => ?_, fun n mm c e1 e2 f => ?_, fun c f => M.fr c f⟩, ⟨fun c o h nl => ⟨(S.keep c o h nl).1, fun q => (S.keep c o h nl).2 (lv q)⟩, fun n c e => ?_, S.sF, S.frm, S.there, fun n c hn e => ?_⟩, ⟨a, ?_, rfl⟩⟩
  · show (w.ι.take μb.length ++ [a]).length = _
    rw [List.length_append, lt, List.length_append]; rfl
  · rcases mem e1 e3 with ⟨_, a1, a2, a3⟩ | ⟨a1, a2, a3⟩ <;> rcases mem e2 e4 with ⟨_, b1, b2, b3⟩ | ⟨b1, b2, b3⟩
    · exact M.inj i j mi mj c a1 b1 a2 b2
    · subst b3
      have := M.inj i k mi m c a1 hm a2 ea
      omega
    · subst a3
      have := M.inj j k mj m c b1 hm b2 ea
      omega
    · omega
  · rcases mem e1 e2 with ⟨a0, a1, a2, a3⟩ | ⟨a1, a2, a3⟩
    · exact hold (hb mm (List.mem_of_getElem? a0)) (M.holds n mm c a1 a2)
    · subst a2 a3
      exact hold mbel (M.holds k _ _ hm ea)
  · rcases mem e1 e2 with ⟨a0, a1, a2, a3⟩ | ⟨a1, a2, a3⟩
    · exact M.nF n mm c a1 a2 f
    · subst a3; exact M.nF k m _ hm ea f
  · have hn : n < μb.length := by
      have := (List.getElem?_eq_some_iff.mp e).1
      rw [M0.len] at this
      omega
    show (w.ι.take μb.length ++ [a])[n]? = some c
    rw [List.getElem?_append_left (by omega), List.getElem?_take_of_lt hn]
    exact S.num n c e
  · rcases gt e with ⟨hj, e⟩ | ⟨hj, e⟩
    · exact S.new n c hn e
    · subst e
      exact S.new k _ (by rw [M0.len]; omega) ea
  · show (w.ι.take μb.length ++ [a])[μb.length]? = some a
    rw [List.getElem?_append_right (by omega), lt, Nat.sub_self]
    rfl
theorem Con.fnok2 {x qual : Str} {st : Stmt} {f : Addr} {fd : FuncData} {N : List Str} (F : Fun C.K x qual st f fd) (S : FnScope N ps (defScope st)) (wf : c.Wf) (wf2 : ∀ a μb m, c.pre a → c.out a (.ret (.l μb.length) (μb ++ [some m])) → m.pure → (c.mem a).length ≤ μb.length) (len : ∀ a, c.pre a → (c.args a).length = ps.length)
    (body : ∀ a, c.pre a → WS (C.defC N (defScope st) k) (defBody st) (startE N (c.args a)) (c.mem a) (fun Cl fl _ μ2 => FitsX (c.out a) Cl fl μ2) { nx := fun _ μ2 => Fits2 (c.out a) (.d .non) μ2, rt := fun z μ2 => Fits2 (c.out a) z μ2 }) :
    FnG C.P C.wd C.K C.mg C.base C.g (k + 1) f fd ps (toSp C.K c) := by
  refine Fun.okG F S (fun vs H Q E h => ?_) (fun cdv A outer s H vs Q E hgd hr h => ?_)
  · obtain ⟨a, w, hp, rs, _⟩ := h
    rw [← rs.length]
    exact len a hp
  · obtain ⟨a, w, hp, rs, M, hret, hexc⟩ := h
    refine ⟨_, ps_tS, ?_⟩
    generalize hX : cxOf (L2.CX C.P C.wd) C.P C.wd C.K C.mg C.base N qual (defScope st) f cdv A outer s H E = X
    have hx : C.defC N (defScope st) k |>.Has X := by
      subst hX
      exact ⟨rfl, rfl, rfl, rfl, rfl, rfl, rfl, fun _ _ => .inl rfl, fun _ => hr, (Nat.lt_of_le_of_lt (Nat.add_le_add_right (Nat.le_add_right _ _) 200) hr.un), fun _ => rfl, passes_of rfl, hgd, fun _ => ⟨rfl, rfl, rfl⟩⟩
    have cutR : ∀ {z : XV} {μ2 : Mem} {v : V} {H2 : Hp} {w2 : IA}, Fits2 (c.out a) z μ2 → RepX C.K μ2 H2 w2 z v → MOk C.K μ2 H2 w2 → Stp (c.mem a) H w μ2 H2 w2 → Q v H2 := by
      rintro z μ2 v H2 w2 (⟨μ', e, ⟨r, rfl⟩, hb, hm⟩ | ⟨μb, m, k, e, rfl, hk, hmk, hpm, ⟨r, rfl⟩, hbl⟩) rz M2 S2
      rotate_left
      · obtain ⟨w3, M3, S3, r3⟩ := pick_cell M2 S2 M (wf2 a μb m hp e hpm) hk hmk hpm hbl rz
        exact hret _ _ e v H2 _ r3 M3 S3
      have hn : (c.mem a).length ≤ μ'.length := wf.out a _ hp e
      have et : (μ' ++ r).take μ'.length = μ' := List.take_left
      have r1 := RepX.cut (n := μ'.length) hb rz
      have M1 := M2.cut μ'.length (by rw [et]; exact hm)
      have S1 := S2.cut M hn
      rw [et] at r1 M1 S1
      exact hret z μ' e v H2 _ r1 M1 S1
    have T : Takes X (liftE C.K (fun Cl fl _ μ2 => FitsX (c.out a) Cl fl μ2) (c.mem a) H w) := by
      have T0 : Takes X (fun cls d _ H' => E cls d H') := by subst hX; exact takes_of rfl rfl rfl rfl
      refine T0.imp ?_
      rintro cls d σ' H2 ⟨Cl, fl, ρ2, μ2, w2, rfl, hxr, M2, _, S2, μ', e, ⟨r, rfl⟩, hm⟩
      have hn : (c.mem a).length ≤ μ'.length := wf.out a _ hp e
      have et : (μ' ++ r).take μ'.length = μ' := List.take_left
      have r1 := hxr.cut (n := μ'.length)
      have M1 := M2.cut μ'.length (by rw [et]; exact hm)
      have S1 := S2.cut M hn
      rw [et] at r1 M1 S1
      exact hexc Cl fl μ' e d H2 _ r1 M1 S1
    have AT : At (C.defC N (defScope st) k) X (fun Cl fl _ μ2 => FitsX (c.out a) Cl fl μ2) (startE N (c.args a)) (c.mem a) (L2.start N vs) H w := ⟨hx, M, rok_start rs, T⟩
    refine tS_mono (body a hp X (L2.start N vs) H w AT) (fun σ' H' ⟨ρ', μ', w', R', M', S', q⟩ => ?_) (fun v H' ⟨z, μ', w', r', M', S', q⟩ => cutR q r' M' S') (fun _ _ ⟨_, _, _, _, _, _, q⟩ => q) (fun _ _ ⟨_, _, _, _, _, _, q⟩ => q)
    exact cutR (v := .non) q rfl M' S'
theorem Con.fnok {x qual : Str} {st : Stmt} {f : Addr} {fd : FuncData} {N : List Str} (F : Fun C.K x qual st f fd) (S : FnScope N ps (defScope st)) (wf : c.Wf) (len : ∀ a, c.pre a → (c.args a).length = ps.length)
    (body : ∀ a, c.pre a → WS (C.defC N (defScope st) k) (defBody st) (startE N (c.args a)) (c.mem a) (fun Cl fl _ μ2 => FitsX (c.out a) Cl fl μ2) { nx := fun _ μ2 => Fits (c.out a) (.d .non) μ2, rt := fun z μ2 => Fits (c.out a) z μ2 }) :
    FnG C.P C.wd C.K C.mg C.base C.g (k + 1) f fd ps (toSp C.K c) := by
  refine Fun.okG F S (fun vs H Q E h => ?_) (fun cdv A outer s H vs Q E hgd hr h => ?_)
  · obtain ⟨a, w, hp, rs, _⟩ := h
    rw [← rs.length]
    exact len a hp
  · obtain ⟨a, w, hp, rs, M, hret, hexc⟩ := h
    refine ⟨_, ps_tS, ?_⟩
    generalize hX : cxOf (L2.CX C.P C.wd) C.P C.wd C.K C.mg C.base N qual (defScope st) f cdv A outer s H E = X
    have hx : C.defC N (defScope st) k |>.Has X := by
      subst hX
      exact ⟨rfl, rfl, rfl, rfl, rfl, rfl, rfl, fun _ _ => .inl rfl, fun _ => hr, (Nat.lt_of_le_of_lt (Nat.add_le_add_right (Nat.le_add_right _ _) 200) hr.un), fun _ => rfl, passes_of rfl, hgd, fun _ => ⟨rfl, rfl, rfl⟩⟩
    have cutR : ∀ {z : XV} {μ2 : Mem} {v : V} {H2 : Hp} {w2 : IA}, Fits (c.out a) z μ2 → RepX C.K μ2 H2 w2 z v → MOk C.K μ2 H2 w2 → Stp (c.mem a) H w μ2 H2 w2 → Q v H2 := by
      rintro z μ2 v H2 w2 ⟨μ', e, ⟨r, rfl⟩, hb, hm⟩ rz M2 S2
      have hn : (c.mem a).length ≤ μ'.length := wf.out a _ hp e
      have et : (μ' ++ r).take μ'.length = μ' := List.take_left
      have r1 := RepX.cut (n := μ'.length) hb rz
      have M1 := M2.cut μ'.length (by rw [et]; exact hm)
      have S1 := S2.cut M hn
      rw [et] at r1 M1 S1
      exact hret z μ' e v H2 _ r1 M1 S1
    have T : Takes X (liftE C.K (fun Cl fl _ μ2 => FitsX (c.out a) Cl fl μ2) (c.mem a) H w) := by
      have T0 : Takes X (fun cls d _ H' => E cls d H') := by subst hX; exact takes_of rfl rfl rfl rfl
      refine T0.imp ?_
      rintro cls d σ' H2 ⟨Cl, fl, ρ2, μ2, w2, rfl, hxr, M2, _, S2, μ', e, ⟨r, rfl⟩, hm⟩
      have hn : (c.mem a).length ≤ μ'.length := wf.out a _ hp e
      have et : (μ' ++ r).take μ'.length = μ' := List.take_left
      have r1 := hxr.cut (n := μ'.length)
      have M1 := M2.cut μ'.length (by rw [et]; exact hm)
      have S1 := S2.cut M hn
      rw [et] at r1 M1 S1
      exact hexc Cl fl μ' e d H2 _ r1 M1 S1
    have AT : At (C.defC N (defScope st) k) X (fun Cl fl _ μ2 => FitsX (c.out a) Cl fl μ2) (startE N (c.args a)) (c.mem a) (L2.start N vs) H w := ⟨hx, M, rok_start rs, T⟩
    refine tS_mono (body a hp X (L2.start N vs) H w AT) (fun σ' H' ⟨ρ', μ', w', R', M', S', q⟩ => ?_) (fun v H' ⟨z, μ', w', r', M', S', q⟩ => cutR q r' M' S') (fun _ _ ⟨_, _, _, _, _, _, q⟩ => q) (fun _ _ ⟨_, _, _, _, _, _, q⟩ => q)
    exact cutR (v := .non) q rfl M' S'
theorem FnD.mk' {st : Stmt} {f : Addr} {fd : FuncData} {N : List Str} (F : Fun C.K x x st f fd) (hm : C.mg x = some (.ref f)) (hb : Binds C.K fd ps []) (S : FnScope N ps (defScope st)) (wf : c.Wf) (len : ∀ a, c.pre a → (c.args a).length = ps.length)
    (body : ∀ a, c.pre a → WS (C.defC N (defScope st) k) (defBody st) (startE N (c.args a)) (c.mem a) (fun Cl fl _ μ2 => FitsX (c.out a) Cl fl μ2) { nx := fun _ μ2 => Fits (c.out a) (.d .non) μ2, rt := fun z μ2 => Fits (c.out a) z μ2 }) : FnD C (k + 1) x ps c :=
  ⟨⟨f, fd, Con.fnok F S wf len body, hm, F.kp, hb⟩, wf⟩
theorem FnD.mk2 {st : Stmt} {f : Addr} {fd : FuncData} {N : List Str} (F : Fun C.K x x st f fd) (hm : C.mg x = some (.ref f)) (hb : Binds C.K fd ps []) (S : FnScope N ps (defScope st)) (wf : c.Wf) (wf2 : ∀ a μb m, c.pre a → c.out a (.ret (.l μb.length) (μb ++ [some m])) → m.pure → (c.mem a).length ≤ μb.length) (len : ∀ a, c.pre a → (c.args a).length = ps.length)
    (body : ∀ a, c.pre a → WS (C.defC N (defScope st) k) (defBody st) (startE N (c.args a)) (c.mem a) (fun Cl fl _ μ2 => FitsX (c.out a) Cl fl μ2) { nx := fun _ μ2 => Fits2 (c.out a) (.d .non) μ2, rt := fun z μ2 => Fits2 (c.out a) z μ2 }) : FnD C (k + 1) x ps c :=
  ⟨⟨f, fd, Con.fnok2 F S wf wf2 len body, hm, F.kp, hb⟩, wf⟩
end
end DL
set_option maxRecDepth 100000
set_option maxHeartbeats 2000000
namespace DL
open PySem L2 PySem.Spec
/-! ### methods of built-in types -/
def TyD (T : String) : XV → Mem → Prop
  | .d (.txt _), _ => T = "str"
  | .d (.int _), _ => T = "int"
  | .d (.lst _), _ => T = "list"
  | .l n, μ => T = "list" ∧ ∃ xs, μ[n]? = some (some (.lst xs))
  | _, _ => False
section
variable {C : SC} {E : EPost} {ρ : Env} {μ : Mem} {Q : XV → Mem → Prop} {o e : Expr} {es : List Expr} {p pos apos cpos : Pos} {x m f name : Str} {k : Nat} {ps : List Str} {c : Con} {X : Cx} {T id : String}
theorem TyD.v {x : XV} {v : V} {H : Hp} {w : IA} {K : PySem.W.Frag} (t : TyD T x μ) (M : MOk K μ H w) (r : RepX K μ H w x v) : tyV K T v H := by
  match x, t with
  | .d (.txt l), t => rw [show v = V.str (SX.S l) from r]; exact t
  | .d (.int i), t => rw [show v = V.int i from r]; exact t
  | .d (.lst ds), t =>
    obtain ⟨a, xs, rfl, nl, e, _⟩ := r
    exact .inl ⟨t, xs, SqL.of e⟩
  | .l n, ⟨t, xs, hm⟩ =>
    obtain ⟨a, ha, rfl⟩ := r
    obtain ⟨vs, e, _⟩ := M.holds n _ a hm ha
    exact .inl ⟨t, vs, SqL.of e⟩
theorem we_bm (pa : PlainAttrs T) (slot : Slot T name id) (hty : typeOf (.builtin id) = pure (.type "method_descriptor")) (h : WE C o ρ μ E fun x μ1 => TyD T x μ1 ∧ WA C (e :: es) ρ μ1 E fun xs μ2 => GoM C id x xs μ2 Q)
    (hbase : ∀ env, attributeBase o name env (eval o env) = eval o env := by intro _; rfl)
    (hfew : ∀ env, ((backTo cpos (starEach (e :: es) env)).all (fun x => !x.1) && (backToKw cpos (keywordEach [] env)).all (fun x => x.1.isSome) && decide ((e :: es).length + ([] : List Keyword).length + (if ([] : List Keyword).isEmpty then 0 else 1) < 30)) = true := by intro _; rfl)
    (hline : (apos.endLine == cpos.line) = true := by rfl) (hs : ∀ env, starEach (e :: es) env = (false, eval e env) :: starEach es env := by intro _; rfl) (hplain : ∀ env, (backTo cpos (starEach es env)).any (·.1) = false := by intro _; rfl) :
    WE C (.Call (.Attribute o name apos) (e :: es) [] cpos) ρ μ E Q := fun X σ H w A =>
  tE_of (pe_bm pa slot hty mS_ok pe_tE pa_tA (hbase _) (hfew _) hline (hs _) (hplain _)) (h.go A fun v1 H1 x μ1 w1 r1 A1 S1 ⟨ty, h1⟩ => ⟨by rw [A.has.K]; exact ty.v A1.M r1, h1.go A1 fun vs H2 xs μ2 w2 rs A2 S2 h2 => mS.from (S1.trans S2) (h2 X A2.has H2 w2 v1 vs A2.M (r1.stp S2) rs)⟩)
theorem we_bm0 (pa : PlainAttrs T) (slot : Slot T name id) (hty : typeOf (.builtin id) = pure (.type "method_descriptor")) (h : WE C o ρ μ E fun x μ1 => TyD T x μ1 ∧ GoM C id x [] μ1 Q)
    (hbase : ∀ env, attributeBase o name env (eval o env) = eval o env := by intro _; rfl) (hline : (apos.endLine == cpos.line) = true := by rfl) : WE C (.Call (.Attribute o name apos) [] [] cpos) ρ μ E Q := fun X σ H w A =>
  tE_of (pe_bm0 pa slot hty mS_ok pe_tE (hbase _) hline) (h.go A fun v1 H1 x μ1 w1 r1 A1 S1 ⟨ty, h1⟩ => ⟨by rw [A.has.K]; exact ty.v A1.M r1, mS.from S1 (h1 X A1.has H1 w1 v1 [] A1.M r1 .nil)⟩)
theorem joinL_nil : ∀ ls : List (List Nat), TL.joinL [] ls = ls.flatten
  | [] => rfl
  | [_] => by simp [TL.joinL]
  | p :: q :: r => by
    have ih := joinL_nil (q :: r)
    show p ++ ([] ++ TL.joinL [] (q :: r)) = _
    rw [ih]
    simp
theorem gm_join {sep : List Nat} {ls : List (List Nat)} (hz : (ls.map (·.length)).sum + ls.length * sep.length ≤ 16777216) (q : Q (.d (.txt (TL.joinL sep ls))) μ) : GoM C "str.join" (.d (.txt sep)) [.d (.lst (ls.map D.txt))] μ Q := fun X hX H w vx vs M rx rs => by
  obtain ⟨v, rfl, a, xs, rfl, nl, e, r⟩ := rs.one
  rw [Reps.txts r] at e
  refine mS_of mt_join ⟨SX.S sep, a, ls.map SX.S, rx, rfl, .inl (SqL.of e), ?_, lift.now M (x := .d (.txt (TL.joinL sep ls))) (by show V.str _ = V.str _; rw [SX.join_S]) q⟩
  rw [SX.lens, List.length_map, SX.S_len]
  exact hz
/-- a cell is written -/
theorem lift.set {K : PySem.W.Frag} {H : Hp} {w : IA} {n : Nat} {m0 : MO} {a : Addr} {xs : List XV} {vs : List V} (M : MOk K μ H w) (hm : μ[n]? = some (some m0)) (ha : w.ι[n]? = some a) (r : RepXs K μ H w xs vs) {y : XV} {v : V} (ry : RepX K μ H w y v)
    (q : Q y (μ.set n (some (.lst xs)))) : lift K Q μ H w v (upd H a (.lst vs)) := by
  have k : ∀ b o, b ≠ a → H b = some o → upd H a (.lst vs) b = some o := fun b o hb e => by rw [upd_ne hb]; exact e
  have S := Stp.set (mo := some (.lst xs)) M hm ha k
  exact ⟨y, _, w, ry.stp S, MOk.set M hm ha k fun m e => by cases e; exact ⟨vs, upd_same, r.stp S⟩, S, q⟩
theorem Paired.snoc {α β : Type} {R : α → β → Prop} {a : α} {b : β} (r : R a b) : ∀ {xs : List α} {ys : List β}, Paired R xs ys → Paired R (xs ++ [a]) (ys ++ [b])
  | _, _, .nil => .cons r .nil
  | _, _, .cons q t => .cons q (Paired.snoc r t)
theorem Paired.app {α β : Type} {R : α → β → Prop} : ∀ {xs zs : List α} {ys us : List β}, Paired R xs ys → Paired R zs us → Paired R (xs ++ zs) (ys ++ us)
  | _, _, _, _, .nil, s => s
  | _, _, _, _, .cons q t, s => .cons q (Paired.app t s)
theorem Paired.erase {α β : Type} {R : α → β → Prop} : ∀ {xs : List α} {ys : List β} (i : Nat), Paired R xs ys → Paired R (xs.eraseIdx i) (ys.eraseIdx i)
  | _, _, _, .nil => .nil
  | _, _, 0, .cons _ t => t
  | _, _, i + 1, .cons r t => .cons r (Paired.erase i t)
theorem Paired.setP {α β : Type} {R : α → β → Prop} {a : α} {b : β} (r : R a b) : ∀ {xs : List α} {ys : List β} (i : Nat), Paired R xs ys → Paired R (xs.set i a) (ys.set i b)
  | _, _, _, .nil => .nil
  | _, _, 0, .cons _ t => .cons r t
  | _, _, i + 1, .cons q t => .cons q (Paired.setP r i t)
theorem gm_append {n : Nat} {xs : List XV} {y : XV} (hm : μ[n]? = some (some (.lst xs))) (hz : xs.length < sizeLine) (q : Q (.d .non) (μ.set n (some (.lst (xs ++ [y]))))) : GoM C "list.append" (.l n) [y] μ Q := fun X hX H w vx vs M rx rs => by
  obtain ⟨v, rfl, r⟩ := rs.one
  obtain ⟨a, ha, rfl⟩ := rx
  obtain ⟨us, e, ru⟩ := M.holds n _ a hm ha
  exact mS_of mt_append ⟨a, us, v, rfl, rfl, e, by rw [← ru.length]; exact hz, lift.set (y := .d .non) M hm ha (Paired.snoc r ru) rfl q⟩
theorem gm_extend {n : Nat} {xs : List XV} {ds : List D} (hm : μ[n]? = some (some (.lst xs))) (hz : xs.length + ds.length ≤ sizeLine) (q : Q (.d .non) (μ.set n (some (.lst (xs ++ ds.map XV.d))))) : GoM C "list.extend" (.l n) [.d (.lst ds)] μ Q := fun X hX H w vx vs M rx rs => by
  obtain ⟨v, rfl, b, ys, rfl, nl, eb, r⟩ := rs.one
  obtain ⟨a, ha, rfl⟩ := rx
  obtain ⟨us, e, ru⟩ := M.holds n _ a hm ha
  exact mS_of mt_extend ⟨a, b, us, ys, rfl, rfl, e, eb, by rw [← ru.length, r.len]; exact hz, lift.set (y := .d .non) M hm ha (Paired.app ru (Reps.xs r)) rfl q⟩
theorem gm_clear {n : Nat} {xs : List XV} (hm : μ[n]? = some (some (.lst xs))) (q : Q (.d .non) (μ.set n (some (.lst [])))) : GoM C "list.clear" (.l n) [] μ Q := fun X hX H w vx vs M rx rs => by
  cases rs
  obtain ⟨a, ha, rfl⟩ := rx
  obtain ⟨us, e, ru⟩ := M.holds n _ a hm ha
  exact mS_of mt_clear ⟨a, us, rfl, rfl, e, lift.set (y := .d .non) M hm ha .nil rfl q⟩
theorem gm_popAt {n j : Nat} {xs : List XV} {i : Int} {y : XV} (hm : μ[n]? = some (some (.lst xs))) (h1 : -(2 ^ 63) ≤ i) (h2 : i < 2 ^ 63) (hj : seqIndex? i xs.length = some j) (hy : xs[j]? = some y) (q : Q y (μ.set n (some (.lst (xs.eraseIdx j))))) : GoM C "list.pop" (.l n) [.d (.int i)] μ Q := fun X hX H w vx vs M rx rs => by
  obtain ⟨v, rfl, r⟩ := rs.one
  obtain ⟨a, ha, rfl⟩ := rx
  obtain ⟨us, e, ru⟩ := M.holds n _ a hm ha
  obtain ⟨u, hu, ry⟩ := paired_get ru hy
  exact mS_of mt_popAt ⟨a, us, i, j, u, rfl, by rw [show v = V.int i from r], e, h1, h2, by rw [← ru.length]; exact hj, hu, lift.set M hm ha (Paired.erase j ru) ry q⟩
/-- o[i] = e, a cell's item -/
theorem w1_setIx {D : DEnds} {i : Expr} {ipos : Pos} (h : WE C e ρ μ E fun y μ1 => WE C o ρ μ1 E fun x μ2 => WE C i ρ μ2 E fun z μ3 => ∃ n xs k j, x = .l n ∧ z = .d (.int k) ∧ μ3[n]? = some (some (.lst xs)) ∧ ixN xs.length k = some j ∧ D.nx ρ (μ3.set n (some (.lst (xs.set j y)))))
    (hs : ∀ env, swapsWithSole [.Subscript o i ipos] e pos.line env = pure false := by intro _; rfl) (hw : ∀ env, swappedStores [.Subscript o i ipos] e env = pure none := by intro _; rfl) (h1 : ∀ env, (assignEach [.Subscript o i ipos] env).map (·.2) = [assign (.Subscript o i ipos) env] := by intro _; rfl)
    (ha : ∀ env v, assign (.Subscript o i ipos) env v = (do let ov ← holding [v] (eval o env); let iv ← holding [v, ov] (eval i env); standAt ipos; holding [v, ov, iv] (setItem ov iv v); release [v, ov, iv] []) := by intro _ _; rfl) :
    WS1 C (.Assign [.Subscript o i ipos] e pos) ρ μ E D := fun X σ H w A =>
  tS1_of (ps_asg pe_tE (pg_sub pe_tE pe_tE set_list (ha _)) (hs _) (hw _) (h1 _)) (h.go A fun v1 H1 y μ1 w1 r1 A1 S1 q1 => q1.go A1 fun v2 H2 x μ2 w2 r2 A2 S2 q2 => q2.go A2 fun v3 H3 z μ3 w3 r3 A3 S3 ⟨n, xs, k, j, ex, ez, hm, hj, q⟩ => by
    subst ex ez
    obtain ⟨a, ha, rfl⟩ := r2.stp S3
    obtain ⟨us, eu, ru⟩ := A3.M.holds n _ a hm ha
    have kk : ∀ b o, b ≠ a → H3 b = some o → upd H3 a (.lst (us.set j v1)) b = some o := fun b o hb e => by rw [upd_ne hb]; exact e
    have S := Stp.set (mo := some (.lst (xs.set j y))) A3.M hm ha kk
    have ry : RepX C.K μ3 H3 w3 y v1 := (r1.stp S2).stp S3
    refine ⟨a, us, k, j, rfl, r3, eu, by rw [← ru.length]; exact hj, ρ, _, w3, (A3.R.stp S), MOk.set A3.M hm ha kk fun m e => by cases e; exact ⟨_, upd_same, RepXs.stp S (Paired.setP ry j ru)⟩, ((S1.trans S2).trans S3).trans S, q⟩)
/-! ### attributes of own instances -/
def fldD {α : Type} : List Str → List α → Str → Option α
  | g :: gs, d :: ds, f => if f = g then some d else fldD gs ds f
  | _, _, _ => none
theorem fld_rep {K : PySem.W.Frag} {L : Addr → Prop} {H : Hp} : ∀ {fs : List Str} {ds : List D} {gs : List (Str × V)} {f : Str} {d : D}, gs.map (·.1) = fs → Reps K L H ds (gs.map (·.2)) → fldD fs ds f = some d → ∃ v, gs.lookup f = some v ∧ Rep K L H d v
  | [], [], _, _, _, _, _, h => by unfold fldD at h; cases h
  | _ :: _, [], _, _, _, _, _, h => by unfold fldD at h; cases h
  | [], _ :: _, _, _, _, _, _, h => by unfold fldD at h; cases h
  | g :: fs, d :: ds, [], _, _, e, _, _ => by cases e
  | g :: fs, d :: ds, (g', v) :: gs, f, d', e, r, h => by
    injection e with e1 e2
    obtain ⟨x, rr, e3, r1, r2⟩ := r
    injection e3 with e3 e4
    subst e3 e4
    have e1 : g' = g := e1
    subst e1
    unfold fldD at h
    by_cases q : f = g'
    · rw [if_pos q] at h
      cases h
      subst q
      exact ⟨v, by rw [List.lookup_cons_self], r1⟩
    · rw [if_neg q] at h
      obtain ⟨u, hu, ru⟩ := fld_rep (gs := gs) e2 r2 h
      refine ⟨u, ?_, ru⟩
      rw [List.lookup_cons]
      have : (f == g') = false := beq_eq_false_iff_ne.mpr q
      rw [this]
      exact hu
theorem lookup_noneOf {f : Str} : ∀ {gs : List (Str × V)}, f ∉ gs.map (·.1) → gs.lookup f = none
  | [], _ => rfl
  | (g, v) :: gs, h => by
    simp only [List.map_cons, List.mem_cons, not_or] at h
    rw [List.lookup_cons, show (f == g) = false from beq_eq_false_iff_ne.mpr h.1]
    exact lookup_noneOf h.2
/-- what the written part has of an own class -/
structure ClsD (C : SC) (Cl : Addr) : Prop where
  cls : Cls C.K Cl
theorem we_fld {Cl : Addr} (hc : Cls C.K Cl) (hn : NoAttr C.K Cl f) (h : WE C e ρ μ E fun x μ1 => ∃ fs ds d, x = .d (.ins Cl fs ds) ∧ fldD fs ds f = some d ∧ Q (.d d) μ1) (hb : ∀ env, attributeBase e f env (eval e env) = eval e env := by intro _; rfl) : WE C (.Attribute e f pos) ρ μ E Q := fun X σ H w A =>
  tE_of (pe_fld pe_tE (hb _)) (h.go A fun v H1 x μ1 w1 r1 A1 S1 ⟨fs, ds, d, ex, hf, q⟩ => by
    subst ex
    obtain ⟨a, dx, gs, rfl, nl, e, g, r⟩ := r1
    obtain ⟨u, hu, ru⟩ := fld_rep g r hf
    exact ⟨a, Cl, dx, gs, u, rfl, e, by rw [A.has.K]; exact hc, by rw [A.has.K]; exact hn, hu, .d d, μ1, w1, ru, A1.M, S1, q⟩)
/-- self.f = e: a field that a new instance does not have yet -/
theorem w1_newFld {D : DEnds} {Cl : Addr} {apos : Pos} (hc : Cls C.K Cl) (hn : NoAttr C.K Cl f) (h : WE C e ρ μ E fun y μ1 => WE C o ρ μ1 E fun x μ2 => ∃ n fs xs, x = .l n ∧ μ2[n]? = some (some (.ins Cl fs xs)) ∧ f ∉ fs ∧ fs.length < 1000 ∧ D.nx ρ (μ2.set n (some (.ins Cl (fs ++ [f]) (xs ++ [y])))))
    (hs : ∀ env, swapsWith e (some (.Attribute o f apos)) pos.line env = pure false := by intro _; rfl) : WS1 C (.Assign [.Attribute o f apos] e pos) ρ μ E D := fun X σ H w A =>
  tS1_of (ps_fld pe_tE pe_tE (hs _)) (h.go A fun v1 H1 y μ1 w1 r1 A1 S1 q1 => q1.go A1 fun v2 H2 x μ2 w2 r2 A2 S2 ⟨n, fs, xs, ex, hm, hf, hl, q⟩ => by
    subst ex
    obtain ⟨a, ha, rfl⟩ := r2
    obtain ⟨dx, gs, eg, fe, rg⟩ := A2.M.holds n _ a hm ha
    have ep : ∀ {gs : List (Str × V)}, f ∉ gs.map (·.1) → putF f v1 gs = gs ++ [(f, v1)] := by
      intro gs
      induction gs with
      | nil => intro _; rfl
      | cons g gs ih =>
        intro h
        simp only [List.map_cons, List.mem_cons, not_or] at h
        obtain ⟨g1, g2⟩ := g
        show (if g1 = f then _ else _) = _
        rw [if_neg (fun e => h.1 e.symm), ih h.2]
        rfl
    have ep' := ep (gs := gs) (by rw [fe]; exact hf)
    have k : ∀ b o, b ≠ a → H2 b = some o → upd H2 a (.ins Cl dx (putF f v1 gs)) b = some o := fun b o hb e => by rw [upd_ne hb]; exact e
    have S := Stp.set (mo := some (.ins Cl (fs ++ [f]) (xs ++ [y]))) A2.M hm ha k
    have ry : RepX C.K μ2 H2 w2 y v1 := r1.stp S2
    refine ⟨a, Cl, dx, gs, rfl, eg, by rw [A.has.K]; exact hc, by rw [A.has.K]; exact hn, by rw [← List.length_map (f := (·.1)), fe]; exact hl, ρ, _, w2, A2.R.stp S, MOk.set A2.M hm ha k fun m e => ?_, (S1.trans S2).trans S, q⟩
    cases e
    refine ⟨dx, putF f v1 gs, upd_same, by rw [ep', List.map_append, fe]; rfl, ?_⟩
    have e2 : (putF f v1 gs).map (·.2) = gs.map (·.2) ++ [v1] := by rw [ep', List.map_append]; rfl
    rw [e2]
    exact RepXs.stp S (Paired.snoc ry rg))
/-! ### own methods, own classes called -/
structure MtD (C : SC) (k : Nat) (Cl : Addr) (m : Str) (ps : List Str) (c : Con) : Prop where
  ex : ∃ (f : Addr) (fd : FuncData), FnG C.P C.wd C.K C.mg C.base C.g k f fd ps (toSp C.K c) ∧ Meth C.K Cl m f ∧ Binds C.K fd ps []
  cls : Cls C.K Cl
  wf : c.Wf
structure MkD (C : SC) (k : Nat) (x : Str) (Cl : Addr) (ps : List Str) (c : Con) : Prop where
  ex : ∃ (f : Addr) (fd : FuncData), FnG C.P C.wd C.K C.mg C.base C.g k f fd ps (toSp C.K c) ∧ Mk C.K Cl f ∧ C.mg x = some (.ref Cl) ∧ Binds C.K fd ps []
  wf : c.Wf
theorem MtD.at_ {Cl : Addr} (F : MtD C k Cl m ps c) (h : C.Has X) : ∃ (f : Addr) (fd : FuncData), FnG X.prog X.w X.K X.mg X.base C.g k f fd ps (toSp C.K c) ∧ Meth X.K Cl m f ∧ Binds X.K fd ps [] := by
  obtain ⟨f, fd, h1, h2, h3⟩ := F.ex
  refine ⟨f, fd, ?_, ?_, ?_⟩
  · rw [h.P, h.wd, h.K, h.mg, h.base]; exact h1
  · rw [h.K]; exact h2
  · rw [h.K]; exact h3
theorem MkD.at_ {Cl : Addr} (F : MkD C k x Cl ps c) (h : C.Has X) : ∃ (f : Addr) (fd : FuncData), FnG X.prog X.w X.K X.mg X.base C.g k f fd ps (toSp C.K c) ∧ Mk X.K Cl f ∧ X.mg x = some (.ref Cl) ∧ Binds X.K fd ps [] := by
  obtain ⟨f, fd, h1, h2, h3, h4⟩ := F.ex
  refine ⟨f, fd, ?_, ?_, ?_, ?_⟩
  · rw [h.P, h.wd, h.K, h.mg, h.base]; exact h1
  · rw [h.K]; exact h2
  · rw [h.mg]; exact h3
  · rw [h.K]; exact h4
/-- the text of a plain method call -/
abbrev MethForm (o : Expr) (m : Str) (es : List Expr) (kws : List Keyword) (apos cpos : Pos) (pl : Sem Bool) (env : PySem.Env) : Prop := eval (.Call (.Attribute o m apos) es kws cpos) env = (do
  let ov ← eval o env
  standAt apos.atName
  let (f, first) ← holding [ov] (getMethod ov m pl)
  callWith cpos f first (backTo cpos (starEach es env)) (backToKw cpos (keywordEach kws env)))
theorem we_meth [Calm C] {Cl : Addr} {pl : PySem.Env → Sem Bool} (F : MtD C k Cl m ps c) (hk : k ≤ C.room) (h : WE C o ρ μ E fun x μ1 => ∃ fs ds, x = .d (.ins Cl fs ds) ∧ m ∉ fs ∧ WA C (e :: es) ρ μ1 E fun xs μ2 => Calls c (.d (.ins Cl fs ds) :: xs) μ2 Q fun C2 fl μ3 => E C2 fl ρ μ3)
    (ht : ∀ env, MethForm o m (e :: es) [] apos cpos (pl env) env := by intro _; rfl) (hs : ∀ env, starEach (e :: es) env = (false, eval e env) :: starEach es env := by intro _; rfl) (hpl : ∀ env, (backTo cpos (starEach es env)).any (·.1) = false := by intro _; rfl) :
    WE C (.Call (.Attribute o m apos) (e :: es) [] cpos) ρ μ E Q := fun X σ H w A pins s I => by
  obtain ⟨f, fd, F1, hm, hb⟩ := F.at_ A.has
  have ho : tE X o σ H fun v H1 => ∃ x μ1 w1, RepX C.K μ1 H1 w1 x v ∧ At C X E ρ μ1 σ H1 w1 ∧ Stp μ H w μ1 H1 w1 ∧ ∃ fs ds, x = .d (.ins Cl fs ds) ∧ m ∉ fs ∧ WA C (e :: es) ρ μ1 E fun xs μ2 => Calls c (.d (.ins Cl fs ds) :: xs) μ2 Q fun C2 fl μ3 => E C2 fl ρ μ3 := h.go A fun v H1 x μ1 w1 r1 A1 S1 q => ⟨x, μ1, w1, r1, A1, S1, q⟩
  refine PySem.W.methodCall_KW (pl := pl X.env) (thn (ho pins s I) fun u s1 ⟨v, H1, I1, rx, x, μ1, w1, r1, A1, S1, fs, ds, ex, hf, q⟩ => ?_) (ht X.env)
  subst ex
  obtain ⟨a, dx, gs, rfl, nl, e1, g1, rr⟩ := id r1
  obtain rfl : u = Value.ref a := rx
  refine getmeth_ok I1 e1 (by rw [A.has.K]; exact F.cls) hm (lookup_noneOf (by rw [g1]; exact hf)) ?_
  have ha : tA X (e :: es) σ H1 fun vs H2 => ∃ xs μ2 w2, RepXs C.K μ2 H2 w2 xs vs ∧ At C X E ρ μ2 σ H2 w2 ∧ Stp μ1 H1 w1 μ2 H2 w2 ∧ Calls c (.d (.ins Cl fs ds) :: xs) μ2 Q fun C2 fl μ3 => E C2 fl ρ μ3 := q.go A1 fun vs H2 xs μ2 w2 rs A2 S2 q => ⟨xs, μ2, w2, rs, A2, S2, q⟩
  refine PySem.W.callWith_K (first := [.ref a]) (h₀ := X.base) I.ok.mod.kin hm.kp (thn (ha cpos pins s1 I1) fun us s2 ⟨vs, H2, I2, rv, xs, μ2, w2, rs, A2, S2, q2⟩ => ⟨I2.kIn, ?_⟩) (hs _) (hpl _)
  exact EP_from (S1.trans S2) (run_at A2 F1 hk hb I2 (us := .ref a :: us) (vs := .ref a :: vs) (.cons rfl rv) (Calls.sp F.wf q2 A2.M (.cons (r1.stp S2) rs) (fun v H' h => h) fun Cl fl d H' μ' w' h1 h2 h3 h4 => ⟨Cl, fl, μ', w', rfl, h1, h2, h3, h4⟩))
theorem we_meth0 [Calm C] {Cl : Addr} {pl : PySem.Env → Sem Bool} (F : MtD C k Cl m ps c) (hk : k ≤ C.room) (h : WE C o ρ μ E fun x μ1 => ∃ fs ds, x = .d (.ins Cl fs ds) ∧ m ∉ fs ∧ Calls c [.d (.ins Cl fs ds)] μ1 Q fun C2 fl μ3 => E C2 fl ρ μ3)
    (ht : ∀ env, MethForm o m [] [] apos cpos (pl env) env := by intro _; rfl) : WE C (.Call (.Attribute o m apos) [] [] cpos) ρ μ E Q := fun X σ H w A pins s I => by
  obtain ⟨f, fd, F1, hm, hb⟩ := F.at_ A.has
  have ho : tE X o σ H fun v H1 => ∃ x μ1 w1, RepX C.K μ1 H1 w1 x v ∧ At C X E ρ μ1 σ H1 w1 ∧ Stp μ H w μ1 H1 w1 ∧ ∃ fs ds, x = .d (.ins Cl fs ds) ∧ m ∉ fs ∧ Calls c [.d (.ins Cl fs ds)] μ1 Q fun C2 fl μ3 => E C2 fl ρ μ3 := h.go A fun v H1 x μ1 w1 r1 A1 S1 q => ⟨x, μ1, w1, r1, A1, S1, q⟩
  refine PySem.W.methodCall_KW (pl := pl X.env) (thn (ho pins s I) fun u s1 ⟨v, H1, I1, rx, x, μ1, w1, r1, A1, S1, fs, ds, ex, hf, q⟩ => ?_) (ht X.env)
  subst ex
  obtain ⟨a, dx, gs, rfl, nl, e1, g1, rr⟩ := id r1
  obtain rfl : u = Value.ref a := rx
  refine getmeth_ok I1 e1 (by rw [A.has.K]; exact F.cls) hm (lookup_noneOf (by rw [g1]; exact hf)) ?_
  exact PySem.W.callWith_K0 (first := [.ref a]) I1.kIn hm.kp (EP_from S1 (run_at A1 F1 hk hb I1 (us := [.ref a]) (vs := [.ref a]) (.cons rfl .nil) (Calls.sp F.wf q A1.M (.cons r1 .nil) (fun v H' h => h) fun Cl fl d H' μ' w' h1 h2 h3 h4 => ⟨Cl, fl, μ', w', rfl, h1, h2, h3, h4⟩)))
end
end DL
set_option maxRecDepth 100000
set_option maxHeartbeats 2000000
namespace DL
open PySem L2 PySem.Spec
/-! ### keywords -/
def perm {α : Type} (ix : List Nat) (us ws : List α) : List α := ix.filterMap fun i => (us ++ ws)[i]?
theorem perm_pairs {α β : Type} {R : α → β → Prop} {xs : List α} {ys : List β} (h : Paired R xs ys) : ∀ ix : List Nat, Paired R (ix.filterMap fun i => xs[i]?) (ix.filterMap fun i => ys[i]?)
  | [] => .nil
  | i :: ix => by
    rw [List.filterMap_cons, List.filterMap_cons]
    cases e : xs[i]? with
    | none =>
      have : ys[i]? = none := by
        rw [List.getElem?_eq_none_iff] at e ⊢
        rw [← h.length]
        exact e
      rw [this]
      exact perm_pairs h ix
    | some x =>
      obtain ⟨y, hy, r⟩ := paired_get h e
      rw [hy]
      exact .cons r (perm_pairs h ix)
theorem perm_rel {α β : Type} {R : α → β → Prop} {xs zs : List α} {ys us : List β} (h : Paired R xs ys) (k : Paired R zs us) (ix : List Nat) : Paired R (perm ix xs zs) (perm ix ys us) := perm_pairs (Paired.app h k) ix
theorem kbn_of {K : PySem.W.Frag} {fd : FuncData} {ps ks : List Str} {n : Nat} {ix : List Nat} (h : ∀ us ws : List Value, us.length = n → ws.length = ks.length → bindArgs fd ⟨us, ks.zip ws⟩ = pure (ps.zip (perm ix us ws))) : KBn K fd ps n ks (perm ix) (perm ix) :=
  ⟨fun s us ws _ l1 l2 => .of_eq (h us ws l1 l2), fun r1 r2 => perm_rel r1 r2 ix⟩
def tK (X : Cx) (kws : List Keyword) : TA := fun σ H Q => ∀ pos pins s, Inv X pins σ H s → wpAny (model X.prog X.w) X.A (evalAll ((backToKw pos (keywordEach kws X.env)).map (·.2))) (AP X pins σ Q) X.xe s
theorem pk_tK {X : Cx} {kws : List Keyword} : PK X kws (tK X kws) := ⟨fun pos pins s _ _ _ I h => h pos pins s I⟩
theorem tK_of {X : Cx} {kws : List Keyword} {t : TA} (h : PK X kws t) {σ : L2.St} {H : Hp} {Q : List V → Hp → Prop} (q : t σ H Q) : tK X kws σ H Q := fun pos pins s I => h.run pos pins s σ H Q I q
theorem tK_mono {X : Cx} {kws : List Keyword} {σ : L2.St} {H : Hp} {Q Q' : List V → Hp → Prop} (h : tK X kws σ H Q) (k : ∀ vs H', Q vs H' → Q' vs H') : tK X kws σ H Q' := fun pos pins s I =>
  thn (h pos pins s I) fun _ _ ⟨vs, H', I', r, q⟩ => ⟨vs, H', I', r, k vs H' q⟩
def WK (C : SC) (kws : List Keyword) (ρ : Env) (μ : Mem) (E : EPost) (Q : List XV → Mem → Prop) : Prop := ∀ X σ H w, At C X E ρ μ σ H w → tK X kws σ H (liftA C.K Q μ H w)
section
variable {C : SC} {X : Cx} {E : EPost} {ρ : Env} {μ μ' : Mem} {σ : L2.St} {H H' : Hp} {w w' : IA} {e o : Expr} {es : List Expr} {kws : List Keyword} {Q : XV → Mem → Prop} {QA : List XV → Mem → Prop} {nm : Option Str} {p pos kpos apos cpos : Pos} {x m : Str} {k n : Nat} {ps ks : List Str} {c : Con} {ix : List Nat} {Cl : Addr}
theorem WK.go (h : WK C kws ρ μ E QA) (A : At C X E ρ μ σ H w) {P : List V → Hp → Prop} (f : ∀ vs H1 xs μ1 w1, RepXs C.K μ1 H1 w1 xs vs → At C X E ρ μ1 σ H1 w1 → Stp μ H w μ1 H1 w1 → QA xs μ1 → P vs H1) : tK X kws σ H P :=
  tK_mono (h X σ H w A) fun v H1 ⟨x, μ1, w1, r, M, S, q⟩ => f v H1 x μ1 w1 r (A.step S M) S q
theorem wk_nil (q : QA [] μ) : WK C [] ρ μ E QA := fun X σ H w A => tK_of pk_nil ⟨[], μ, w, .nil, A.M, Stp.refl, q⟩
theorem wk_cons (h : WE C e ρ μ E fun x μ1 => WK C kws ρ μ1 E fun xs μ2 => QA (x :: xs) μ2) : WK C (⟨nm, e, kpos⟩ :: kws) ρ μ E QA := fun X σ H w A =>
  tK_of (pk_cons pe_tE pk_tK) (h.go A fun v H1 x μ1 w1 r A1 S1 h1 => h1.go A1 fun vs H2 xs μ2 w2 rs A2 S2 q => ⟨x :: xs, μ2, w2, .cons (r.stp S2) rs, A2.M, S1.trans S2, q⟩)
/-- how keywords come to parameters: n values by place, these names, in this order -/
structure FnK (C : SC) (k : Nat) (x : Str) (ps : List Str) (c : Con) (n : Nat) (ks : List Str) (ix : List Nat) : Prop where
  ex : ∃ (f : Addr) (fd : FuncData), FnG C.P C.wd C.K C.mg C.base C.g k f fd ps (toSp C.K c) ∧ C.mg x = some (.ref f) ∧ PySem.W.keepIn C.K (.ref f) = true ∧ KBn C.K fd ps n ks (perm ix) (perm ix)
  wf : c.Wf
structure MtK (C : SC) (k : Nat) (Cl : Addr) (m : Str) (ps : List Str) (c : Con) (n : Nat) (ks : List Str) (ix : List Nat) : Prop where
  ex : ∃ (f : Addr) (fd : FuncData), FnG C.P C.wd C.K C.mg C.base C.g k f fd ps (toSp C.K c) ∧ Meth C.K Cl m f ∧ KBn C.K fd ps n ks (perm ix) (perm ix)
  cls : Cls C.K Cl
  wf : c.Wf
structure MkK (C : SC) (k : Nat) (x : Str) (Cl : Addr) (ps : List Str) (c : Con) (n : Nat) (ks : List Str) (ix : List Nat) : Prop where
  ex : ∃ (f : Addr) (fd : FuncData), FnG C.P C.wd C.K C.mg C.base C.g k f fd ps (toSp C.K c) ∧ Mk C.K Cl f ∧ C.mg x = some (.ref Cl) ∧ KBn C.K fd ps (n + 1) ks (perm (0 :: ix.map (· + 1))) (perm (0 :: ix.map (· + 1)))
  wf : c.Wf
theorem FnK.at_ (F : FnK C k x ps c n ks ix) (h : C.Has X) : ∃ (f : Addr) (fd : FuncData), FnG X.prog X.w X.K X.mg X.base C.g k f fd ps (toSp C.K c) ∧ X.mg x = some (.ref f) ∧ PySem.W.keepIn X.K (.ref f) = true ∧ KBn X.K fd ps n ks (perm ix) (perm ix) := by
  rw [h.P, h.wd, h.K, h.mg, h.base]
  exact F.ex
theorem MtK.at_ (F : MtK C k Cl m ps c n ks ix) (h : C.Has X) : ∃ (f : Addr) (fd : FuncData), FnG X.prog X.w X.K X.mg X.base C.g k f fd ps (toSp C.K c) ∧ Meth X.K Cl m f ∧ KBn X.K fd ps n ks (perm ix) (perm ix) := by
  rw [h.P, h.wd, h.K, h.mg, h.base]
  exact F.ex
theorem MkK.at_ (F : MkK C k x Cl ps c n ks ix) (h : C.Has X) : ∃ (f : Addr) (fd : FuncData), FnG X.prog X.w X.K X.mg X.base C.g k f fd ps (toSp C.K c) ∧ Mk X.K Cl f ∧ X.mg x = some (.ref Cl) ∧ KBn X.K fd ps (n + 1) ks (perm (0 :: ix.map (· + 1))) (perm (0 :: ix.map (· + 1))) := by
  rw [h.P, h.wd, h.K, h.mg, h.base]
  exact F.ex
theorem run_atK [Calm C] {f : Addr} {fd : FuncData} {pins : List (Addr × Obj)} {s : Shared} {Qv : VK} {us ws : List Value} {vs zs : List V} {sp : Sp} (A : At C X E ρ μ σ H w) (F : FnG X.prog X.w X.K X.mg X.base C.g k f fd ps sp) (hk : k ≤ C.room) (hb : KBn X.K fd ps n ks (perm ix) (perm ix))
    (I : Inv X pins σ H s) (r : Vals vs us) (rz : Vals zs ws) (l1 : vs.length = n) (l2 : zs.length = ks.length) (h : sp (perm ix vs zs) H Qv (xkOf C.K E ρ μ H w)) : wpAny (model X.prog X.w) X.A (call (.ref f) us (ks.zip ws)) (EP X pins σ Qv) X.xe s := by
  have b := hb.to s us ws I.kIn (r.length.symm.trans l1) (rz.length.symm.trans l2)
  refine PySem.wpAny_call (PySem.codeAny_mono (F.run X.A X.stack s H ⟨us, ks.zip ws⟩ (perm ix us ws) (perm ix vs zs) Qv (xkOf C.K E ρ μ H w) A.has.gd ((A.has.room Calm.h).mono hk) I.env0 b (perm_rel r rz ix) h) fun r s' hq => ?_)
  cases r with
  | error e => exact passes_at A I hq
  | ok fl =>
    cases fl with
    | ret u => exact I.after hq
    | next => exact False.elim hq
    | brk => exact False.elim hq
    | cont => exact False.elim hq
abbrev KwAll (kws : List Keyword) (pos : Pos) (ks : List Str) : Prop := ∀ env, (backToKw pos (keywordEach kws env)).all (·.1.isSome) = true ∧ (backToKw pos (keywordEach kws env)).filterMap (·.1) = ks ∧ (backToKw pos (keywordEach kws env)).any (·.1.isNone) = false
/-- f(k = v, ..) -/
theorem we_callK0 [Calm C] (F : FnK C k x ps c 0 ks ix) (hk : k ≤ C.room) (hg : C.Glob x) (h : WK C kws ρ μ E fun zs μ1 => zs.length = ks.length ∧ Calls c (perm ix [] zs) μ1 Q fun Cl fl μ2 => E Cl fl ρ μ2) (hdb : (x == ("__debug__" : Str)) = false := by decide)
    (hall : KwAll kws pos ks := by intro _; exact ⟨rfl, rfl, rfl⟩) : WE C (.Call (.Name x p) [] kws pos) ρ μ E Q := fun X σ H w A pins s I => by
  obtain ⟨f, fd, F1, hm, kp, hb⟩ := F.at_ A.has
  refine wpAny_Call_Name_kw (ld_glob I (by show X.env.scope.names.lookup x = _; rw [A.has.sc]; exact hg) hm ?_ hdb)
  obtain ⟨k1, k2, k3⟩ := hall X.env
  have hz : tK X kws σ H fun vs H1 => ∃ xs μ1 w1, RepXs C.K μ1 H1 w1 xs vs ∧ At C X E ρ μ1 σ H1 w1 ∧ Stp μ H w μ1 H1 w1 ∧ xs.length = ks.length ∧ Calls c (perm ix [] xs) μ1 Q fun Cl fl μ2 => E Cl fl ρ μ2 := h.go A fun vs H1 xs μ1 w1 rs A1 S1 q => ⟨xs, μ1, w1, rs, A1, S1, q⟩
  refine PySem.W.callWith_KW0 (h₀ := X.base) I.ok.mod.kin kp k1 (thn (hz pos pins s I) fun ws s1 ⟨zs, H1, I1, rz, xs, μ1, w1, rs, A1, S1, l1, q⟩ => ⟨I1.kIn, ?_⟩) (by rw [k3]; rfl)
  rw [k2]
  exact EP_from S1 (run_atK A1 F1 hk hb I1 .nil rz rfl (rs.length.symm.trans l1) (Calls.sp F.wf q A1.M (perm_rel .nil rs ix) (fun v H' h => h) fun Cl fl d H' μ' w' h1 h2 h3 h4 => ⟨Cl, fl, μ', w', rfl, h1, h2, h3, h4⟩))
/-- f(e, .., k = v, ..) -/
theorem we_callK [Calm C] (F : FnK C k x ps c n ks ix) (hk : k ≤ C.room) (hg : C.Glob x) (h : WA C (e :: es) ρ μ E fun xs μ0 => WK C kws ρ μ0 E fun zs μ1 => xs.length = n ∧ zs.length = ks.length ∧ Calls c (perm ix xs zs) μ1 Q fun Cl fl μ2 => E Cl fl ρ μ2) (hdb : (x == ("__debug__" : Str)) = false := by decide)
    (hall : KwAll kws pos ks := by intro _; exact ⟨rfl, rfl, rfl⟩) (he : ∀ env, starEach (e :: es) env = (false, eval e env) :: starEach es env := by intro _; rfl) (hpl : ∀ env, (backTo pos (starEach (e :: es) env)).any (·.1) = false := by intro _; rfl) :
    WE C (.Call (.Name x p) (e :: es) kws pos) ρ μ E Q := fun X σ H w A pins s I => by
  obtain ⟨f, fd, F1, hm, kp, hb⟩ := F.at_ A.has
  refine wpAny_Call_Name_kw (ld_glob I (by show X.env.scope.names.lookup x = _; rw [A.has.sc]; exact hg) hm ?_ hdb)
  obtain ⟨k1, k2, k3⟩ := hall X.env
  have ha : tA X (e :: es) σ H fun vs H1 => ∃ xs μ1 w1, RepXs C.K μ1 H1 w1 xs vs ∧ At C X E ρ μ1 σ H1 w1 ∧ Stp μ H w μ1 H1 w1 ∧ WK C kws ρ μ1 E fun zs μ1 => xs.length = n ∧ zs.length = ks.length ∧ Calls c (perm ix xs zs) μ1 Q fun Cl fl μ2 => E Cl fl ρ μ2 :=
    h.go A fun vs H1 xs μ1 w1 rs A1 S1 q => ⟨xs, μ1, w1, rs, A1, S1, q⟩
  refine PySem.W.callWith_KW (h₀ := X.base) I.ok.mod.kin kp k1 (thn (ha pos pins s I) fun us s1 ⟨vs, H1, I1, r, xs, μ1, w1, rs, A1, S1, q⟩ => ?_) (by rw [hpl, k3]; rfl) (he _)
  have hz : tK X kws σ H1 fun zs H2 => ∃ ys μ2 w2, RepXs C.K μ2 H2 w2 ys zs ∧ At C X E ρ μ2 σ H2 w2 ∧ Stp μ1 H1 w1 μ2 H2 w2 ∧ xs.length = n ∧ ys.length = ks.length ∧ Calls c (perm ix xs ys) μ2 Q fun Cl fl μ2 => E Cl fl ρ μ2 := q.go A1 fun zs H2 ys μ2 w2 rs A2 S2 q => ⟨ys, μ2, w2, rs, A2, S2, q⟩
  refine thn (hz pos pins s1 I1) fun ws s2 ⟨zs, H2, I2, rz, ys, μ2, w2, rs2, A2, S2, l1, l2, q2⟩ => ⟨I2.kIn, ?_⟩
  rw [k2]
  exact EP_from (S1.trans S2) (run_atK A2 F1 hk hb I2 r rz (rs.length.symm.trans l1) (rs2.length.symm.trans l2) (Calls.sp F.wf q2 A2.M (perm_rel (RepXs.stp S2 rs) rs2 ix) (fun v H' h => h) fun Cl fl d H' μ' w' h1 h2 h3 h4 => ⟨Cl, fl, μ', w', rfl, h1, h2, h3, h4⟩))
/-! ### new instances -/
/-- C(..): the __init__ of the contract c writes the new instance, then it is data -/
def MakeG (c : Con) (Cl : Addr) (xs : List XV) (μ : Mem) (Q : XV → Mem → Prop) (E : Addr → List (Str × D) → Mem → Prop) : Prop :=
  ∃ ds, allD xs = some ds ∧ ∃ a : c.α, c.pre a ∧ c.mem a = [some (.ins Cl [] [])] ∧ c.args a = .l 0 :: ds.map XV.d ∧
    ∀ o, c.out a o → match o with
    | .ret z μ' => z = .d .non ∧ ∃ fs es, μ' = [some (.ins Cl fs (es.map XV.d))] ∧ Q (.d (.ins Cl fs es)) μ
    | .exc C2 fl _ => E C2 fl μ
theorem MakeG.sp {K : PySem.W.Frag} {xs : List XV} {EX : Addr → List (Str × D) → Mem → Prop} {vs : List V} (h : MakeG c Cl xs μ Q EX) (M : MOk K μ H w) (rs : RepXs K μ H w xs vs) {Qv : VK} {Ev : XK} (k1 : ∀ v H', lift K Q μ H w v H' → Qv v H')
    (k2 : ∀ C2 fl d H' μ' w', XRep K μ' H' w' d fl → MOk K μ' H' w' → Stp μ H w μ' H' w' → EX C2 fl μ' → Ev (.ref C2) d H') {a dx : Addr} (ha : H a = none) (hdx : H dx = none) (hne : dx ≠ a) :
    toSp K c (.ref a :: vs) (upd (upd H dx (.own a)) a (.ins Cl dx [])) (fun v H2 => v = .non ∧ Qv (.ref a) H2) Ev := by
  obtain ⟨ds, e, b, hp, hm, hargs, hout⟩ := h
  rw [allD_eq e] at rs
  have rr := RepXs.reps rs
  let wc : IA := ⟨[a], Live μ w⟩
  let H1 : Hp := upd (upd H dx (.own a)) a (.ins Cl dx [])
  let μc : Mem := [some (.ins Cl [] [])]
  have na : ¬ Live μ w a := fun l => M.no_live ha l
  have up : ∀ b o, H b = some o → H1 b = some o := fun b o hb => by
    show upd (upd H dx _) a _ b = _
    rw [upd_ne (ne_of_none hb ha), upd_ne (ne_of_none hb hdx)]
    exact hb
  have lc : ∀ b, Live μc wc b ↔ (Live μ w b ∨ b = a) := fun b => by
    constructor
    · rintro (f | ⟨n, m, e1, e2⟩)
      · exact .inl f
      · have : n < 1 := (List.getElem?_eq_some_iff.mp e2).1
        obtain rfl : n = 0 := by omega
        cases e2
        exact .inr rfl
    · rintro (l | rfl)
      · exact .inl l
      · exact .inr ⟨0, _, rfl, rfl⟩
  have kp : ∀ b o, H b = some o → ¬ Live μ w b → H1 b = some o ∧ ¬ Live μc wc b := fun b o hb nl => ⟨up b o hb, fun q => ((lc b).mp q).elim nl fun e => ne_of_none hb ha e⟩
  have Mc : MOk K μc H1 wc := by
    refine ⟨rfl, fun i j mi mj c e1 e2 e3 e4 => ?_, fun n m c e1 e2 => ?_, fun n m c e1 e2 f => ?_, fun c f => ?_⟩
    · have h1 : i < 1 := (List.getElem?_eq_some_iff.mp e1).1
      have h2 : j < 1 := (List.getElem?_eq_some_iff.mp e2).1
      omega
    · have h1 : n < 1 := (List.getElem?_eq_some_iff.mp e1).1
      obtain rfl : n = 0 := by omega
      cases e1
      cases e2
      exact ⟨dx, [], upd_same, rfl, .nil⟩
    · have h1 : n < 1 := (List.getElem?_eq_some_iff.mp e1).1
      obtain rfl : n = 0 := by omega
      cases e2
      exact na f
    · obtain ⟨o, ho⟩ := M.live_there f
      exact ⟨o, up c o ho⟩
  -- behind the run: all as it was, and the new one
  have back : ∀ {μ' : Mem} {H2 : Hp} {w1 : IA}, Stp μc H1 wc μ' H2 w1 → (∀ b, Live μ w b → Live μ' w1 b) ∧ Stp μ H w μ H2 w ∧ MOk K μ H2 w := fun {μ' H2 w1} S => by
    have lv : ∀ b, Live μ w b → Live μ' w1 b := fun b l => .inl (by rw [S.sF]; exact l)
    have S' : Stp μ H w μ H2 w := by
      refine ⟨fun b o hb nl => ?_, fun _ _ h => h, rfl, fun b o f hb => S.frm b o (.inl f) (up b o hb), fun b o hb => S.there b o (up b o hb), fun _ _ h e => (past h e).elim⟩
      obtain ⟨q1, q2⟩ := kp b o hb nl
      exact ⟨(S.keep b o q1 q2).1, nl⟩
    refine ⟨lv, S', M.len, M.inj, fun n m c e1 e2 => ?_, M.nF, fun c f => ?_⟩
    · exact Holds.stp S' (fun o hb => S.frm c o (.inr ⟨n, m, e1, e2⟩) (up c o hb)) (M.holds n m c e1 e2)
    · obtain ⟨o, ho⟩ := M.fr c f
      exact ⟨o, S.frm c o (.inl f) (up c o ho)⟩
  refine ⟨b, wc, hp, ?_, ?_, fun z μ' eo v H2 w1 rz M2 S2 => ?_, fun C2 fl μ' eo d H2 w1 rx M2 S2 => ?_⟩
  · rw [hm, hargs]
    exact .cons ⟨a, rfl, rfl⟩ (Reps.xs (Reps.mono kp _ _ rr))
  · rw [hm]; exact Mc
  · rw [hm] at S2
    obtain ⟨rfl, fs, es, rfl, q⟩ := hout _ eo
    obtain ⟨lv, S', M'⟩ := back S2
    refine ⟨rz, k1 _ _ ⟨.d (.ins Cl fs es), μ, w, ?_, M', S', q⟩⟩
    have hι : w1.ι[0]? = some a := S2.num 0 a rfl
    obtain ⟨dx2, gs, e1, e2, e3⟩ := M2.holds 0 _ a rfl hι
    exact ⟨a, dx2, gs, rfl, na, e1, e2, Reps.mono (fun b o hb nl => ⟨hb, fun l => nl (lv b l)⟩) _ _ (RepXs.reps e3)⟩
  · rw [hm] at S2
    have hout := hout _ eo
    obtain ⟨lv, S', M'⟩ := back S2
    refine k2 C2 fl d H2 μ w ?_ M' S' hout
    cases d with
    | none => exact rx
    | some u =>
      obtain ⟨nl, gs, e1, e2, e3⟩ := rx
      exact ⟨fun q => nl (lv u q), gs, e1, e2, Reps.mono (fun b o hb nl => ⟨hb, fun l => nl (lv b l)⟩) _ _ e3⟩
theorem gd_make {A : Around} {us : List Value} {kw : List (Str × Value)} (h : A.guards = some []) : (A.under (.builtin "type.__call__" ⟨.ref Cl :: us, kw⟩)).guards = some [] := by
  show pushGuards (Code.guards (.builtin "type.__call__" ⟨.ref Cl :: us, kw⟩)) A.guards = some []
  rw [h]
  have : Code.isGuard (.builtin "type.__call__" ⟨.ref Cl :: us, kw⟩) = false := by show guardIds.contains "type.__call__" = false; decide
  unfold Code.guards
  rw [this]
  rfl
theorem run_mk [Calm C] {f : Addr} {fd : FuncData} {pins : List (Addr × Obj)} {s : Shared} {Qv : VK} {us us2 : List Value} {vs : List V} {kw : List (Str × Value)} {sp : Sp} (A : At C X E ρ μ σ H w) (MK : Mk X.K Cl f) (F : FnG X.prog X.w X.K X.mg X.base C.g k f fd ps sp) (hk : k + 1 ≤ C.room)
    (hb : ∀ (s : Shared) (u : Value), X.K.In s.heap → BindsTo s fd ⟨u :: us, kw⟩ (ps.zip (u :: us2))) (I : Inv X pins σ H s) (r : Vals vs us2)
    (h : ∀ a dx, H a = none → H dx = none → dx ≠ a → sp (.ref a :: vs) (upd (upd H dx (.own a)) a (.ins Cl dx [])) (fun v H2 => v = .non ∧ Qv (.ref a) H2) (xkOf C.K E ρ μ H w))
    (hx : ∀ {a dx : Addr} {u : Value} {s1 s' : Shared}, Inv X pins σ (upd (upd H dx (.own a)) a (.ins Cl dx [])) s1 → L2.CX X.prog X.w X.stack (upd (upd H dx (.own a)) a (.ins Cl dx [])) s1 (xkOf C.K E ρ μ H w) u s' → X.xe u s') :
    wpAny (model X.prog X.w) X.A (call (.ref Cl) us kw) (EP X pins σ Qv) X.xe s := by
  have q := h (s.heap.objs.size + 1) s.heap.objs.size (I.hok.fresh (Nat.le_succ _)) (I.hok.fresh (Nat.le_refl _)) (Nat.ne_of_lt (Nat.lt_succ_self _))
  have J := Inv.made (C := Cl) I
  have rm : Room (k + 1) X.A := (A.has.room Calm.h).mono hk
  have rv : Vals (V.ref (s.heap.objs.size + 1) :: vs) (Value.ref (s.heap.objs.size + 1) :: us2) := .cons rfl r
  refine PySem.wpAny_call (make_map (f := f) I.kIn MK.makes MK.init (beq_iff_eq.mp MK.fn) (PySem.codeAny_mono (F.run _ X.stack _ _ ⟨.ref (s.heap.objs.size + 1) :: us, kw⟩ (.ref (s.heap.objs.size + 1) :: us2) _ _ (xkOf C.K E ρ μ H w) (fun q => gd_make (A.has.gd q)) (rm.make Cl us kw)
    (J.env0.make Cl us kw) (hb _ _ J.kIn) rv q) fun r s' hq => ?_))
  cases r with
  | error e => exact hx J hq
  | ok fl =>
    cases fl with
    | ret u =>
      obtain ⟨v, H', I3, rv, ev, q3⟩ := J.after hq
      subst ev
      exact ⟨rv, V.ref (s.heap.objs.size + 1), H', I3, rfl, q3⟩
    | next => exact False.elim hq
    | brk => exact False.elim hq
    | cont => exact False.elim hq
theorem xe_at (A : At C X E ρ μ σ H w) {pins : List (Addr × Obj)} {H1 : Hp} {s : Shared} {u : Value} {s' : Shared} (I : Inv X pins σ H1 s) (h : L2.CX X.prog X.w X.stack H1 s (xkOf C.K E ρ μ H w) u s') : X.xe u s' := passes_at A I h
theorem we_make [Calm C] (F : MkD C k x Cl ps c) (hk : k + 1 ≤ C.room) (hg : C.Glob x) (hl : ps.length = (e :: es).length + 1) (h : WA C (e :: es) ρ μ E fun xs μ1 => xs.length = (e :: es).length ∧ MakeG c Cl xs μ1 Q fun C2 fl μ2 => E C2 fl ρ μ2) (hdb : (x == ("__debug__" : Str)) = false := by decide)
    (he : ∀ env, starEach (e :: es) env = (false, eval e env) :: starEach es env := by intro _; rfl) (hpl : ∀ env, (backTo pos (starEach es env)).any (·.1) = false := by intro _; rfl) : WE C (.Call (.Name x p) (e :: es) [] pos) ρ μ E Q := fun X σ H w A pins s I => by
  obtain ⟨f, fd, F1, MK, hm, hb⟩ := F.at_ A.has
  refine wpAny_Call_Name_kw (ld_glob I (by show X.env.scope.names.lookup x = _; rw [A.has.sc]; exact hg) hm ?_ hdb)
  have ha : tA X (e :: es) σ H fun vs H1 => ∃ xs μ1 w1, RepXs C.K μ1 H1 w1 xs vs ∧ At C X E ρ μ1 σ H1 w1 ∧ Stp μ H w μ1 H1 w1 ∧ xs.length = (e :: es).length ∧ MakeG c Cl xs μ1 Q fun Cl fl μ2 => E Cl fl ρ μ2 := h.go A fun vs H1 xs μ1 w1 rs A1 S1 q => ⟨xs, μ1, w1, rs, A1, S1, q⟩
  refine PySem.W.callWith_K (h₀ := X.base) I.ok.mod.kin MK.kp (thn (ha pos pins s I) fun us s1 ⟨vs, H1, I1, r, xs, μ1, w1, rs, A1, S1, l1, q⟩ => ⟨I1.kIn, ?_⟩) (he _) (hpl _)
  have l2 : us.length = (e :: es).length := by rw [← r.length, ← rs.length]; exact l1
  refine EP_from S1 (run_mk A1 MK F1 hk (us2 := us) (fun s u ki => ?_) I1 r (fun a dx h1 h2 h3 => MakeG.sp q A1.M rs (fun v H' h => h) (fun Cl fl d H' μ' w' h1 h2 h3 h4 => ⟨Cl, fl, μ', w', rfl, h1, h2, h3, h4⟩) h1 h2 h3) (fun J hq => xe_at A1 J hq))
  have b := hb s (u :: us) ki (by rw [List.append_nil, List.length_cons, l2, hl])
  rw [List.append_nil] at b
  exact b
theorem perm_self {α : Type} (ix : List Nat) (u : α) (us ws : List α) : perm (0 :: ix.map (· + 1)) (u :: us) ws = u :: perm ix us ws := by
  unfold perm
  rw [List.filterMap_cons]
  show u :: _ = _
  rw [List.filterMap_map]
  rfl
/-- C(k = v, ..) -/
theorem we_makeK0 [Calm C] (F : MkK C k x Cl ps c 0 ks ix) (hk : k + 1 ≤ C.room) (hg : C.Glob x) (h : WK C kws ρ μ E fun zs μ1 => zs.length = ks.length ∧ MakeG c Cl (perm ix [] zs) μ1 Q fun Cl fl μ2 => E Cl fl ρ μ2) (hdb : (x == ("__debug__" : Str)) = false := by decide)
    (hall : KwAll kws pos ks := by intro _; exact ⟨rfl, rfl, rfl⟩) : WE C (.Call (.Name x p) [] kws pos) ρ μ E Q := fun X σ H w A pins s I => by
  obtain ⟨f, fd, F1, MK, hm, hb⟩ := F.at_ A.has
  refine wpAny_Call_Name_kw (ld_glob I (by show X.env.scope.names.lookup x = _; rw [A.has.sc]; exact hg) hm ?_ hdb)
  obtain ⟨k1, k2, k3⟩ := hall X.env
  have hz : tK X kws σ H fun vs H1 => ∃ xs μ1 w1, RepXs C.K μ1 H1 w1 xs vs ∧ At C X E ρ μ1 σ H1 w1 ∧ Stp μ H w μ1 H1 w1 ∧ xs.length = ks.length ∧ MakeG c Cl (perm ix [] xs) μ1 Q fun Cl fl μ2 => E Cl fl ρ μ2 := h.go A fun vs H1 xs μ1 w1 rs A1 S1 q => ⟨xs, μ1, w1, rs, A1, S1, q⟩
  refine PySem.W.callWith_KW0 (h₀ := X.base) I.ok.mod.kin MK.kp k1 (thn (hz pos pins s I) fun ws s1 ⟨zs, H1, I1, rz, xs, μ1, w1, rs, A1, S1, l1, q⟩ => ⟨I1.kIn, ?_⟩) (by rw [k3]; rfl)
  rw [k2]
  have l2 : ws.length = ks.length := by rw [← rz.length, ← rs.length]; exact l1
  refine EP_from S1 (run_mk A1 MK F1 hk (us2 := perm ix [] ws) (fun s u ki => ?_) I1 (perm_rel .nil rz ix) (fun a dx h1 h2 h3 => MakeG.sp q A1.M (perm_rel .nil rs ix) (fun v H' h => h) (fun Cl fl d H' μ' w' h1 h2 h3 h4 => ⟨Cl, fl, μ', w', rfl, h1, h2, h3, h4⟩) h1 h2 h3) (fun J hq => xe_at A1 J hq))
  have b := hb.to s [u] ws ki rfl l2
  rw [perm_self] at b
  exact b
/-- o.m(k = v, ..) -/
theorem we_methK0 [Calm C] {pl : PySem.Env → Sem Bool} (F : MtK C k Cl m ps c 1 ks (0 :: ix.map (· + 1))) (hk : k ≤ C.room) (h : WE C o ρ μ E fun x μ1 => ∃ fs ds, x = .d (.ins Cl fs ds) ∧ m ∉ fs ∧ WK C kws ρ μ1 E fun zs μ2 => zs.length = ks.length ∧ Calls c (.d (.ins Cl fs ds) :: perm ix [] zs) μ2 Q fun C2 fl μ3 => E C2 fl ρ μ3)
    (hall : KwAll kws cpos ks := by intro _; exact ⟨rfl, rfl, rfl⟩) (ht : ∀ env, MethForm o m [] kws apos cpos (pl env) env := by intro _; rfl) : WE C (.Call (.Attribute o m apos) [] kws cpos) ρ μ E Q := fun X σ H w A pins s I => by
  obtain ⟨f, fd, F1, hm, hb⟩ := F.at_ A.has
  have ho : tE X o σ H fun v H1 => ∃ x μ1 w1, RepX C.K μ1 H1 w1 x v ∧ At C X E ρ μ1 σ H1 w1 ∧ Stp μ H w μ1 H1 w1 ∧ ∃ fs ds, x = .d (.ins Cl fs ds) ∧ m ∉ fs ∧ WK C kws ρ μ1 E fun zs μ2 => zs.length = ks.length ∧ Calls c (.d (.ins Cl fs ds) :: perm ix [] zs) μ2 Q fun C2 fl μ3 => E C2 fl ρ μ3 := h.go A fun v H1 x μ1 w1 r1 A1 S1 q => ⟨x, μ1, w1, r1, A1, S1, q⟩
  refine PySem.W.methodCall_KW (pl := pl X.env) (thn (ho pins s I) fun u s1 ⟨v, H1, I1, rx, x, μ1, w1, r1, A1, S1, fs, ds, ex, hf, q⟩ => ?_) (ht X.env)
  subst ex
  obtain ⟨a, dx, gs, rfl, nl, e1, g1, rr⟩ := id r1
  obtain rfl : u = Value.ref a := rx
  refine getmeth_ok I1 e1 (by rw [A.has.K]; exact F.cls) hm (lookup_noneOf (by rw [g1]; exact hf)) ?_
  obtain ⟨k1, k2, k3⟩ := hall X.env
  have hz : tK X kws σ H1 fun vs H2 => ∃ xs μ2 w2, RepXs C.K μ2 H2 w2 xs vs ∧ At C X E ρ μ2 σ H2 w2 ∧ Stp μ1 H1 w1 μ2 H2 w2 ∧ xs.length = ks.length ∧ Calls c (.d (.ins Cl fs ds) :: perm ix [] xs) μ2 Q fun C2 fl μ3 => E C2 fl ρ μ3 := q.go A1 fun vs H2 xs μ2 w2 rs A2 S2 q => ⟨xs, μ2, w2, rs, A2, S2, q⟩
  refine PySem.W.callWith_KW0 (first := [.ref a]) (h₀ := X.base) I.ok.mod.kin hm.kp k1 (thn (hz cpos pins s1 I1) fun ws s2 ⟨zs, H2, I2, rz, xs, μ2, w2, rs, A2, S2, l1, q2⟩ => ⟨I2.kIn, ?_⟩) (by rw [k3]; rfl)
  rw [k2]
  refine EP_from (S1.trans S2) (run_atK (us := [.ref a]) (vs := [.ref a]) A2 F1 hk hb I2 (.cons rfl .nil) rz rfl (rs.length.symm.trans l1) ?_)
  rw [perm_self]
  exact Calls.sp F.wf q2 A2.M (.cons (r1.stp S2) (perm_rel .nil rs ix)) (fun v H' h => h) fun Cl fl d H' μ' w' h1 h2 h3 h4 => ⟨Cl, fl, μ', w', rfl, h1, h2, h3, h4⟩
end
/-! ### isinstance -/
section
variable {C : SC} {E : EPost} {ρ : Env} {μ : Mem} {Q : XV → Mem → Prop} {x : Str} {pos : Pos}
theorem we_bty {T : String} (hg : C.Glob x) (hm : C.mg x = none) (hv : bootBuiltins x = some (.type T)) (q : Q (.d (.ty T)) μ) (hn : x ≠ "__name__" := by decide) (hd : (x == ("__debug__" : Str)) = false := by decide) : WE C (.Name x pos) ρ μ E Q := fun X σ H w A =>
  tE_of (pe_bltn (v := .ty T) (by show X.env.scope.names.lookup x = _; rw [A.has.sc]; exact hg) (by rw [A.has.mg]; exact hm) hv rfl hn hd) (lift.now A.M (x := .d (.ty T)) rfl q)
/-- an own class, as isinstance takes it -/
structure IsiC (K : PySem.W.Frag) (Cl : Addr) : Prop where
  cl : Cls K Cl
  ha : PySem.W.findIn K (.ref Cl) "__class__" = some (some (.builtin "object.__class__"))
  hn : PySem.W.specialIn K (.builtin "object.__class__") "__get__" = some (some (.builtin "getset_descriptor.__get__"))
  htk : PySem.W.takesIn K (.builtin "object.__class__") = some true
  hm : PySem.W.mroIn K Cl (.type "object") = some true
inductive TyD2 (K : PySem.W.Frag) : XV → Value → Prop where
  | non : TyD2 K (.d .non) (.type "NoneType")
  | bl (b : Bool) : TyD2 K (.d (.bl b)) (.type "bool")
  | int (i : Int) : TyD2 K (.d (.int i)) (.type "int")
  | txt (l : List Nat) : TyD2 K (.d (.txt l)) (.type "str")
  | lst (ds : List D) : TyD2 K (.d (.lst ds)) (.type "list")
  | tup (ds : List D) : TyD2 K (.d (.tup ds)) (.type "tuple")
  | ins {Cl : Addr} (fs : List Str) (ds : List D) : IsiC K Cl → TyD2 K (.d (.ins Cl fs ds)) (.ref Cl)
  | dct (ks : List Key) (ds : List D) : TyD2 K (.d (.dct ks ds)) (.type "dict")
theorem TyD2.tx {K : PySem.W.Frag} {H : Hp} {w : IA} {y : XV} {v : V} {t : Value} (h : TyD2 K y t) (r : RepX K μ H w y v) : TyX K H v t := by
  cases h with
  | non => rw [show v = V.non from r]; exact .base .non
  | bl b => rw [show v = V.bl b from r]; exact .base (.bl b)
  | int i => rw [show v = V.int i from r]; exact .base (.int i)
  | txt l => rw [show v = V.str (SX.S l) from r]; exact .base (.str _)
  | lst ds => obtain ⟨a, xs, rfl, _, e, _⟩ := r; exact .base (.lst e)
  | tup ds => obtain ⟨a, xs, rfl, _, e, _⟩ := r; exact .base (.tup e)
  | ins fs ds q => obtain ⟨a, dx, gs, rfl, _, e, _⟩ := r; exact .base (.ins e q.cl q.ha q.hn q.htk q.hm)
  | dct ks ds => obtain ⟨a, o, kvs, rfl, _, e, _⟩ := r; exact .fDict e
theorem gc_isi {y : XV} {T : String} {t : Value} {b : Bool} (ty : TyD2 C.K y t) (hk : PySem.W.kitOne C.K t (.type T) = some b) (q : Q (.d (.bl b)) μ) : GoC C (.builtin "isinstance") [y, .d (.ty T)] μ Q := fun X hX H w vs M rs => by
  obtain ⟨v, u, rfl, r, r2⟩ := rs.two
  exact cS_of call_isi ⟨v, u, t, .type T, b, rfl, by rw [show u = V.ty T from r2]; exact .ty T, by rw [hX.K]; exact ty.tx r, by rw [hX.K]; exact hk, lift.now M (x := .d (.bl b)) rfl q⟩
theorem gc_isiC {y : XV} {Cl : Addr} {t : Value} {b : Bool} (ty : TyD2 C.K y t) (hk : PySem.W.kitOne C.K t (.ref Cl) = some b) (q : Q (.d (.bl b)) μ) : GoC C (.builtin "isinstance") [y, .d (.ref Cl)] μ Q := fun X hX H w vs M rs => by
  obtain ⟨v, u, rfl, r, r2⟩ := rs.two
  exact cS_of call_isi ⟨v, u, t, .ref Cl, b, rfl, by rw [show u = V.ref Cl from r2]; exact .own Cl, by rw [hX.K]; exact ty.tx r, by rw [hX.K]; exact hk, lift.now M (x := .d (.bl b)) rfl q⟩
/-! ### repr -/
theorem call_repr_dp {X : Cx} (hg : X.A.guards = some []) (hu : X.A.units + 65 < cLine) : CallR X (.builtin "repr") (fun xs H Q => ∃ (a : Addr) (d : PyData), xs = [.ref a] ∧ Dp X.K H (.ref a) d ∧ SeqAt.shaped d = true ∧ d.showable = true ∧ d.shown.length ≤ sizeLine ∧ Q (.str d.shown) H) := by
  intro pins s σ H xs us Q I r h
  obtain ⟨a, d, rfl, dp, sh, hs, hz, q⟩ := h
  obtain ⟨u, rfl, r1⟩ : ∃ u, us = [u] ∧ RelV (.ref a) u := by
    cases r with
    | cons r t => cases t; exact ⟨_, rfl, r⟩
  obtain rfl : u = Value.ref a := r1
  obtain ⟨as, rd⟩ := Dp.reads I d (.ref a) (.ref a) dp rfl
  unfold SeqAt.shaped at sh
  rw [Bool.and_eq_true] at sh
  refine PySem.repr_of_reads' rd hs (PyData.noDict_hsm (PyData.hasDict_of_canLay d sh.1)) hg (by have := of_decide_eq_true sh.2; omega) (fun _ _ e => e) (fun h' u tk hk => ⟨.str d.shown, H, I.kept hk, ⟨u, rfl⟩, q⟩) hz
def D.isSeq : D → Prop
  | .lst _ => True
  | .tup _ => True
  | _ => False
theorem gc_repr {x : D} (hg : C.g = true) (hx : x.okEq) (hd : x.isSeq) (hs : x.py.showable = true) (hz : x.py.shown.length ≤ sizeLine) (q : Q (.d (.txt x.py.shown.cps.toList)) μ) : GoC C (.builtin "repr") [.d x] μ Q := fun X hX H w vs M rs => by
  obtain ⟨v, rfl, r⟩ := rs.one
  have dp := Rep.dp x v hx.1 r
  obtain ⟨a, rfl⟩ : ∃ a, v = .ref a := by
    cases x <;> first | exact hd.elim | (obtain ⟨a, _, e, _⟩ := r; exact ⟨a, e⟩)
  exact cS_of (call_repr_dp (hX.gd hg) (by have := hX.un; omega)) ⟨a, x.py, rfl, by rw [hX.K]; exact dp, hx.shaped, hs, hz, lift.now M (x := .d (.txt _)) (by show V.str _ = V.str (SX.S _); rw [SX.S_tl]) q⟩
end
end DL
set_option maxRecDepth 100000
set_option maxHeartbeats 2000000
namespace DL
open PySem L2 PySem.Spec PyProof.Rows
/-! ### comprehensions that change nothing -/
section
variable {C : SC} {E : EPost} {ρ : Env} {μ : Mem} {Q : XV → Mem → Prop} {scope : Scope} {t : Tg} {elt c : Expr} {vs : List Nat} {items : List XV} {G : Mem → Prop}
theorem lc_map (g : XV → D) (hz : items.length ≤ sizeLine) (hG : G μ) (h : ∀ x ∈ items, ∃ ρ', t.put x (wipeE ρ vs) ρ' ∧ WE (C.blk scope) elt ρ' μ noE fun y μ3 => y = .d (g x) ∧ μ3 = μ) (q : Q (.d (.lst (items.map g))) μ) : LcI C scope t [] elt vs ρ Q items G μ := by
  refine ⟨hz, fun i acc μ' => acc = (items.take i).map g ∧ μ' = μ, ⟨by simp, rfl⟩, fun i acc μ' _ hp => by rw [hp.2]; exact hG, fun i x acc μ' hx hp => ?_, fun acc μ' hp => ?_⟩
  · obtain ⟨rfl, rfl⟩ := hp
    obtain ⟨ρ', h1, h2⟩ := h x (List.mem_of_getElem? hx)
    refine ⟨ρ', h1, ⟨fun _ => h2.cont fun y μ3 hy => ⟨g x, hy.1, ?_, hy.2⟩, fun z => nomatch z⟩⟩
    rw [List.take_succ, hx]
    simp
  · obtain ⟨rfl, rfl⟩ := hp
    rw [List.take_length]
    exact q
theorem lc_filter (g : XV → D) (p : XV → Bool) (hz : items.length ≤ sizeLine) (hG : G μ) (h : ∀ x ∈ items, ∃ ρ', t.put x (wipeE ρ vs) ρ' ∧ WT (C.blk scope) c ρ' μ noE (fun k μ2 => k = p x ∧ μ2 = μ) ∧ (p x = true → WE (C.blk scope) elt ρ' μ noE fun y μ3 => y = .d (g x) ∧ μ3 = μ)) (q : Q (.d (.lst ((items.filter p).map g))) μ) : LcI C scope t [c] elt vs ρ Q items G μ := by
  refine ⟨hz, fun i acc μ' => acc = ((items.take i).filter p).map g ∧ μ' = μ, ⟨by simp, rfl⟩, fun i acc μ' _ hp => by rw [hp.2]; exact hG, fun i x acc μ' hx hp => ?_, fun acc μ' hp => ?_⟩
  · obtain ⟨rfl, rfl⟩ := hp
    obtain ⟨ρ', h1, h2, h3⟩ := h x (List.mem_of_getElem? hx)
    refine ⟨ρ', h1, ?_⟩
    show WT _ _ _ _ _ _
    refine h2.cont fun k μ2 hk => ?_
    obtain ⟨rfl, rfl⟩ := hk
    refine ⟨fun hp => (h3 hp).cont fun y μ3 hy => ⟨g x, hy.1, ?_, hy.2⟩, fun hp => ⟨?_, rfl⟩⟩
    · rw [List.take_succ, hx, List.filter_append]
      simp [hp]
    · rw [List.take_succ, hx, List.filter_append]
      simp [hp]
  · obtain ⟨rfl, rfl⟩ := hp
    rw [List.take_length]
    exact q
/-- by an invariant over the cells; the turn's place is known -/
theorem lc_inv (P : Nat → List D → Mem → Prop) (hz : items.length ≤ sizeLine) (h0 : P 0 [] μ) (hG : ∀ i acc μ', i ≤ items.length → P i acc μ' → G μ') (h : ∀ (i : Nat) x acc μ', items[i]? = some x → P i acc μ' → ∃ ρ', t.put x (wipeE ρ vs) ρ' ∧ WE (C.blk scope) elt ρ' μ' noE fun y μ3 => ∃ d, y = .d d ∧ P (i + 1) (acc ++ [d]) μ3)
    (q : ∀ acc μ', P items.length acc μ' → Q (.d (.lst acc)) μ') : LcI C scope t [] elt vs ρ Q items G μ :=
  ⟨hz, P, h0, hG, fun i x acc μ' hx hp => by obtain ⟨ρ', h1, h2⟩ := h i x acc μ' hx hp; exact ⟨ρ', h1, fun _ => h2, fun z => nomatch z⟩, q⟩
end
theorem rng_len (lo : Int) (n : Nat) : (rng lo n).length = n := by unfold rng; simp
theorem rng_get {lo : Int} {n i : Nat} {x : XV} (h : (rng lo n)[i]? = some x) : i < n ∧ x = .d (.int (lo + (i : Nat))) := by
  have hi := (List.getElem?_eq_some_iff.mp h).1
  rw [rng_len] at hi
  unfold rng at h
  rw [List.getElem?_map, List.getElem?_range hi] at h
  cases h
  exact ⟨hi, rfl⟩
theorem rng_mem {lo : Int} {n : Nat} {x : XV} (h : x ∈ rng lo n) : ∃ i : Nat, i < n ∧ x = .d (.int (lo + (i : Nat))) := by
  obtain ⟨i, hi, e⟩ := List.mem_iff_getElem.mp h
  exact ⟨i, by rw [rng_len] at hi; exact hi, (rng_get (List.getElem?_eq_some_iff.mpr ⟨hi, e⟩)).2⟩
/-! ### the end: a law -/
theorem ints_vals : ∀ {vs : List Value} {ns : List Int}, IntsAre vs ns → Vals (ns.map V.int) vs
  | _, _, .nil => .nil
  | _, _, .cons _ t h => .cons ⟨t, rfl⟩ (ints_vals h)
theorem law_run {P : Program} {wd : World} {K : PySem.W.Frag} {mg mb : Str → Option Value} {k : Nat} {fa a : Addr} {fd : FuncData} {x : Str} {sp : Sp} {s1 : Shared} {vs : List Value} {ns : List Int}
    (KX : K.In s1.heap) (nm : s1.heap.Ns mainGlobals mg) (nb : s1.heap.Ns builtinsNs mb) (boot : ∀ x : Str, x ≠ "__name__" → mb x = bootBuiltins x) (noL : s1.heap.NoLimit) (noG : s1.gens = #[])
    (ga : s1.heap.get? a = some { cls := .type "list", data := .seq vs.toArray }) (iv : IntsAre vs ns) (len : ns.length ≤ sizeLine) (room : Room k callerA)
    (F : ∀ base : Heap, K.In base → base.Ns mainGlobals mg → FnG P wd K mg base true k fa fd [x] sp) (bind : ∀ (s : Shared) (u : Value), BindsTo s fd ⟨[u], []⟩ [(x, u)])
    (ask : ∀ H : Hp, Only H → SqL K H a (ns.map V.int) → sp [.ref a] H (fun v _ => v = .bl true) fun _ _ _ => False) (noX : ∀ H e s', L2.CX P wd [] H s1 (fun _ _ _ => False) e s' → False) :
    codeAny (model P wd) callerA (.call (.ref fa) ⟨[.ref a], []⟩) (fun r s' => r = .ok (.ret (.bool true)) ∧ OldK s1.heap s'.heap ∧ s'.os = s1.os ∧ AllBare s'.gens) s1 := by
  have rv := ints_vals iv
  -- over a tracked heap that knows of the script at most
  suffices main : ∀ T : Hp, Only T → SqL K T a (ns.map V.int) → HOk P wd T s1.heap → (∀ b, T b ≠ none → b = a) → (T a ≠ none → K.lookup a = none) →
      codeAny (model P wd) callerA (.call (.ref fa) ⟨[.ref a], []⟩) (fun r s' => r = .ok (.ret (.bool true)) ∧ OldK s1.heap s'.heap ∧ s'.os = s1.os ∧ AllBare s'.gens) s1 by
    cases inK : K.lookup a with
    | some o =>
      have same := KX a o inK
      rw [ga] at same
      injection same with same
      subst same
      have lv : vs.toArray.size ≤ sizeLine := by rw [List.size_toArray, iv.length]; exact len
      exact main (fun _ => none) (fun _ => Or.inl rfl) (Or.inr ⟨_, vs.toArray, _, inK, rfl, rfl, rfl, lv, by simpa using rv⟩) (fun b u z => nomatch z) (fun b z => (z rfl).elim) fun z => (z rfl).elim
    | none =>
      let T : Hp := fun b => if b = a then some (.frz { cls := .type "list", data := .seq vs.toArray } (.lst (ns.map V.int))) else none
      have Ta : T a = some (.frz { cls := .type "list", data := .seq vs.toArray } (.lst (ns.map V.int))) := if_pos rfl
      have To : ∀ {b : Addr}, b ≠ a → T b = none := fun h => if_neg h
      have Tn : ∀ b, T b ≠ none → b = a := fun b z => Classical.byContradiction fun h => z (To h)
      refine main T (fun b => ?_) (Or.inl (Or.inr ⟨_, Ta⟩)) (fun b u z => ?_) Tn fun _ => inK
      · rcases Classical.em (b = a) with rfl | h
        · exact Or.inr ⟨_, _, Ta⟩
        · exact Or.inl (To h)
      · obtain rfl := Tn b (by rw [z]; simp)
        rw [Ta] at z
        injection z with z
        subst z
        exact ⟨ga, by rw [List.length_map]; exact len, vs, _, rv, ga⟩
  intro T only sq hok onlyA notK
  have keepB : ∀ {b : Addr} {o : Obj}, s1.heap.get? b = some o → T b = none → (hidT s1.heap T).get? b = some o := fun e n => hidT_get e n
  have noDict : ∀ {b : Addr} {o : Obj} {es : Array DictEntry} {ep : Nat}, s1.heap.get? b = some o → o.data = .dict es ep → T b = none := fun {b o es ep} e d => by
    refine Classical.byContradiction fun h => ?_
    obtain rfl := onlyA b h
    rw [ga] at e
    injection e with e
    subst e
    exact nomatch d
  have nsB : ∀ {b : Addr} {m : Str → Option Value}, s1.heap.Ns b m → (hidT s1.heap T).Ns b m := fun {b m} ⟨o, es, ep, e, d, r⟩ => ⟨o, es, ep, keepB e (noDict e d), d, r⟩
  have KB : K.In (hidT s1.heap T) := fun b o e => keepB (KX b o e) (Classical.byContradiction fun h => by
    obtain rfl := onlyA b h
    rw [notK h] at e
    exact nomatch e)
  obtain ⟨mc, lim1, lim2⟩ := noL
  have md : Mod K mg (hidT s1.heap T) := ⟨KB, nsB nm, ⟨mb, nsB nb, boot⟩, ⟨mc, nsB lim1, lim2⟩⟩
  have e0 : Env0 P wd K mg (hidT s1.heap T) callerA [] s1 T := ⟨rfl, md, fun b o e => of_hidT e, Nat.le_of_eq (hidT_size _ _), trivial, fun b hb => (List.not_mem_nil hb).elim, hok, .of_eq noG⟩
  have run := (F _ KB (nsB nm)).run callerA [] s1 T ⟨[.ref a], []⟩ [.ref a] [.ref a] _ _ (fun _ => rfl) room e0 (bind s1 (.ref a)) (.cons rfl .nil) (ask T only sq)
  refine codeAny_mono run fun r s' q => ?_
  match r, q with
  | .error e, q => exact (noX T e s' q).elim
  | .ok (.ret u), ⟨v, T', os, bare, un, hok', rel, hv⟩ =>
    subst hv
    obtain rfl : u = Value.bool true := rel
    refine ⟨rfl, OldK.of_keep fun b o e => ?_, os, bare⟩
    rcases only b with z | ⟨ob, xs, z⟩
    · exact un.keep b o e z (fun h => List.not_mem_nil h) (fun h => List.not_mem_nil h)
    · obtain ⟨e1, _⟩ := hok b _ z
      obtain ⟨e2, _⟩ := hok' b _ (un.frzs b ob _ z)
      rw [e] at e1
      rw [e1]
      exact e2
  | .ok .next, q => exact q.elim
  | .ok .brk, q => exact q.elim
  | .ok .cont, q => exact q.elim
/-- what a law's contract is: a script comes in, True comes out -/
def cLaw (most : Nat) : Con where
  α := List Int
  args := fun ns => [.d (.scr ns)]
  mem := fun _ => []
  pre := fun ns => ns.length ≤ most
  out := fun _ o => o = .ret (.d (.bl true)) []
theorem wf_cLaw (most : Nat) : (cLaw most).Wf := by
  refine ⟨fun a _ x hx => ?_, fun a _ m hm => (List.not_mem_nil hm).elim, fun a o _ ho => by cases ho; exact Nat.le_refl _⟩
  have hx' : x ∈ [XV.d (.scr a)] := hx
  simp only [List.mem_cons, List.not_mem_nil, or_false] at hx'
  subst hx'
  trivial
theorem mok_nil {K : PySem.W.Frag} {H : Hp} : MOk K [] H ⟨[], fun _ => False⟩ :=
  ⟨rfl, fun i j mi mj b e => by simp at e, fun n m b e => by simp at e, fun n m b e => by simp at e, fun b f => f.elim⟩
theorem no_live_nil {F : Addr → Prop} {b : Addr} (hF : ¬ F b) : ¬ Live [] ⟨[], F⟩ b := by
  rintro (f | ⟨n, m, e, _⟩)
  · exact hF f
  · simp at e
theorem law_sp {K : PySem.W.Frag} {H : Hp} {a : Addr} {ns : List Int} {most : Nat} (hl : ns.length ≤ most) (hS : SqL K H a (ns.map V.int)) : toSp K (cLaw most) [.ref a] H (fun v _ => v = .bl true) fun _ _ _ => False := by
  refine ⟨ns, ⟨[], fun _ => False⟩, hl, .cons ⟨a, rfl, ?_⟩ .nil, mok_nil, fun x μ' e v H' w' r _ _ => ?_, fun Cl fl μ' e => nomatch e⟩
  · rcases hS with h | h
    · exact .inl ⟨no_live_nil id, h⟩
    · exact .inr h
  · injection e with e1 e2
    subst e1
    exact r
theorem walk_dl {l : PySem.W.OpenLaw} {n k : Nat} {q : Program} {loose : List Str} {XP : (Str → Option Value) → Heap → Prop} {YP : World → Heap → Prop} {d : DefRec} {K : Params → PySem.W.Frag} {x : Str}
    (most : l.most = some n) (small : n ≤ sizeLine) (noDef : d.params.defaults = []) (room : Room k callerA) (inK : ∀ (w : World) (h : Heap), YP w h → (K w.params).In h)
    (F : ∀ (w : World) (mg : Str → Option Value) (fa : Addr) (h : Heap), (K w.params).In h → h.Ns mainGlobals mg → mg d.name = some (.ref fa) →
      ∃ fd : FuncData, (∀ (s : Shared) (u : Value), BindsTo s fd ⟨[u], []⟩ [(x, u)]) ∧ ∀ base : Heap, (K w.params).In base → base.Ns mainGlobals mg → FnG l.prog w (K w.params) mg base true k fa fd [x] (toSp (K w.params) (cLaw n))) :
    PySem.W.WalkO q loose XP YP l.row.toRowW d [] (fun f vs => PySem.call f vs) := by
  refine Att.attach_call most noDef fun w s₀ s₁ mg mb fa o pm cd doc a vs ns G Y ho hd hcd hmg hobj hints hlen hg => ?_
  have KX := inK w _ Y
  obtain ⟨fd, hb, hF⟩ := F w mg fa _ KX G.T.g hmg
  refine law_run KX G.T.g G.T.b G.T.builtins G.T.nolimit hg hobj hints (Nat.le_trans hlen small) room hF hb (fun H _ hS => law_sp hlen hS) fun H e s' ⟨_, _, _, _, _, _, _, _, _, _, _, _, hE⟩ => hE
end DL
set_option maxRecDepth 100000
set_option maxHeartbeats 2000000
namespace DL
open PySem L2 PySem.Spec PyProof.Rows
/-! ### what code gives that changes nothing -/
def PV (C : SC) (e : Expr) (ρ : Env) (μ : Mem) (E : EPost) (x : XV) : Prop := ∀ Q : XV → Mem → Prop, Q x μ → WE C e ρ μ E Q
def PB (C : SC) (e : Expr) (ρ : Env) (μ : Mem) (E : EPost) (b : Bool) : Prop := ∀ Q : Bool → Mem → Prop, Q b μ → WT C e ρ μ E Q
def PW (C : SC) (e : Expr) (ρ : Env) (μ : Mem) (E : EPost) (b : Bool) : Prop := ∀ Q : Bool → Mem → Prop, Q b μ → WW C e ρ μ E Q
def PA (C : SC) (es : List Expr) (ρ : Env) (μ : Mem) (E : EPost) (xs : List XV) : Prop := ∀ Q : List XV → Mem → Prop, Q xs μ → WA C es ρ μ E Q
def PK (C : SC) (kws : List Keyword) (ρ : Env) (μ : Mem) (E : EPost) (xs : List XV) : Prop := ∀ Q : List XV → Mem → Prop, Q xs μ → WK C kws ρ μ E Q
def PO (C : SC) (e : Option Expr) (ρ : Env) (μ : Mem) (E : EPost) (o : Option Int) : Prop := ∀ Q : Option Int → Mem → Prop, Q o μ → WO C e ρ μ E Q
section
variable {C : SC} {E : EPost} {ρ : Env} {μ : Mem} {a b c e : Expr} {es rest : List Expr} {kws : List Keyword} {pos p p2 apos cpos kpos : Pos} {x : Str} {Q : XV → Mem → Prop} {QT : Bool → Mem → Prop} {v : XV} {j : Nat}
theorem PV.go (h : PV C e ρ μ E v) (q : Q v μ) : WE C e ρ μ E Q := h Q q
theorem PB.go {k : Bool} (h : PB C e ρ μ E k) (q : QT k μ) : WT C e ρ μ E QT := h QT q
theorem PB.ite {k : Bool} {body orelse : List Stmt} {D : DEnds} (h : PB C c ρ μ E k) (h1 : k = true → WS C body ρ μ E D) (h2 : k = false → WS C orelse ρ μ E D) : WS1 C (.If c body orelse pos) ρ μ E D := w1_if (h.go ⟨h1, h2⟩)
theorem PV.eq {v' : XV} (h : PV C e ρ μ E v) (e1 : v = v') : PV C e ρ μ E v' := e1 ▸ h
theorem PB.eq {k k' : Bool} (h : PB C e ρ μ E k) (e1 : k = k') : PB C e ρ μ E k' := e1 ▸ h
theorem p_var (i : Nat) (hN : C.N[i]? = some x) (hv : C.Vis x) (h : ρ[i]? = some (some v)) (hd : (x == ("__debug__" : Str)) = false := by decide) (hcd : (x == ("__classdict__" : Str)) = false := by decide) : PV C (.Name x pos) ρ μ E v := fun _ q => we_var i hN hv h q hd hcd
theorem p_int {i : Int} : PV C (.Constant (.int i) j pos) ρ μ E (.d (.int i)) := fun _ q => we_int q
theorem p_bl {i : Bool} : PV C (.Constant (.bool i) j pos) ρ μ E (.d (.bl i)) := fun _ q => we_bl q
theorem p_non : PV C (.Constant .none j pos) ρ μ E (.d .non) := fun _ q => we_non q
theorem p_txt {s : Str} {l : List Nat} (hs : s.cps.toList = l) : PV C (.Constant (.str s) j pos) ρ μ E (.d (.txt l)) := fun _ q => we_txt hs q
theorem p_globT {s : Str} {t : Tok} {l : List Nat} (hg : C.Glob x) (hm : C.mg x = some (.str s t)) (hs : s.cps.toList = l) (hd : (x == ("__debug__" : Str)) = false := by decide) : PV C (.Name x pos) ρ μ E (.d (.txt l)) := fun _ q => we_globT hg hm hs q hd
theorem p_globI {i : Int} {t : Tok} (hg : C.Glob x) (hm : C.mg x = some (.int i t)) (hd : (x == ("__debug__" : Str)) = false := by decide) : PV C (.Name x pos) ρ μ E (.d (.int i)) := fun _ q => we_globI hg hm q hd
theorem p_globR {f : Addr} (hg : C.Glob x) (hm : C.mg x = some (.ref f)) (hd : (x == ("__debug__" : Str)) = false := by decide) : PV C (.Name x pos) ρ μ E (.d (.ref f)) := fun _ q => we_globR hg hm q hd
theorem p_bty {T : String} (hg : C.Glob x) (hm : C.mg x = none) (hv : bootBuiltins x = some (.type T)) (hn : x ≠ "__name__" := by decide) (hd : (x == ("__debug__" : Str)) = false := by decide) : PV C (.Name x pos) ρ μ E (.d (.ty T)) := fun _ q => we_bty hg hm hv q hn hd
theorem pa_nl : PA C [] ρ μ E [] := fun _ q => wa_nil q
theorem pa_cs {xs : List XV} (h : PV C e ρ μ E v) (k : PA C es ρ μ E xs) (hs : ∀ env, starEach (e :: es) env = (false, eval e env) :: starEach es env := by intro _; rfl) : PA C (e :: es) ρ μ E (v :: xs) := fun _ q => wa_cons (h.go (k _ q)) hs
theorem pk_nl : PK C [] ρ μ E [] := fun _ q => wk_nil q
theorem pk_cs {xs : List XV} {nm : Option Str} (h : PV C e ρ μ E v) (k : PK C kws ρ μ E xs) : PK C (⟨nm, e, kpos⟩ :: kws) ρ μ E (v :: xs) := fun _ q => wk_cons (h.go (k _ q))
section
variable {i k : Int} {s t : List Nat} {ds es' : List D} {op : Operator} {x1 x2 : XV}
theorem p_bin {z : XV} (h1 : PV C a ρ μ E x1) (h2 : PV C b ρ μ E x2) (h : ∀ Q : XV → Mem → Prop, Q z μ → Go2 C (binaryOp op) x1 x2 μ Q) : PV C (.BinOp a op b pos) ρ μ E z := fun Q q => we_bin (h1 _ (h2 _ (h Q q)))
theorem p_addI (h1 : PV C a ρ μ E (.d (.int i))) (h2 : PV C b ρ μ E (.d (.int k))) : PV C (.BinOp a .Add b pos) ρ μ E (.d (.int (i + k))) := p_bin h1 h2 fun _ q => go_add_int q
theorem p_subI (h1 : PV C a ρ μ E (.d (.int i))) (h2 : PV C b ρ μ E (.d (.int k))) : PV C (.BinOp a .Sub b pos) ρ μ E (.d (.int (i - k))) := p_bin h1 h2 fun _ q => go_sub_int q
theorem p_mulI (h1 : PV C a ρ μ E (.d (.int i))) (h2 : PV C b ρ μ E (.d (.int k))) (hc : CMul i k) : PV C (.BinOp a .Mult b pos) ρ μ E (.d (.int (i * k))) := p_bin h1 h2 fun _ q => go_mul_int hc q
theorem p_fdivI (h1 : PV C a ρ μ E (.d (.int i))) (h2 : PV C b ρ μ E (.d (.int k))) (hc : CDiv i k) : PV C (.BinOp a .FloorDiv b pos) ρ μ E (.d (.int (i / k))) := p_bin h1 h2 fun _ q => go_fdiv_int hc q
theorem p_modI (h1 : PV C a ρ μ E (.d (.int i))) (h2 : PV C b ρ μ E (.d (.int k))) (hc : 0 < k) : PV C (.BinOp a .Mod b pos) ρ μ E (.d (.int (i % k))) := p_bin h1 h2 fun _ q => go_mod_int hc q
theorem p_powI (h1 : PV C a ρ μ E (.d (.int i))) (h2 : PV C b ρ μ E (.d (.int k))) (hc : CPow i k) : PV C (.BinOp a .Pow b pos) ρ μ E (.d (.int (i ^ k.toNat))) := p_bin h1 h2 fun _ q => go_pow_int hc q
theorem p_negI (h1 : PV C a ρ μ E (.d (.int i))) : PV C (.UnaryOp .USub a pos) ρ μ E (.d (.int (-i))) := fun _ q => we_un (h1 _ (go_neg q))
theorem p_addT (h1 : PV C a ρ μ E (.d (.txt s))) (h2 : PV C b ρ μ E (.d (.txt t))) (hz : s.length + t.length ≤ sizeLine) : PV C (.BinOp a .Add b pos) ρ μ E (.d (.txt (s ++ t))) := p_bin h1 h2 fun _ q => go_add_txt hz q
theorem p_mulT (h1 : PV C a ρ μ E (.d (.txt s))) (h2 : PV C b ρ μ E (.d (.int k))) (hb : -(2 ^ 30) < k ∧ k < 2 ^ 30) (hz : s.length * k.toNat ≤ sizeLine) : PV C (.BinOp a .Mult b pos) ρ μ E (.d (.txt (repT s k))) := p_bin h1 h2 fun _ q => go_mul_txt hb.2 hb.1 hz q
theorem p_addL (h1 : PV C a ρ μ E (.d (.lst ds))) (h2 : PV C b ρ μ E (.d (.lst es'))) (hz : ds.length + es'.length ≤ sizeLine) : PV C (.BinOp a .Add b pos) ρ μ E (.d (.lst (ds ++ es'))) := p_bin h1 h2 fun _ q => go_add_lst hz q
theorem p_mulL (h1 : PV C a ρ μ E (.d (.lst ds))) (h2 : PV C b ρ μ E (.d (.int k))) (hb : -(2 ^ 63) ≤ k ∧ k < 2 ^ 63) (hz : ds.length * k.toNat ≤ sizeLine) : PV C (.BinOp a .Mult b pos) ρ μ E (.d (.lst (List.replicate k.toNat ds).flatten)) := p_bin h1 h2 fun _ q => go_mul_lst hb.1 hb.2 hz q
/-! comparisons: as values and as tests -/
theorem p_cmp {op : CmpOp} {r : Bool} (h1 : PV C a ρ μ E x1) (h2 : PV C b ρ μ E x2) (h : ∀ Q : XV → Mem → Prop, Q (.d (.bl r)) μ → Go2 C (compareOp op) x1 x2 μ Q) (hm : behindInMarks op b = false := by first | rfl | exact nobehind _ (by decide) (by decide)) : PV C (.Compare a [op] [b] pos) ρ μ E (.d (.bl r)) := fun Q q => we_cmp (h1 _ (h2 _ (h Q q))) hm
theorem b_cmp {op : CmpOp} {r : Bool} (h1 : PV C a ρ μ E x1) (h2 : PV C b ρ μ E x2) (h : ∀ Q : XV → Mem → Prop, Q (.d (.bl r)) μ → Go2 C (compareOp op) x1 x2 μ Q) (hm : behindInMarks op b = false := by first | rfl | exact nobehind _ (by decide) (by decide)) : PB C (.Compare a [op] [b] pos) ρ μ E r := fun Q q => wt_cmp (h1 _ (h2 _ (h _ ⟨r, rfl, q⟩))) hm
/-- what an operator answers about two values -/
def OpB (C : SC) (op : CmpOp) (x1 x2 : XV) (μ : Mem) (r : Bool) : Prop := ∀ Q : XV → Mem → Prop, Q (.d (.bl r)) μ → Go2 C (compareOp op) x1 x2 μ Q
theorem o_lt : OpB C .Lt (.d (.int i)) (.d (.int k)) μ (decide (i < k)) := fun _ q => go_lt q
theorem o_le : OpB C .LtE (.d (.int i)) (.d (.int k)) μ (decide (i ≤ k)) := fun _ q => go_le q
theorem o_gt : OpB C .Gt (.d (.int i)) (.d (.int k)) μ (decide (k < i)) := fun _ q => go_gt q
theorem o_ge : OpB C .GtE (.d (.int i)) (.d (.int k)) μ (decide (k ≤ i)) := fun _ q => go_ge q
theorem o_ltT : OpB C .Lt (.d (.txt s)) (.d (.txt t)) μ (decide (s < t)) := fun _ q => go_lt_txt q
theorem o_eqI : OpB C .Eq (.d (.int i)) (.d (.int k)) μ (decide (i = k)) := fun _ q => go_eq_int q
theorem o_neI : OpB C .NotEq (.d (.int i)) (.d (.int k)) μ (!decide (i = k)) := fun _ q => go_ne_int q
theorem o_eqB {r1 r2 : Bool} : OpB C .Eq (.d (.bl r1)) (.d (.bl r2)) μ (decide (r1 = r2)) := fun _ q => go_eq_bl q
theorem o_neB {r1 r2 : Bool} : OpB C .NotEq (.d (.bl r1)) (.d (.bl r2)) μ (!decide (r1 = r2)) := fun _ q => go_ne_bl q
theorem o_eqT : OpB C .Eq (.d (.txt s)) (.d (.txt t)) μ (decide (s = t)) := fun _ q => go_eq_txt q
theorem o_neT : OpB C .NotEq (.d (.txt s)) (.d (.txt t)) μ (!decide (s = t)) := fun _ q => go_ne_txt q
theorem o_in {n : Nat} : OpB C .In (.d (.txt [n])) (.d (.txt t)) μ (decide (n ∈ t)) := fun _ q => go_in_sign q
theorem o_nin {n : Nat} : OpB C .NotIn (.d (.txt [n])) (.d (.txt t)) μ (!decide (n ∈ t)) := fun _ q => go_nin_sign q
theorem o_eqD {d1 d2 : D} (h1 : d1.okEq) (h2 : d2.okEq) : OpB C .Eq (.d d1) (.d d2) μ (PyData.eqv d1.py d2.py) := fun _ q => go_eq_d h1 h2 q
theorem o_neD {d1 d2 : D} (h1 : d1.okEq) (h2 : d2.okEq) : OpB C .NotEq (.d d1) (.d d2) μ (!PyData.eqv d1.py d2.py) := fun _ q => go_ne_d h1 h2 q
theorem o_isN {d : D} : OpB C .Is (.d d) (.d .non) μ (match d with | .non => true | _ => false) := fun _ q => go_is_non q
theorem o_isnotN {d : D} : OpB C .IsNot (.d d) (.d .non) μ (match d with | .non => false | _ => true) := fun _ q => go_isnot_non q
/-- a < b < c -/
theorem p_chain {op op' : CmpOp} {x3 : XV} {r1 r2 : Bool} (h1 : PV C a ρ μ E x1) (h2 : PV C b ρ μ E x2) (o1 : OpB C op x1 x2 μ r1) (h3 : PV C c ρ μ E x3) (o2 : OpB C op' x2 x3 μ r2) (hm : lastMarks [op, op'] [b, c] = false := by with_unfolding_all rfl) : PV C (.Compare a [op, op'] [b, c] pos) ρ μ E (.d (.bl (r1 && r2))) := fun Q q =>
  we_chain (h1 _ (h2 _ (o1 _ ⟨r1, rfl, fun e => h3 _ (o2 _ (by subst e; exact q)), fun e => by subst e; exact q⟩))) hm
theorem b_chain {op op' : CmpOp} {x3 : XV} {r1 r2 : Bool} (h1 : PV C a ρ μ E x1) (h2 : PV C b ρ μ E x2) (o1 : OpB C op x1 x2 μ r1) (h3 : PV C c ρ μ E x3) (o2 : OpB C op' x2 x3 μ r2) (hm : lastMarks [op, op'] [b, c] = false := by with_unfolding_all rfl) : PB C (.Compare a [op, op'] [b, c] pos) ρ μ E (r1 && r2) := fun Q q =>
  wt_chain (h1 _ (h2 _ (o1 _ ⟨r1, rfl, fun e => h3 _ (o2 _ ⟨r2, rfl, by subst e; exact q⟩), fun e => by subst e; exact q⟩))) hm
end
/-! and, or, not -/
theorem b_val {r : Bool} (h : PV C e ρ μ E (.d (.bl r))) (he : ∀ env whole, isTrue e env whole = (do let v ← whole; standAt e.pos; holding [v] (truthy v)) := by intro _ _; rfl) : PB C e ρ μ E r := fun Q q => wt_val (h _ ⟨r, rfl, q⟩) he
theorem b_not {r : Bool} (h : PB C a ρ μ E r) : PB C (.UnaryOp .Not a pos) ρ μ E (!r) := fun Q q => wt_not (h _ q)
theorem w_and1 {r : Bool} (h : PB C a ρ μ E r) : PW C (.BoolOp .And [a] pos) ρ μ E r := fun Q q => ww_and1 (h _ q)
theorem w_or1 {r : Bool} (h : PB C a ρ μ E r) : PW C (.BoolOp .Or [a] pos) ρ μ E r := fun Q q => ww_or1 (h _ q)
theorem w_and {r1 r2 : Bool} (h : PB C a ρ μ E r1) (k : r1 = true → PW C (.BoolOp .And (b :: rest) pos) ρ μ E r2) : PW C (.BoolOp .And (a :: b :: rest) pos) ρ μ E (r1 && r2) := fun Q q =>
  ww_and (h _ ⟨fun e => k e _ (by subst e; exact q), fun e => by subst e; exact q⟩)
theorem w_or {r1 r2 : Bool} (h : PB C a ρ μ E r1) (k : r1 = false → PW C (.BoolOp .Or (b :: rest) pos) ρ μ E r2) : PW C (.BoolOp .Or (a :: b :: rest) pos) ρ μ E (r1 || r2) := fun Q q =>
  ww_or (h _ ⟨fun e => k e _ (by subst e; exact q), fun e => by subst e; exact q⟩)
theorem b_bool {op : BoolOp} {r : Bool} (h : PW C (.BoolOp op es pos) ρ μ E r) : PB C (.BoolOp op es pos) ρ μ E r := fun Q q => wt_bool (h _ q)
theorem p_one {op : BoolOp} (h : PV C a ρ μ E v) : PV C (.BoolOp op [a] pos) ρ μ E v := fun Q q => we_one (h _ q)
theorem p_and {r1 r2 : Bool} (h : PV C a ρ μ E (.d (.bl r1))) (k : r1 = true → PV C (.BoolOp .And (b :: rest) pos) ρ μ E (.d (.bl r2))) : PV C (.BoolOp .And (a :: b :: rest) pos) ρ μ E (.d (.bl (r1 && r2))) := fun Q q =>
  we_and (h _ ⟨r1, rfl, fun e => k e _ (by subst e; exact q), fun e => by subst e; exact q⟩)
theorem p_or {r1 r2 : Bool} (h : PV C a ρ μ E (.d (.bl r1))) (k : r1 = false → PV C (.BoolOp .Or (b :: rest) pos) ρ μ E (.d (.bl r2))) : PV C (.BoolOp .Or (a :: b :: rest) pos) ρ μ E (.d (.bl (r1 || r2))) := fun Q q =>
  we_or (h _ ⟨r1, rfl, fun e => k e _ (by subst e; exact q), fun e => by subst e; exact q⟩)
theorem p_not {r : Bool} (h : PV C a ρ μ E (.d (.bl r))) : PV C (.UnaryOp .Not a pos) ρ μ E (.d (.bl (!r))) := fun Q q => we_not (h _ ⟨r, rfl, q⟩)
theorem p_if {r : Bool} {d1 d2 : D} (h : PB C c ρ μ E r) (h1 : r = true → PV C a ρ μ E (.d d1)) (h2 : r = false → PV C b ρ μ E (.d d2)) : PV C (.IfExp c a b pos) ρ μ E (.d (if r then d1 else d2)) := fun Q q =>
  we_if (h _ ⟨fun e => h1 e _ (by subst e; exact q), fun e => h2 e _ (by subst e; exact q)⟩)
theorem p_ifT {r : Bool} {l1 l2 : List Nat} (h : PB C c ρ μ E r) (h1 : r = true → PV C a ρ μ E (.d (.txt l1))) (h2 : r = false → PV C b ρ μ E (.d (.txt l2))) : PV C (.IfExp c a b pos) ρ μ E (.d (.txt (if r then l1 else l2))) := fun Q q =>
  we_if (h _ ⟨fun e => h1 e _ (by subst e; exact q), fun e => h2 e _ (by subst e; exact q)⟩)
theorem p_ifI {r : Bool} {l1 l2 : Int} (h : PB C c ρ μ E r) (h1 : r = true → PV C a ρ μ E (.d (.int l1))) (h2 : r = false → PV C b ρ μ E (.d (.int l2))) : PV C (.IfExp c a b pos) ρ μ E (.d (.int (if r then l1 else l2))) := fun Q q =>
  we_if (h _ ⟨fun e => h1 e _ (by subst e; exact q), fun e => h2 e _ (by subst e; exact q)⟩)
/-! displays -/
theorem allD_map : ∀ ds : List D, allD (ds.map XV.d) = some ds
  | [] => rfl
  | d :: ds => by show (allD (ds.map XV.d)).map _ = _; rw [allD_map ds]; rfl
theorem p_tup {k : Nat} {xs : List XV} {ds : List D} (h : PA C es ρ μ E xs) (hd : allD xs = some ds) (hz : ds.length ≤ sizeLine := by first | decide | (simp only [List.length_cons, List.length_nil]; decide)) : PV C (.Tuple es k pos) ρ μ E (.d (.tup ds)) := fun Q q => we_tup (h _ ⟨ds, hd, hz, q⟩)
theorem p_lst {xs : List XV} {ds : List D} (h : PA C es ρ μ E xs) (hd : allD xs = some ds) (hz : ds.length ≤ sizeLine := by first | decide | (simp only [List.length_cons, List.length_nil]; decide)) : PV C (.List es pos) ρ μ E (.d (.lst ds)) := fun Q q => we_lst (h _ ⟨ds, hd, hz, q⟩)
/-! items, slices -/
theorem p_ix {x1 x2 z : XV} (h1 : PV C a ρ μ E x1) (h2 : PV C b ρ μ E x2) (h : ∀ Q : XV → Mem → Prop, Q z μ → GoI C x1 x2 μ Q) (hs : PlainIx b := by exact fun _ _ => rfl) : PV C (.Subscript a b pos) ρ μ E z := fun Q q => we_ix (h1 _ (h2 _ (h Q q))) hs
theorem p_ixT {l : List Nat} {i : Int} {n : Nat} (h1 : PV C a ρ μ E (.d (.txt l))) (h2 : PV C b ρ μ E (.d (.int i))) (hz : l.length ≤ sizeLine) (h : atI l i = some n) (hs : PlainIx b := by exact fun _ _ => rfl) : PV C (.Subscript a b pos) ρ μ E (.d (.txt [n])) := p_ix h1 h2 (fun _ q => gi_txt hz h q) hs
theorem p_ixL {l : List D} {i : Int} {n : D} (h1 : PV C a ρ μ E (.d (.lst l))) (h2 : PV C b ρ μ E (.d (.int i))) (h : atI l i = some n) (hs : PlainIx b := by exact fun _ _ => rfl) : PV C (.Subscript a b pos) ρ μ E (.d n) := p_ix h1 h2 (fun _ q => gi_lst h q) hs
theorem p_ixU {l : List D} {i : Int} {n : D} (h1 : PV C a ρ μ E (.d (.tup l))) (h2 : PV C b ρ μ E (.d (.int i))) (h : atI l i = some n) (hs : PlainIx b := by exact fun _ _ => rfl) : PV C (.Subscript a b pos) ρ μ E (.d n) := p_ix h1 h2 (fun _ q => gi_tup h q) hs
theorem p_ixC {m : Nat} {l : List XV} {i : Int} {n : XV} (h1 : PV C a ρ μ E (.l m)) (hm : μ[m]? = some (some (.lst l))) (h2 : PV C b ρ μ E (.d (.int i))) (h : atI l i = some n) (hs : PlainIx b := by exact fun _ _ => rfl) : PV C (.Subscript a b pos) ρ μ E n := p_ix h1 h2 (fun _ q => gi_cell hm h q) hs
theorem o_none : PO C none ρ μ E none := fun _ q => wo_none q
theorem o_some {i : Int} (h : PV C e ρ μ E (.d (.int i))) : PO C (some e) ρ μ E (some i) := fun _ q => wo_some (h _ ⟨i, rfl, q⟩)
theorem p_slT {lo hi : Option Expr} {l : List Nat} {i k : Option Int} (h : PV C e ρ μ E (.d (.txt l))) (h1 : PO C lo ρ μ E i) (h2 : PO C hi ρ μ E k) (hz : l.length ≤ sizeLine) : PV C (.Subscript e (.Slice lo hi none p2) pos) ρ μ E (.d (.txt (cut l i k))) := fun Q q => we_sl (h _ (h1 _ (h2 _ (gs_txt hz q))))
theorem p_slL {lo hi : Option Expr} {l : List D} {i k : Option Int} (h : PV C e ρ μ E (.d (.lst l))) (h1 : PO C lo ρ μ E i) (h2 : PO C hi ρ μ E k) : PV C (.Subscript e (.Slice lo hi none p2) pos) ρ μ E (.d (.lst (cut l i k))) := fun Q q => we_sl (h _ (h1 _ (h2 _ (gs_lst q))))
/-! built-in calls -/
theorem p_blt {f : Value} {xs : List XV} {z : XV} (hg : C.Glob x) (hm : C.mg x = none) (hv : bootBuiltins x = some f) (hf : (∃ id, f = .builtin id) ∨ ∃ T, f = .type T) (h : PA C (e :: es) ρ μ E xs) (hc : ∀ Q : XV → Mem → Prop, Q z μ → GoC C f xs μ Q) (hn : x ≠ "__name__" := by decide) (hdb : (x == ("__debug__" : Str)) = false := by decide)
    (he : ∀ env, starEach (e :: es) env = (false, eval e env) :: starEach es env := by intro _; rfl) (hpl : ∀ env, (backTo pos (starEach es env)).any (·.1) = false := by intro _; rfl) : PV C (.Call (.Name x p) (e :: es) [] pos) ρ μ E z := fun Q q => we_callB hg hm hv hf (h _ (hc Q q)) hn hdb he hpl
section
variable (hlen : C.mg "len" = none)
theorem p_lenT {l : List Nat} (hlen : C.mg "len" = none) (hg : C.Glob "len") (h : PV C e ρ μ E (.d (.txt l))) (hz : l.length ≤ sizeLine) (he : ∀ env, starEach [e] env = (false, eval e env) :: starEach [] env := by intro _; rfl) : PV C (.Call (.Name "len" p) [e] [] pos) ρ μ E (.d (.int (l.length : Int))) := p_blt hg hlen PySem.boot_len (.inl ⟨_, rfl⟩) (pa_cs h pa_nl he) (fun _ q => gc_len_txt hz q) (by decide) (by decide) he
theorem p_lenL {l : List D} (hlen : C.mg "len" = none) (hg : C.Glob "len") (h : PV C e ρ μ E (.d (.lst l))) (he : ∀ env, starEach [e] env = (false, eval e env) :: starEach [] env := by intro _; rfl) : PV C (.Call (.Name "len" p) [e] [] pos) ρ μ E (.d (.int (l.length : Int))) := p_blt hg hlen PySem.boot_len (.inl ⟨_, rfl⟩) (pa_cs h pa_nl he) (fun _ q => gc_len_lst q) (by decide) (by decide) he
theorem p_lenU {l : List D} (hlen : C.mg "len" = none) (hg : C.Glob "len") (h : PV C e ρ μ E (.d (.tup l))) (he : ∀ env, starEach [e] env = (false, eval e env) :: starEach [] env := by intro _; rfl) : PV C (.Call (.Name "len" p) [e] [] pos) ρ μ E (.d (.int (l.length : Int))) := p_blt hg hlen PySem.boot_len (.inl ⟨_, rfl⟩) (pa_cs h pa_nl he) (fun _ q => gc_len_tup q) (by decide) (by decide) he
theorem p_lenS {l : List Int} (hlen : C.mg "len" = none) (hg : C.Glob "len") (h : PV C e ρ μ E (.d (.scr l))) (he : ∀ env, starEach [e] env = (false, eval e env) :: starEach [] env := by intro _; rfl) : PV C (.Call (.Name "len" p) [e] [] pos) ρ μ E (.d (.int (l.length : Int))) := p_blt hg hlen PySem.boot_len (.inl ⟨_, rfl⟩) (pa_cs h pa_nl he) (fun _ q => gc_len_scr q) (by decide) (by decide) he
theorem p_lenC {m : Nat} {l : List XV} (hlen : C.mg "len" = none) (hg : C.Glob "len") (h : PV C e ρ μ E (.l m)) (hm : μ[m]? = some (some (.lst l))) (he : ∀ env, starEach [e] env = (false, eval e env) :: starEach [] env := by intro _; rfl) : PV C (.Call (.Name "len" p) [e] [] pos) ρ μ E (.d (.int (l.length : Int))) := p_blt hg hlen PySem.boot_len (.inl ⟨_, rfl⟩) (pa_cs h pa_nl he) (fun _ q => gc_len_cell hm q) (by decide) (by decide) he
end
/-! comprehensions -/
section
variable {tg elt iter : Expr} {scope : Scope} {own : List (Str × Nat)} {n : Nat}
theorem p_lcT [Calm C] {l : List Nat} {g : Nat → D} (ht : TgOk (C.blk scope) tg (.nm n)) (nd : C.N.Nodup) (ok : BlkOk C.N C.sc scope own) (hsl : n ∈ own.map (·.2)) (hi : PV C iter ρ μ E (.d (.txt l))) (h : ∀ c, c ∈ l → PV (C.blk scope) elt ((wipeE ρ (own.map (·.2))).set n (some (.d (.txt [c])))) μ noE (.d (g c))) (hz : l.length ≤ sizeLine)
    (hs : ∀ env x, foldedSetIterable iter env x = pure x := by intro _ _; rfl) : PV C (.ListComp elt [⟨tg, iter, [], 0⟩] scope pos) ρ μ E (.d (.lst (l.map g))) := fun Q q =>
  we_lc ht nd ok (by intro j hj; simp only [Tg.slots, List.mem_singleton] at hj; subst hj; exact hsl) (wi_txt (hi _ ⟨l, rfl, by
    refine lc_map (fun x => match x with | .d (.txt [c]) => g c | _ => .non) (by simpa using hz) trivial (fun x hx => ?_) ?_
    · obtain ⟨c, hc, rfl⟩ := List.mem_map.mp hx
      exact ⟨_, rfl, h c hc _ ⟨rfl, rfl⟩⟩
    · rw [List.map_map]; exact q⟩)) hs
theorem p_lcL [Calm C] {l : List D} {g : D → D} (ht : TgOk (C.blk scope) tg (.nm n)) (nd : C.N.Nodup) (ok : BlkOk C.N C.sc scope own) (hsl : n ∈ own.map (·.2)) (hi : PV C iter ρ μ E (.d (.lst l))) (h : ∀ c, c ∈ l → PV (C.blk scope) elt ((wipeE ρ (own.map (·.2))).set n (some (.d c))) μ noE (.d (g c))) (hz : l.length ≤ sizeLine)
    (hs : ∀ env x, foldedSetIterable iter env x = pure x := by intro _ _; rfl) : PV C (.ListComp elt [⟨tg, iter, [], 0⟩] scope pos) ρ μ E (.d (.lst (l.map g))) := fun Q q =>
  we_lc ht nd ok (by intro j hj; simp only [Tg.slots, List.mem_singleton] at hj; subst hj; exact hsl) (wi_lst (hi _ ⟨l, rfl, by
    refine lc_map (fun x => match x with | .d c => g c | _ => .non) (by simpa using hz) trivial (fun x hx => ?_) ?_
    · obtain ⟨c, hc, rfl⟩ := List.mem_map.mp hx
      exact ⟨_, rfl, h c hc _ ⟨rfl, rfl⟩⟩
    · rw [List.map_map]; exact q⟩)) hs
/-- over range(a, b) -/
def upto (lo hi : Int) : List Int := (List.range (hi - lo).toNat).map fun i => lo + (i : Nat)
theorem upto_mem {lo hi i : Int} : i ∈ upto lo hi ↔ lo ≤ i ∧ i < hi := by
  unfold upto
  rw [List.mem_map]
  constructor
  · rintro ⟨k, hk, rfl⟩
    rw [List.mem_range] at hk
    omega
  · rintro ⟨h1, h2⟩
    exact ⟨(i - lo).toNat, List.mem_range.mpr (by omega), by omega⟩
theorem upto_len (lo hi : Int) : (upto lo hi).length = (hi - lo).toNat := by unfold upto; simp
theorem rng_upto (lo hi : Int) : rng lo (hi - lo).toNat = (upto lo hi).map fun i => XV.d (.int i) := by unfold rng upto; rw [List.map_map]; rfl
theorem p_lcR [Calm C] {lo hi : Int} {g : Int → D} (hr : C.mg "range" = none) (hg : C.Glob "range") (ht : TgOk (C.blk scope) tg (.nm n)) (nd : C.N.Nodup) (ok : BlkOk C.N C.sc scope own) (hsl : n ∈ own.map (·.2)) (ha : PV C a ρ μ E (.d (.int lo))) (hb : PV C b ρ μ E (.d (.int hi)))
    (h : ∀ i, lo ≤ i → i < hi → PV (C.blk scope) elt ((wipeE ρ (own.map (·.2))).set n (some (.d (.int i)))) μ noE (.d (g i))) (hz : (-(2 ^ 62) ≤ lo ∧ lo < 2 ^ 62 ∧ -(2 ^ 62) ≤ hi ∧ hi < 2 ^ 62) ∧ (hi - lo).toNat ≤ sizeLine)
    (hs : ∀ env x, foldedSetIterable (.Call (.Name "range" p) [a, b] [] p2) env x = pure x := by intro _ _; rfl) (hs1 : ∀ env, starEach [a, b] env = [(false, eval a env), (false, eval b env)] := by intro _; rfl) (hs2 : ∀ env, starEach [b] env = [(false, eval b env)] := by intro _; rfl) :
    PV C (.ListComp elt [⟨tg, .Call (.Name "range" p) [a, b] [] p2, [], 0⟩] scope pos) ρ μ E (.d (.lst ((upto lo hi).map g))) := fun Q q =>
  we_lc ht nd ok (by intro j hj; simp only [Tg.slots, List.mem_singleton] at hj; subst hj; exact hsl) (wi_range2 hg hr (ha _ (hb _ ⟨lo, hi, rfl, rfl, hz.1, by
    rw [rng_upto]
    refine lc_map (fun x => match x with | .d (.int i) => g i | _ => .non) (by rw [List.length_map, upto_len]; exact hz.2) trivial (fun x hx => ?_) ?_
    · obtain ⟨i, hi, rfl⟩ := List.mem_map.mp hx
      obtain ⟨h1, h2⟩ := upto_mem.mp hi
      exact ⟨_, rfl, h i h1 h2 _ ⟨rfl, rfl⟩⟩
    · rw [List.map_map]; exact q⟩)) hs1 hs2) hs
end
/-! methods, attributes -/
theorem p_join {sep : List Nat} {ls : List (List Nat)} {o : Expr} (ho : PV C o ρ μ E (.d (.txt sep))) (h : PV C e ρ μ E (.d (.lst (ls.map D.txt)))) (hz : (ls.map (·.length)).sum + ls.length * sep.length ≤ 16777216) (hbase : ∀ env, attributeBase o "join" env (eval o env) = eval o env := by intro _; rfl)
    (hfew : ∀ env, ((backTo cpos (starEach [e] env)).all (fun x => !x.1) && (backToKw cpos (keywordEach [] env)).all (fun x => x.1.isSome) && decide ([e].length + ([] : List Keyword).length + (if ([] : List Keyword).isEmpty then 0 else 1) < 30)) = true := by intro _; rfl)
    (hline : (apos.endLine == cpos.line) = true := by rfl) (hs : ∀ env, starEach [e] env = (false, eval e env) :: starEach [] env := by intro _; rfl) : PV C (.Call (.Attribute o "join" apos) [e] [] cpos) ρ μ E (.d (.txt (TL.joinL sep ls))) := fun Q q =>
  we_bm PySem.F.plainAttrs_str PySem.F.slot_str_join PySem.F.type_str_join (ho _ ⟨rfl, (pa_cs h pa_nl hs) _ (gm_join hz q)⟩) hbase hfew hline hs
theorem p_fld {Cl : Addr} {f : Str} {fs : List Str} {ds : List D} {d : D} (hc : Cls C.K Cl) (hn : NoAttr C.K Cl f) (h : PV C e ρ μ E (.d (.ins Cl fs ds))) (hf : fldD fs ds f = some d) (hb : ∀ env, attributeBase e f env (eval e env) = eval e env := by intro _; rfl) : PV C (.Attribute e f pos) ρ μ E (.d d) := fun Q q => we_fld hc hn (h _ ⟨fs, ds, d, rfl, hf, q⟩) hb
end
end DL
set_option maxRecDepth 100000
set_option maxHeartbeats 2000000
namespace DL
open PySem L2 PySem.Spec PyProof.Rows
/-! ### defs, methods and classes as the top has made them -/
def Dn (C : SC) (x : Str) (st : Stmt) (ps : List Str) : Prop := ∃ (f : Addr) (fd : FuncData), Fun C.K x x st f fd ∧ C.mg x = some (.ref f) ∧ Binds C.K fd ps []
def Dk (C : SC) (x : Str) (st : Stmt) (ps : List Str) (n : Nat) (ks : List Str) (ix : List Nat) : Prop := ∃ (f : Addr) (fd : FuncData), Fun C.K x x st f fd ∧ C.mg x = some (.ref f) ∧ KBn C.K fd ps n ks (perm ix) (perm ix)
def Mn (C : SC) (Cl : Addr) (m qual : Str) (st : Stmt) (ps : List Str) : Prop := ∃ (f : Addr) (fd : FuncData), Fun C.K m qual st f fd ∧ Meth C.K Cl m f ∧ Binds C.K fd ps []
def Mq (C : SC) (Cl : Addr) (m qual : Str) (st : Stmt) (ps : List Str) (n : Nat) (ks : List Str) (ix : List Nat) : Prop := ∃ (f : Addr) (fd : FuncData), Fun C.K m qual st f fd ∧ Meth C.K Cl m f ∧ KBn C.K fd ps n ks (perm ix) (perm ix)
def In0 (C : SC) (x : Str) (Cl : Addr) (qual : Str) (st : Stmt) (ps : List Str) : Prop := ∃ (f : Addr) (fd : FuncData), Fun C.K "__init__" qual st f fd ∧ Mk C.K Cl f ∧ C.mg x = some (.ref Cl) ∧ Binds C.K fd ps []
def InK (C : SC) (x : Str) (Cl : Addr) (qual : Str) (st : Stmt) (ps : List Str) (n : Nat) (ks : List Str) (ix : List Nat) : Prop := ∃ (f : Addr) (fd : FuncData), Fun C.K "__init__" qual st f fd ∧ Mk C.K Cl f ∧ C.mg x = some (.ref Cl) ∧ KBn C.K fd ps (n + 1) ks (perm (0 :: ix.map (· + 1))) (perm (0 :: ix.map (· + 1)))
/-- what a def's body is to do -/
def Body (C : SC) (c : Con) (N : List Str) (st : Stmt) (k : Nat) : Prop := ∀ a, c.pre a → WS (C.defC N (defScope st) k) (defBody st) (startE N (c.args a)) (c.mem a) (fun Cl fl _ μ2 => FitsX (c.out a) Cl fl μ2) { nx := fun _ μ2 => Fits (c.out a) (.d .non) μ2, rt := fun z μ2 => Fits (c.out a) z μ2 }
section
variable {C : SC} {x m qual : Str} {st : Stmt} {ps N ks : List Str} {c : Con} {k n : Nat} {ix : List Nat} {Cl : Addr}
theorem Dn.fnd (h : Dn C x st ps) (S : FnScope N ps (defScope st)) (wf : c.Wf) (len : ∀ a, c.pre a → (c.args a).length = ps.length) (body : Body C c N st k) : FnD C (k + 1) x ps c := by
  obtain ⟨f, fd, F, hm, hb⟩ := h
  exact ⟨⟨f, fd, Con.fnok F S wf len body, hm, F.kp, hb⟩, wf⟩
theorem Dk.fnk (h : Dk C x st ps n ks ix) (S : FnScope N ps (defScope st)) (wf : c.Wf) (len : ∀ a, c.pre a → (c.args a).length = ps.length) (body : Body C c N st k) : FnK C (k + 1) x ps c n ks ix := by
  obtain ⟨f, fd, F, hm, hb⟩ := h
  exact ⟨⟨f, fd, Con.fnok F S wf len body, hm, F.kp, hb⟩, wf⟩
theorem Mn.mtd (h : Mn C Cl m qual st ps) (hc : Cls C.K Cl) (S : FnScope N ps (defScope st)) (wf : c.Wf) (len : ∀ a, c.pre a → (c.args a).length = ps.length) (body : Body C c N st k) : MtD C (k + 1) Cl m ps c := by
  obtain ⟨f, fd, F, hm, hb⟩ := h
  exact ⟨⟨f, fd, Con.fnok F S wf len body, hm, hb⟩, hc, wf⟩
theorem Mq.mtk (h : Mq C Cl m qual st ps n ks ix) (hc : Cls C.K Cl) (S : FnScope N ps (defScope st)) (wf : c.Wf) (len : ∀ a, c.pre a → (c.args a).length = ps.length) (body : Body C c N st k) : MtK C (k + 1) Cl m ps c n ks ix := by
  obtain ⟨f, fd, F, hm, hb⟩ := h
  exact ⟨⟨f, fd, Con.fnok F S wf len body, hm, hb⟩, hc, wf⟩
theorem In0.mkd (h : In0 C x Cl qual st ps) (S : FnScope N ps (defScope st)) (wf : c.Wf) (len : ∀ a, c.pre a → (c.args a).length = ps.length) (body : Body C c N st k) : MkD C (k + 1) x Cl ps c := by
  obtain ⟨f, fd, F, hm, hg, hb⟩ := h
  exact ⟨⟨f, fd, Con.fnok F S wf len body, hm, hg, hb⟩, wf⟩
theorem InK.mkk (h : InK C x Cl qual st ps n ks ix) (S : FnScope N ps (defScope st)) (wf : c.Wf) (len : ∀ a, c.pre a → (c.args a).length = ps.length) (body : Body C c N st k) : MkK C (k + 1) x Cl ps c n ks ix := by
  obtain ⟨f, fd, F, hm, hg, hb⟩ := h
  exact ⟨⟨f, fd, Con.fnok F S wf len body, hm, hg, hb⟩, wf⟩
end
/-! defs that hand back a new cell -/
def Body2 (C : SC) (c : Con) (N : List Str) (st : Stmt) (k : Nat) : Prop := ∀ a, c.pre a → WS (C.defC N (defScope st) k) (defBody st) (startE N (c.args a)) (c.mem a) (fun Cl fl _ μ2 => FitsX (c.out a) Cl fl μ2) { nx := fun _ μ2 => Fits2 (c.out a) (.d .non) μ2, rt := fun z μ2 => Fits2 (c.out a) z μ2 }
def Con.Wf2 (c : Con) : Prop := ∀ a μb m, c.pre a → c.out a (.ret (.l μb.length) (μb ++ [some m])) → m.pure → (c.mem a).length ≤ μb.length
section
variable {C : SC} {x m qual : Str} {st : Stmt} {ps N ks : List Str} {c : Con} {k n : Nat} {ix : List Nat} {Cl : Addr}
theorem Dn.fnd2 (h : Dn C x st ps) (S : FnScope N ps (defScope st)) (wf : c.Wf) (wf2 : c.Wf2) (len : ∀ a, c.pre a → (c.args a).length = ps.length) (body : Body2 C c N st k) : FnD C (k + 1) x ps c := by
  obtain ⟨f, fd, F, hm, hb⟩ := h
  exact ⟨⟨f, fd, Con.fnok2 F S wf wf2 len body, hm, F.kp, hb⟩, wf⟩
theorem Dk.fnk2 (h : Dk C x st ps n ks ix) (S : FnScope N ps (defScope st)) (wf : c.Wf) (wf2 : c.Wf2) (len : ∀ a, c.pre a → (c.args a).length = ps.length) (body : Body2 C c N st k) : FnK C (k + 1) x ps c n ks ix := by
  obtain ⟨f, fd, F, hm, hb⟩ := h
  exact ⟨⟨f, fd, Con.fnok2 F S wf wf2 len body, hm, F.kp, hb⟩, wf⟩
theorem Mn.mtd2 (h : Mn C Cl m qual st ps) (hc : Cls C.K Cl) (S : FnScope N ps (defScope st)) (wf : c.Wf) (wf2 : c.Wf2) (len : ∀ a, c.pre a → (c.args a).length = ps.length) (body : Body2 C c N st k) : MtD C (k + 1) Cl m ps c := by
  obtain ⟨f, fd, F, hm, hb⟩ := h
  exact ⟨⟨f, fd, Con.fnok2 F S wf wf2 len body, hm, hb⟩, hc, wf⟩
theorem Mq.mtk2 (h : Mq C Cl m qual st ps n ks ix) (hc : Cls C.K Cl) (S : FnScope N ps (defScope st)) (wf : c.Wf) (wf2 : c.Wf2) (len : ∀ a, c.pre a → (c.args a).length = ps.length) (body : Body2 C c N st k) : MtK C (k + 1) Cl m ps c n ks ix := by
  obtain ⟨f, fd, F, hm, hb⟩ := h
  exact ⟨⟨f, fd, Con.fnok2 F S wf wf2 len body, hm, hb⟩, hc, wf⟩
/-- takes data, hands back a new cell -/
def cNew (α : Type) (args : α → List D) (pre : α → Prop) (f : α → MO) : Con := ⟨α, fun a => (args a).map XV.d, fun _ => [], pre, fun a o => o = .ret (.l 0) [some (f a)]⟩
theorem wf_cNew {α : Type} {args : α → List D} {pre : α → Prop} {f : α → MO} : (cNew α args pre f).Wf := by
  refine ⟨fun a _ x hx => ?_, fun a _ m hm => (List.not_mem_nil hm).elim, fun a o _ ho => Nat.zero_le _⟩
  obtain ⟨d, _, rfl⟩ := List.mem_map.mp hx
  trivial
theorem wf2_cNew {α : Type} {args : α → List D} {pre : α → Prop} {f : α → MO} : (cNew α args pre f).Wf2 := fun a μb m _ _ _ => Nat.zero_le _
theorem calls_N {α : Type} {args : α → List D} {pre : α → Prop} {f : α → MO} {xs : List XV} {μ : Mem} {Q : XV → Mem → Prop} {EX : Addr → List (Str × D) → Mem → Prop} (a : α) (hp : pre a) (ha : (args a).map XV.d = xs) (hf : (f a).pure) (q : Q (.l μ.length) (μ ++ [some (f a)])) : Calls (cNew α args pre f) xs μ Q EX :=
  ⟨a, μ, hp, ha, rfl, fun o ho => by cases ho; exact .inr ⟨[], f a, rfl, rfl, hf, (fun m hm => (List.not_mem_nil hm).elim), q⟩⟩
theorem fits_N {α : Type} {args : α → List D} {pre : α → Prop} {f : α → MO} {a : α} {k : Nat} {μ2 : Mem} (hm : μ2[k]? = some (some (f a))) (hf : (f a).pure) : Fits2 ((cNew α args pre f).out a) (.l k) μ2 :=
  .inr ⟨[], f a, k, rfl, rfl, Nat.zero_le _, hm, hf, ⟨μ2, rfl⟩, (fun m hm => (List.not_mem_nil hm).elim)⟩
end
theorem FnD.to {C : SC} {k : Nat} {x : Str} {ps : List Str} {c : Con} (F : FnD C k x ps c) {N : List Str} {sc : Scope} {r : Nat} : FnD (C.defC N sc r) k x ps c := ⟨F.ex, F.wf⟩
theorem FnD.tb {C : SC} {k : Nat} {x : Str} {ps : List Str} {c : Con} (F : FnD C k x ps c) {N : List Str} {sc s2 : Scope} {r : Nat} : FnD ((C.defC N sc r).blk s2) k x ps c := ⟨F.ex, F.wf⟩
theorem FnK.to {C : SC} {k n : Nat} {x : Str} {ps ks : List Str} {ix : List Nat} {c : Con} (F : FnK C k x ps c n ks ix) {N : List Str} {sc : Scope} {r : Nat} : FnK (C.defC N sc r) k x ps c n ks ix := ⟨F.ex, F.wf⟩
theorem MtD.to {C : SC} {k : Nat} {Cl : Addr} {m : Str} {ps : List Str} {c : Con} (F : MtD C k Cl m ps c) {N : List Str} {sc : Scope} {r : Nat} : MtD (C.defC N sc r) k Cl m ps c := ⟨F.ex, F.cls, F.wf⟩
theorem MtD.tb {C : SC} {k : Nat} {Cl : Addr} {m : Str} {ps : List Str} {c : Con} (F : MtD C k Cl m ps c) {N : List Str} {sc s2 : Scope} {r : Nat} : MtD ((C.defC N sc r).blk s2) k Cl m ps c := ⟨F.ex, F.cls, F.wf⟩
theorem MtK.to {C : SC} {k n : Nat} {Cl : Addr} {m : Str} {ps ks : List Str} {ix : List Nat} {c : Con} (F : MtK C k Cl m ps c n ks ix) {N : List Str} {sc : Scope} {r : Nat} : MtK (C.defC N sc r) k Cl m ps c n ks ix := ⟨F.ex, F.cls, F.wf⟩
theorem MkD.to {C : SC} {k : Nat} {Cl : Addr} {x : Str} {ps : List Str} {c : Con} (F : MkD C k x Cl ps c) {N : List Str} {sc : Scope} {r : Nat} : MkD (C.defC N sc r) k x Cl ps c := ⟨F.ex, F.wf⟩
theorem MkD.tb {C : SC} {k : Nat} {Cl : Addr} {x : Str} {ps : List Str} {c : Con} (F : MkD C k x Cl ps c) {N : List Str} {sc s2 : Scope} {r : Nat} : MkD ((C.defC N sc r).blk s2) k x Cl ps c := ⟨F.ex, F.wf⟩
theorem MkK.to {C : SC} {k n : Nat} {Cl : Addr} {x : Str} {ps ks : List Str} {ix : List Nat} {c : Con} (F : MkK C k x Cl ps c n ks ix) {N : List Str} {sc : Scope} {r : Nat} : MkK (C.defC N sc r) k x Cl ps c n ks ix := ⟨F.ex, F.wf⟩
/-! from the written part -/
section
variable {K : PySem.W.Frag} {h : Heap} {mg : Str → Option Value} {x m qual : Str} {st : Stmt} {ps ks : List Str} {n : Nat} {ix : List Nat} {f Cl : Addr} {oc : Value} {od an : Option Addr} {osl : Array (Option Value)} {kV doc pm cdv ct : Value}
/-- a def's object -/
abbrev FObj (K : PySem.W.Frag) (x qual : Str) (st : Stmt) (f : Addr) : Prop := ∃ (fd : FuncData), Fun K x qual st f fd
/-- the binding of all parameters by place -/
abbrev BindAll (x qual : Str) (st : Stmt) (ps : List Str) : Prop := ∀ (kV doc pm : Value) (an : Option Addr) (cdv ct : Value) (us : List Value), us.length = ps.length → bindArgs (PySem.W.fnOf x qual (defArgs st) (defBody st) (defScope st) .none kV doc pm an cdv ct) ⟨us, []⟩ = pure (ps.zip us)
abbrev BindKw (x qual : Str) (st : Stmt) (ps : List Str) (n : Nat) (ks : List Str) (ix : List Nat) : Prop := ∀ (kV doc pm : Value) (an : Option Addr) (cdv ct : Value) (us ws : List Value), us.length = n → ws.length = ks.length → bindArgs (PySem.W.fnOf x qual (defArgs st) (defBody st) (defScope st) .none kV doc pm an cdv ct) ⟨us, ks.zip ws⟩ = pure (ps.zip (perm ix us ws))
theorem bK {fd : FuncData} (F : Fun K x qual st f fd) (b : BindKw x qual st ps n ks ix) : KBn K fd ps n ks (perm ix) (perm ix) := by
  obtain ⟨oc, od, kV, doc, pm, an, cdv, ct, osl, rfl, lk, hcd⟩ := F.ex
  exact kbn_of (b kV doc pm an cdv ct)
theorem fobj (l : K.lookup f = some ⟨oc, od, .func (PySem.W.fnOf x qual (defArgs st) (defBody st) (defScope st) .none kV doc pm an cdv ct), osl⟩) (c : PySem.W.codeIn K cdv qual = true) (k : PySem.W.keepIn K (.ref f) = true) : FObj K x qual st f := ⟨_, fun_mk (st := st) l c k⟩
variable {C : SC}
theorem dn_of (hK : C.K = K) (hm : C.mg = mg) (X : K.In h) (G : h.Ns mainGlobals mg) (a : PySem.W.nsIn K mainGlobals x = some (some (.ref f))) (F : FObj K x x st f) (b : BindAll x x st ps) : Dn C x st ps := by
  subst hK hm
  obtain ⟨fd, F⟩ := F
  exact ⟨f, fd, F, PySem.W.mg_of X G a, F.binds b⟩
theorem dk_of (hK : C.K = K) (hm : C.mg = mg) (X : K.In h) (G : h.Ns mainGlobals mg) (a : PySem.W.nsIn K mainGlobals x = some (some (.ref f))) (F : FObj K x x st f) (b : BindKw x x st ps n ks ix) : Dk C x st ps n ks ix := by
  subst hK hm
  obtain ⟨fd, F⟩ := F
  exact ⟨f, fd, F, PySem.W.mg_of X G a, bK F b⟩
theorem mn_of (hK : C.K = K) (a : PySem.W.findIn K (.ref Cl) m = some (some (.ref f))) (i : PySem.W.isFn K (.ref f) = true) (F : FObj K m qual st f) (b : BindAll m qual st ps) : Mn C Cl m qual st ps := by
  subst hK
  obtain ⟨fd, F⟩ := F
  exact ⟨f, fd, F, ⟨a, i, F.kp⟩, F.binds b⟩
theorem mq_of (hK : C.K = K) (a : PySem.W.findIn K (.ref Cl) m = some (some (.ref f))) (i : PySem.W.isFn K (.ref f) = true) (F : FObj K m qual st f) (b : BindKw m qual st ps n ks ix) : Mq C Cl m qual st ps n ks ix := by
  subst hK
  obtain ⟨fd, F⟩ := F
  exact ⟨f, fd, F, ⟨a, i, F.kp⟩, bK F b⟩
theorem in_of (hK : C.K = K) (hm : C.mg = mg) (X : K.In h) (G : h.Ns mainGlobals mg) (aC : PySem.W.nsIn K mainGlobals x = some (some (.ref Cl))) (mk : PySem.W.makesIn K Cl = true) (kc : PySem.W.keepIn K (.ref Cl) = true) (a : PySem.W.findIn K (.ref Cl) "__init__" = some (some (.ref f))) (i : PySem.W.isFn K (.ref f) = true)
    (F : FObj K "__init__" qual st f) (b : BindAll "__init__" qual st ps) : In0 C x Cl qual st ps := by
  subst hK hm
  obtain ⟨fd, F⟩ := F
  exact ⟨f, fd, F, ⟨mk, a, i, kc⟩, PySem.W.mg_of X G aC, F.binds b⟩
theorem ink_of (hK : C.K = K) (hm : C.mg = mg) (X : K.In h) (G : h.Ns mainGlobals mg) (aC : PySem.W.nsIn K mainGlobals x = some (some (.ref Cl))) (mk : PySem.W.makesIn K Cl = true) (kc : PySem.W.keepIn K (.ref Cl) = true) (a : PySem.W.findIn K (.ref Cl) "__init__" = some (some (.ref f))) (i : PySem.W.isFn K (.ref f) = true)
    (F : FObj K "__init__" qual st f) (b : BindKw "__init__" qual st ps (n + 1) ks (0 :: ix.map (· + 1))) : InK C x Cl qual st ps n ks ix := by
  subst hK hm
  obtain ⟨fd, F⟩ := F
  exact ⟨f, fd, F, ⟨mk, a, i, kc⟩, PySem.W.mg_of X G aC, bK F b⟩
end
/-! ### defs that change nothing -/
def cP1 {α : Type} (ca : α → D) (pre : α → Prop) (f : α → D) : Con := ⟨α, fun a => [.d (ca a)], fun _ => [], pre, fun a o => o = .ret (.d (f a)) []⟩
def cP2 {α β : Type} (ca : α → D) (cb : β → D) (pre : α → β → Prop) (f : α → β → D) : Con := ⟨α × β, fun a => [.d (ca a.1), .d (cb a.2)], fun _ => [], fun a => pre a.1 a.2, fun a o => o = .ret (.d (f a.1 a.2)) []⟩
def cP3 {α β γ : Type} (ca : α → D) (cb : β → D) (cc : γ → D) (pre : α → β → γ → Prop) (f : α → β → γ → D) : Con := ⟨α × β × γ, fun a => [.d (ca a.1), .d (cb a.2.1), .d (cc a.2.2)], fun _ => [], fun a => pre a.1 a.2.1 a.2.2, fun a o => o = .ret (.d (f a.1 a.2.1 a.2.2)) []⟩
theorem wf_data {α : Type} {args : α → List D} {pre : α → Prop} {f : α → D} : (Con.mk α (fun a => (args a).map XV.d) (fun _ => []) pre fun a o => o = .ret (.d (f a)) []).Wf := by
  refine ⟨fun a _ x hx => ?_, fun a _ m hm => (List.not_mem_nil hm).elim, fun a o _ ho => by cases ho; exact Nat.le_refl _⟩
  obtain ⟨d, _, rfl⟩ := List.mem_map.mp hx
  trivial
theorem wf_cP1 {α : Type} {ca : α → D} {pre : α → Prop} {f : α → D} : (cP1 ca pre f).Wf := wf_data (args := fun a => [ca a]) (f := f) (pre := pre)
theorem wf_cP2 {α β : Type} {ca : α → D} {cb : β → D} {pre : α → β → Prop} {f : α → β → D} : (cP2 ca cb pre f).Wf := wf_data (args := fun a : α × β => [ca a.1, cb a.2]) (f := fun a => f a.1 a.2) (pre := fun a => pre a.1 a.2)
theorem wf_cP3 {α β γ : Type} {ca : α → D} {cb : β → D} {cc : γ → D} {pre : α → β → γ → Prop} {f : α → β → γ → D} : (cP3 ca cb cc pre f).Wf := wf_data (args := fun a : α × β × γ => [ca a.1, cb a.2.1, cc a.2.2]) (f := fun a => f a.1 a.2.1 a.2.2) (pre := fun a => pre a.1 a.2.1 a.2.2)
/-- the ends of a body that changes nothing, and raises nothing -/
def endsP (d : D) : DEnds := { nx := fun _ _ => d = .non, rt := fun z _ => z = .d d }
theorem body_P {C : SC} {c : Con} {N : List Str} {st : Stmt} {k : Nat} (f : c.α → D) (hm : ∀ a, c.mem a = []) (ho : ∀ a, c.out a = fun o => o = .ret (.d (f a)) []) (h : ∀ a, c.pre a → WS (C.defC N (defScope st) k) (defBody st) (startE N (c.args a)) [] noE (endsP (f a))) : Body C c N st k := fun a hp X σ H w A => by
  rw [hm a] at A ⊢
  have A' : At (C.defC N (defScope st) k) X noE (startE N (c.args a)) [] σ H w := ⟨A.has, A.M, A.R, A.T.imp fun cls d σ' H' h => by
    obtain ⟨_, _, _, _, _, _, _, _, _, _, z⟩ := h
    exact z.elim⟩
  refine tS_mono (h a hp X σ H w A') (fun σ' H' q => ?_) (fun v H' q => ?_) (fun _ _ q => ?_) (fun _ _ q => ?_)
  · obtain ⟨ρ', μ', w', R, M, S, q⟩ := q
    have e : f a = .non := q
    exact ⟨ρ', μ', w', R, M, S, [], by rw [ho a, e], ⟨μ', rfl⟩, trivial, fun m hm => (List.not_mem_nil hm).elim⟩
  · obtain ⟨z, μ', w', R, M, S, q⟩ := q
    have e : z = .d (f a) := q
    subst e
    exact ⟨_, μ', w', R, M, S, [], by rw [ho a], ⟨μ', rfl⟩, trivial, fun m hm => (List.not_mem_nil hm).elim⟩
  · obtain ⟨_, _, _, _, _, _, z⟩ := q; exact z.elim
  · obtain ⟨_, _, _, _, _, _, z⟩ := q; exact z.elim
section
variable {C : SC} {E : EPost} {ρ : Env} {μ : Mem} {e e1 e2 e3 : Expr} {kws : List Keyword} {pos p : Pos} {x : Str} {k n : Nat} {ps ks : List Str} {ix : List Nat} {st : Stmt} {N : List Str}
theorem Dn.p1 {α : Type} {ca : α → D} {pre : α → Prop} {f : α → D} {q : Str} (h : Dn C x st [q]) (S : FnScope N [q] (defScope st)) (b : ∀ a, pre a → WS (C.defC N (defScope st) k) (defBody st) (startE N [.d (ca a)]) [] noE (endsP (f a))) : FnD C (k + 1) x [q] (cP1 ca pre f) :=
  h.fnd S wf_cP1 (fun _ _ => rfl) (body_P (c := cP1 ca pre f) f (fun _ => rfl) (fun _ => rfl) b)
theorem Dn.p2 {α β : Type} {ca : α → D} {cb : β → D} {pre : α → β → Prop} {f : α → β → D} {q q2 : Str} (h : Dn C x st [q, q2]) (S : FnScope N [q, q2] (defScope st)) (b : ∀ a b, pre a b → WS (C.defC N (defScope st) k) (defBody st) (startE N [.d (ca a), .d (cb b)]) [] noE (endsP (f a b))) : FnD C (k + 1) x [q, q2] (cP2 ca cb pre f) :=
  h.fnd S wf_cP2 (fun _ _ => rfl) (body_P (c := cP2 ca cb pre f) (fun a => f a.1 a.2) (fun _ => rfl) (fun _ => rfl) fun a hp => b a.1 a.2 hp)
theorem Dn.p3 {α β γ : Type} {ca : α → D} {cb : β → D} {cc : γ → D} {pre : α → β → γ → Prop} {f : α → β → γ → D} {q q2 q3 : Str} (h : Dn C x st [q, q2, q3]) (S : FnScope N [q, q2, q3] (defScope st)) (b : ∀ a b c, pre a b c → WS (C.defC N (defScope st) k) (defBody st) (startE N [.d (ca a), .d (cb b), .d (cc c)]) [] noE (endsP (f a b c))) : FnD C (k + 1) x [q, q2, q3] (cP3 ca cb cc pre f) :=
  h.fnd S wf_cP3 (fun _ _ => rfl) (body_P (c := cP3 ca cb cc pre f) (fun a => f a.1 a.2.1 a.2.2) (fun _ => rfl) (fun _ => rfl) fun a hp => b a.1 a.2.1 a.2.2 hp)
theorem calls_P {c : Con} {xs : List XV} {d : D} {Q : XV → Mem → Prop} {EX : Addr → List (Str × D) → Mem → Prop} (a : c.α) (hp : c.pre a) (ha : c.args a = xs) (hm : c.mem a = []) (ho : ∀ o, c.out a o → o = .ret (.d d) []) (q : Q (.d d) μ) : Calls c xs μ Q EX :=
  ⟨a, μ, hp, ha, by rw [hm]; rfl, fun o hx => by cases ho o hx; exact .inl ⟨.inl (by rw [hm]; rfl), q⟩⟩
theorem p_call [Calm C] {c : Con} {es : List Expr} {xs : List XV} {d : D} (F : FnD C k x ps c) (hk : k ≤ C.room) (hg : C.Glob x) (h : PA C (e :: es) ρ μ E xs) (a : c.α) (hp : c.pre a) (ha : c.args a = xs) (hm : c.mem a = []) (ho : ∀ o, c.out a o → o = .ret (.d d) []) (hdb : (x == ("__debug__" : Str)) = false := by decide)
    (he : ∀ env, starEach (e :: es) env = (false, eval e env) :: starEach es env := by intro _; rfl) (hpl : ∀ env, (backTo pos (starEach es env)).any (·.1) = false := by intro _; rfl) : PV C (.Call (.Name x p) (e :: es) [] pos) ρ μ E (.d d) := fun Q q =>
  we_call F hk hg (h _ (calls_P a hp ha hm ho q)) hdb he hpl
theorem p_call1 [Calm C] {α : Type} {ca : α → D} {pre : α → Prop} {f : α → D} {a : α} (F : FnD C k x ps (cP1 ca pre f)) (hk : k ≤ C.room) (hg : C.Glob x) (h : PV C e1 ρ μ E (.d (ca a))) (hp : pre a) (hdb : (x == ("__debug__" : Str)) = false := by decide) (he : ∀ env, starEach [e1] env = (false, eval e1 env) :: starEach [] env := by intro _; rfl) : PV C (.Call (.Name x p) [e1] [] pos) ρ μ E (.d (f a)) :=
  p_call F hk hg (pa_cs h pa_nl he) a hp rfl rfl (fun o h => h) hdb he
theorem p_call2 [Calm C] {α β : Type} {ca : α → D} {cb : β → D} {pre : α → β → Prop} {f : α → β → D} {a : α} {b : β} (F : FnD C k x ps (cP2 ca cb pre f)) (hk : k ≤ C.room) (hg : C.Glob x) (h : PV C e1 ρ μ E (.d (ca a))) (h2 : PV C e2 ρ μ E (.d (cb b))) (hp : pre a b) (hdb : (x == ("__debug__" : Str)) = false := by decide)
    (he : ∀ env, starEach [e1, e2] env = (false, eval e1 env) :: starEach [e2] env := by intro _; rfl) (he2 : ∀ env, starEach [e2] env = (false, eval e2 env) :: starEach [] env := by intro _; rfl) (hpl : ∀ env, (backTo pos (starEach [e2] env)).any (·.1) = false := by intro _; rfl) : PV C (.Call (.Name x p) [e1, e2] [] pos) ρ μ E (.d (f a b)) :=
  p_call F hk hg (pa_cs h (pa_cs h2 pa_nl he2) he) (a, b) hp rfl rfl (fun o h => h) hdb he hpl
theorem p_call3 [Calm C] {α β γ : Type} {ca : α → D} {cb : β → D} {cc : γ → D} {pre : α → β → γ → Prop} {f : α → β → γ → D} {a : α} {b : β} {c : γ} (F : FnD C k x ps (cP3 ca cb cc pre f)) (hk : k ≤ C.room) (hg : C.Glob x) (h : PV C e1 ρ μ E (.d (ca a))) (h2 : PV C e2 ρ μ E (.d (cb b))) (h3 : PV C e3 ρ μ E (.d (cc c))) (hp : pre a b c) (hdb : (x == ("__debug__" : Str)) = false := by decide)
    (he : ∀ env, starEach [e1, e2, e3] env = (false, eval e1 env) :: starEach [e2, e3] env := by intro _; rfl) (he2 : ∀ env, starEach [e2, e3] env = (false, eval e2 env) :: starEach [e3] env := by intro _; rfl) (he3 : ∀ env, starEach [e3] env = (false, eval e3 env) :: starEach [] env := by intro _; rfl) (hpl : ∀ env, (backTo pos (starEach [e2, e3] env)).any (·.1) = false := by intro _; rfl) : PV C (.Call (.Name x p) [e1, e2, e3] [] pos) ρ μ E (.d (f a b c)) :=
  p_call F hk hg (pa_cs h (pa_cs h2 (pa_cs h3 pa_nl he3) he2) he) (a, b, c) hp rfl rfl (fun o h => h) hdb he hpl
/-- return of a value that changes nothing -/
theorem w1_retP {d : D} {rest : List Stmt} (h : PV C e ρ μ E (.d d)) : WS C (.Return (some e) pos :: rest) ρ μ E (endsP d) := ws_cons (w1_ret (h.go rfl))
end
end DL
set_option maxRecDepth 100000
set_option maxHeartbeats 2000000
namespace DL
open PySem L2 PySem.Spec PyProof.Rows
/-! ### the built-in names -/
theorem bt_abs : bootBuiltins "abs" = some (.builtin "abs") := by decide +kernel
theorem bt_all : bootBuiltins "all" = some (.builtin "all") := by decide +kernel
theorem bt_any : bootBuiltins "any" = some (.builtin "any") := by decide +kernel
theorem bt_bool : bootBuiltins "bool" = some (.type "bool") := by decide +kernel
theorem bt_int : bootBuiltins "int" = some (.type "int") := by decide +kernel
theorem bt_isinstance : bootBuiltins "isinstance" = some (.builtin "isinstance") := by decide +kernel
theorem bt_list : bootBuiltins "list" = some (.type "list") := by decide +kernel
theorem bt_max : bootBuiltins "max" = some (.builtin "max") := by decide +kernel
theorem bt_min : bootBuiltins "min" = some (.builtin "min") := by decide +kernel
theorem bt_repr : bootBuiltins "repr" = some (.builtin "repr") := by decide +kernel
theorem bt_set : bootBuiltins "set" = some (.type "set") := by decide +kernel
theorem bt_sorted : bootBuiltins "sorted" = some (.builtin "sorted") := by decide +kernel
theorem bt_str : bootBuiltins "str" = some (.type "str") := by decide +kernel
theorem bt_sum : bootBuiltins "sum" = some (.builtin "sum") := by decide +kernel
theorem bt_tuple : bootBuiltins "tuple" = some (.type "tuple") := by decide +kernel
theorem bt_dict : bootBuiltins "dict" = some (.type "dict") := by decide +kernel
theorem bt_type : bootBuiltins "type" = some (.type "type") := by decide +kernel
/-- names that the module does not take -/
structure Blts (mg : Str → Option Value) : Prop where
  abs : mg "abs" = none
  all : mg "all" = none
  any : mg "any" = none
  bool : mg "bool" = none
  int : mg "int" = none
  isinstance : mg "isinstance" = none
  len : mg "len" = none
  list : mg "list" = none
  max : mg "max" = none
  min : mg "min" = none
  range : mg "range" = none
  repr : mg "repr" = none
  set : mg "set" = none
  sorted : mg "sorted" = none
  str : mg "str" = none
  sum : mg "sum" = none
  tuple : mg "tuple" = none
  zip : mg "zip" = none
  dict : mg "dict" = none
  type : mg "type" = none
  enumerate : mg "enumerate" = none
section
variable {C : SC} {E : EPost} {ρ : Env} {μ : Mem} {e e1 e2 : Expr} {pos p p2 : Pos} {x : Str} {Q : XV → Mem → Prop}
theorem p_isi {y : XV} {T : String} {t : Value} {b : Bool} (B : Blts C.mg) (hg : C.Glob "isinstance") (h : PV C e ρ μ E y) (hg2 : C.Glob x) (hm : C.mg x = none) (hv : bootBuiltins x = some (.type T)) (ty : TyD2 C.K y t) (hk : PySem.W.kitOne C.K t (.type T) = some b) (hn : x ≠ "__name__" := by decide) (hd : (x == ("__debug__" : Str)) = false := by decide)
   (he : ∀ env, starEach [e, .Name x p2] env = (false, eval e env) :: starEach [.Name x p2] env := by intro _; rfl) : PV C (.Call (.Name "isinstance" p) [e, .Name x p2] [] pos) ρ μ E (.d (.bl b)) :=
  p_blt hg B.isinstance bt_isinstance (.inl ⟨_, rfl⟩) (pa_cs h (pa_cs (p_bty hg2 hm hv hn hd) pa_nl (by intro _; rfl)) he) (fun _ q => gc_isi ty hk q) (by decide) (by decide) he (by intro _; rfl)
theorem p_isiC {y : XV} {Cl : Addr} {t : Value} {b : Bool} (B : Blts C.mg) (hg : C.Glob "isinstance") (h : PV C e ρ μ E y) (hg2 : C.Glob x) (hm : C.mg x = some (.ref Cl)) (ty : TyD2 C.K y t) (hk : PySem.W.kitOne C.K t (.ref Cl) = some b) (hd : (x == ("__debug__" : Str)) = false := by decide)
   (he : ∀ env, starEach [e, .Name x p2] env = (false, eval e env) :: starEach [.Name x p2] env := by intro _; rfl) : PV C (.Call (.Name "isinstance" p) [e, .Name x p2] [] pos) ρ μ E (.d (.bl b)) :=
  p_blt hg B.isinstance bt_isinstance (.inl ⟨_, rfl⟩) (pa_cs h (pa_cs (p_globR hg2 hm hd) pa_nl (by intro _; rfl)) he) (fun _ q => gc_isiC ty hk q) (by decide) (by decide) he (by intro _; rfl)
/-- a module's number, a module's text -/
def GI (mg : Str → Option Value) (x : Str) (i : Int) : Prop := ∃ t, mg x = some (.int i t)
def GT (mg : Str → Option Value) (x : Str) (l : List Nat) : Prop := ∃ s t, mg x = some (.str s t) ∧ s.cps.toList = l
theorem p_gI {i : Int} (hg : C.Glob x) (h : GI C.mg x i) (hd : (x == ("__debug__" : Str)) = false := by decide) : PV C (.Name x pos) ρ μ E (.d (.int i)) := by
  obtain ⟨t, h⟩ := h
  exact p_globI hg h hd
theorem p_gT {l : List Nat} (hg : C.Glob x) (h : GT C.mg x l) (hd : (x == ("__debug__" : Str)) = false := by decide) : PV C (.Name x pos) ρ μ E (.d (.txt l)) := by
  obtain ⟨s, t, h, e⟩ := h
  exact p_globT hg h e hd
/-- kit answers of two built-in types -/
theorem kit1 {K : PySem.W.Frag} {a b : String} {r : Bool} (h : kitB a b = some r) : PySem.W.kitOne K (.type a) (.type b) = some r := kit_ty h
theorem k_ii : kitB "int" "int" = some true := by decide +kernel
theorem k_ib : kitB "int" "bool" = some false := by decide +kernel
theorem k_is' : kitB "int" "str" = some false := by decide +kernel
theorem k_ss : kitB "str" "str" = some true := by decide +kernel
theorem k_ll : kitB "list" "list" = some true := by decide +kernel
theorem k_tt : kitB "tuple" "tuple" = some true := by decide +kernel
theorem p_abs {i : Int} (B : Blts C.mg) (hg : C.Glob "abs") (h : PV C e ρ μ E (.d (.int i))) (he : ∀ env, starEach [e] env = (false, eval e env) :: starEach [] env := by intro _; rfl) : PV C (.Call (.Name "abs" p) [e] [] pos) ρ μ E (.d (.int (if i < 0 then -i else i))) :=
  p_blt hg B.abs bt_abs (.inl ⟨_, rfl⟩) (pa_cs h pa_nl he) (fun _ q => gc_abs q) (by decide) (by decide) he
theorem p_max [Calm C] {i j : Int} (B : Blts C.mg) (hg : C.Glob "max") (h : PV C e1 ρ μ E (.d (.int i))) (h2 : PV C e2 ρ μ E (.d (.int j))) (he : ∀ env, starEach [e1, e2] env = (false, eval e1 env) :: starEach [e2] env := by intro _; rfl) (he2 : ∀ env, starEach [e2] env = (false, eval e2 env) :: starEach [] env := by intro _; rfl) (hpl : ∀ env, (backTo pos (starEach [e2] env)).any (·.1) = false := by intro _; rfl) :
    PV C (.Call (.Name "max" p) [e1, e2] [] pos) ρ μ E (.d (.int (if j > i then j else i))) := p_blt hg B.max bt_max (.inl ⟨_, rfl⟩) (pa_cs h (pa_cs h2 pa_nl he2) he) (fun _ q => gc_max2 q) (by decide) (by decide) he hpl
theorem p_min [Calm C] {i j : Int} (B : Blts C.mg) (hg : C.Glob "min") (h : PV C e1 ρ μ E (.d (.int i))) (h2 : PV C e2 ρ μ E (.d (.int j))) (he : ∀ env, starEach [e1, e2] env = (false, eval e1 env) :: starEach [e2] env := by intro _; rfl) (he2 : ∀ env, starEach [e2] env = (false, eval e2 env) :: starEach [] env := by intro _; rfl) (hpl : ∀ env, (backTo pos (starEach [e2] env)).any (·.1) = false := by intro _; rfl) :
    PV C (.Call (.Name "min" p) [e1, e2] [] pos) ρ μ E (.d (.int (if j < i then j else i))) := p_blt hg B.min bt_min (.inl ⟨_, rfl⟩) (pa_cs h (pa_cs h2 pa_nl he2) he) (fun _ q => gc_min2 q) (by decide) (by decide) he hpl
theorem p_intB {b : Bool} (B : Blts C.mg) (hg : C.Glob "int") (h : PV C e ρ μ E (.d (.bl b))) (he : ∀ env, starEach [e] env = (false, eval e env) :: starEach [] env := by intro _; rfl) : PV C (.Call (.Name "int" p) [e] [] pos) ρ μ E (.d (.int (if b then 1 else 0))) :=
  p_blt hg B.int bt_int (.inr ⟨_, rfl⟩) (pa_cs h pa_nl he) (fun _ q => gc_int_bl q) (by decide) (by decide) he
theorem p_all [Calm C] {bs : List Bool} (B : Blts C.mg) (hg : C.Glob "all") (h : PV C e ρ μ E (.d (.lst (bs.map D.bl)))) (he : ∀ env, starEach [e] env = (false, eval e env) :: starEach [] env := by intro _; rfl) : PV C (.Call (.Name "all" p) [e] [] pos) ρ μ E (.d (.bl (bs.all id))) :=
  p_blt hg B.all bt_all (.inl ⟨_, rfl⟩) (pa_cs h pa_nl he) (fun _ q => gc_all q) (by decide) (by decide) he
theorem p_any [Calm C] {bs : List Bool} (B : Blts C.mg) (hg : C.Glob "any") (h : PV C e ρ μ E (.d (.lst (bs.map D.bl)))) (he : ∀ env, starEach [e] env = (false, eval e env) :: starEach [] env := by intro _; rfl) : PV C (.Call (.Name "any" p) [e] [] pos) ρ μ E (.d (.bl (bs.any id))) :=
  p_blt hg B.any bt_any (.inl ⟨_, rfl⟩) (pa_cs h pa_nl he) (fun _ q => gc_any q) (by decide) (by decide) he
theorem p_sum [Calm C] {ns : List Int} (B : Blts C.mg) (hg : C.Glob "sum") (h : PV C e ρ μ E (.d (.lst (ns.map D.int)))) (he : ∀ env, starEach [e] env = (false, eval e env) :: starEach [] env := by intro _; rfl) : PV C (.Call (.Name "sum" p) [e] [] pos) ρ μ E (.d (.int ns.sum)) :=
  p_blt hg B.sum bt_sum (.inl ⟨_, rfl⟩) (pa_cs h pa_nl he) (fun _ q => gc_sum q) (by decide) (by decide) he
theorem p_repr {d : D} (B : Blts C.mg) (hg : C.Glob "repr") (gd : C.g = true) (h : PV C e ρ μ E (.d d)) (hx : d.okEq) (hs : d.isSeq) (hs2 : d.py.showable = true) (hz : d.py.shown.length ≤ sizeLine) (he : ∀ env, starEach [e] env = (false, eval e env) :: starEach [] env := by intro _; rfl) : PV C (.Call (.Name "repr" p) [e] [] pos) ρ μ E (.d (.txt d.py.shown.cps.toList)) :=
  p_blt hg B.repr bt_repr (.inl ⟨_, rfl⟩) (pa_cs h pa_nl he) (fun _ q => gc_repr gd hx hs hs2 hz q) (by decide) (by decide) he
theorem p_tupleL {ds : List D} (B : Blts C.mg) (hg : C.Glob "tuple") (h : PV C e ρ μ E (.d (.lst ds))) (he : ∀ env, starEach [e] env = (false, eval e env) :: starEach [] env := by intro _; rfl) : PV C (.Call (.Name "tuple" p) [e] [] pos) ρ μ E (.d (.tup ds)) :=
  p_blt hg B.tuple bt_tuple (.inr ⟨_, rfl⟩) (pa_cs h pa_nl he) (fun _ q => gc_tuple_lst q) (by decide) (by decide) he
theorem p_listL {ds : List D} (B : Blts C.mg) (hg : C.Glob "list") (h : PV C e ρ μ E (.d (.lst ds))) (he : ∀ env, starEach [e] env = (false, eval e env) :: starEach [] env := by intro _; rfl) : PV C (.Call (.Name "list" p) [e] [] pos) ρ μ E (.d (.lst ds)) :=
  p_blt hg B.list bt_list (.inr ⟨_, rfl⟩) (pa_cs h pa_nl he) (fun _ q => gc_list_lst q) (by decide) (by decide) he
theorem p_listU {ds : List D} (B : Blts C.mg) (hg : C.Glob "list") (h : PV C e ρ μ E (.d (.tup ds))) (he : ∀ env, starEach [e] env = (false, eval e env) :: starEach [] env := by intro _; rfl) : PV C (.Call (.Name "list" p) [e] [] pos) ρ μ E (.d (.lst ds)) :=
  p_blt hg B.list bt_list (.inr ⟨_, rfl⟩) (pa_cs h pa_nl he) (fun _ q => gc_list_tup q) (by decide) (by decide) he
end
/-! ### a law's store: numbers that the draws use up -/
structure DS where
  cells : List Int
  at_ : Int
  mix : Int
def DS.mem (S : DS) : Mem := [some (.lst (S.cells.map fun i => .d (.int i))), some (.lst [.l 0, .d (.int S.at_), .d (.int S.mix)])]
def DS.ok (S : DS) : Prop := S.cells ≠ [] ∧ S.cells.length ≤ 64 ∧ (∀ i ∈ S.cells, 0 ≤ i) ∧ 0 ≤ S.at_ ∧ 0 ≤ S.mix ∧ S.mix < 2147483647
theorem DS.mem_below (S : DS) : ∀ m, some m ∈ S.mem → m.below 2 := by
  intro m h
  unfold DS.mem at h
  simp only [List.mem_cons, Option.some.injEq, List.not_mem_nil, or_false] at h
  rcases h with rfl | rfl
  · intro x hx
    obtain ⟨i, _, rfl⟩ := List.mem_map.mp hx
    trivial
  · intro x hx
    simp only [List.mem_cons, List.not_mem_nil, or_false] at hx
    rcases hx with rfl | rfl | rfl
    · show 0 < 2; decide
    · trivial
    · trivial
/-- a def that takes the store, and data; it answers data, of which the law knows post -/
def cSt (α : Type) (args : α → List D) (pre : α → Prop) (post : α → D → Prop) : Con := ⟨DS × α, fun a => .l 1 :: (args a.2).map XV.d, fun a => a.1.mem, fun a => a.1.ok ∧ pre a.2, fun a o => ∃ (d : D) (S' : DS), o = .ret (.d d) (DS.mem S') ∧ S'.ok ∧ post a.2 d⟩
theorem wf_cSt {α : Type} {args : α → List D} {pre : α → Prop} {post : α → D → Prop} : (cSt α args pre post).Wf := by
  refine ⟨fun a _ x hx => ?_, fun a _ => a.1.mem_below, fun a o _ ho => ?_⟩
  · have hx' : x ∈ XV.l 1 :: (args a.2).map XV.d := hx
    rcases List.mem_cons.mp hx' with rfl | h
    · show 1 < 2; decide
    · obtain ⟨d, _, rfl⟩ := List.mem_map.mp h
      trivial
  · obtain ⟨d, S', rfl, _⟩ := ho
    exact Nat.le_refl _
/-- a call with the store -/
theorem calls_S {α : Type} {args : α → List D} {pre : α → Prop} {post : α → D → Prop} {xs : List XV} {S : DS} {μr : Mem} {Q : XV → Mem → Prop} {EX : Addr → List (Str × D) → Mem → Prop} (a : α) (hS : S.ok) (hp : pre a) (hx : xs = .l 1 :: (args a).map XV.d) (q : ∀ (d : D) (S' : DS), S'.ok → post a d → Q (.d d) (S'.mem ++ μr)) : Calls (cSt α args pre post) xs (S.mem ++ μr) Q EX :=
  ⟨(S, a), μr, ⟨hS, hp⟩, hx.symm, rfl, fun o ho => by
    obtain ⟨d, S', rfl, h1, h2⟩ := ho
    exact .inl ⟨.inl rfl, q d S' h1 h2⟩⟩
theorem DS.mem_nil (S : DS) : S.mem = S.mem ++ [] := by simp
/-- what ends a body that has the store -/
theorem fits_S {α : Type} {args : α → List D} {pre : α → Prop} {post : α → D → Prop} {a : (cSt α args pre post).α} {S : DS} {d : D} {μr : Mem} (hS : S.ok) (hp : post a.2 d) : Fits ((cSt α args pre post).out a) (.d d) (S.mem ++ μr) :=
  ⟨S.mem, ⟨d, S, rfl, hS, hp⟩, ⟨μr, rfl⟩, trivial, S.mem_below⟩
end DL
set_option maxRecDepth 100000
set_option maxHeartbeats 2000000
namespace DL
open PySem L2 PySem.Spec PyProof.Rows
theorem SC.Nm.of {C : SC} {i : Nat} {x : Str} (nd : C.N.Nodup) (hN : C.N[i]? = some x := by rfl) (loc : Loc C.sc x := by first | exact .inl rfl | exact .inr rfl) (own : C.own x = true := by rfl) : C.Nm i x := ⟨nd, hN, loc, own⟩
section
variable {C : SC} {E : EPost} {ρ : Env} {μ : Mem} {e e1 e2 c tg iter : Expr} {pos p p2 : Pos} {x : Str} {Q : XV → Mem → Prop} {D : DEnds} {rest body : List Stmt}
theorem p_vr (i : Nat) {v : XV} (hN : C.N[i]? = some x) (h : ρ[i]? = some (some v)) (hv : C.Vis x := by first | exact .inl rfl | exact .inr (.inl rfl) | exact .inr (.inr rfl)) (hd : (x == ("__debug__" : Str)) = false := by decide) (hcd : (x == ("__classdict__" : Str)) = false := by decide) : PV C (.Name x pos) ρ μ E v := fun _ q => we_var i hN hv h q hd hcd
/-- a, b = e1, e2 and a, b, c = e1, e2, e3: plain local names -/
theorem w1_pr [Calm C] {i j : Nat} {a b : Expr} {y : Str} {px py pt pt2 : Pos} {kt k2 : Nat} (n : C.Nm i x) (n2 : C.Nm j y) (hij : i ≠ j) (h : WE C a ρ μ E fun u μ1 => WE C b ρ μ1 E fun v μ2 => D.nx ((ρ.set i (some u)).set j (some v)) μ2)
    (hx : C.sc.names.lookup x = some .local := by rfl) (hy : C.sc.names.lookup y = some .local := by rfl) (hw : ∀ env : PySem.Env, env.scope = C.sc → swappedStores [.Tuple [.Name x px, .Name y py] kt pt] (.Tuple [a, b] k2 pt2) env = pure (some [x, y]) := by intro env h; cases env; simp only at h; subst h; rfl)
    (hs : ∀ env, swapsWithSole [.Tuple [.Name x px, .Name y py] kt pt] (.Tuple [a, b] k2 pt2) pos.line env = pure false := by intro _; rfl)
    (h1 : ∀ env, starEach [a, b] env = (false, eval a env) :: starEach [b] env := by intro _; rfl) (h2 : ∀ env, starEach [b] env = (false, eval b env) :: starEach [] env := by intro _; rfl) :
    WS1 C (.Assign [.Tuple [.Name x px, .Name y py] kt pt] (.Tuple [a, b] k2 pt2) pos) ρ μ E D := w1_par n n2 hij hx hy h (fun X hX => hw X.env hX.sc) hs h1 h2
theorem w1_pr3 [Calm C] {i j l : Nat} {a b c : Expr} {y z : Str} {px py pz pt pt2 : Pos} {kt k2 : Nat} (n : C.Nm i x) (n2 : C.Nm j y) (n3 : C.Nm l z) (hij : i ≠ j ∧ i ≠ l ∧ j ≠ l) (h : WE C a ρ μ E fun u μ1 => WE C b ρ μ1 E fun v μ2 => WE C c ρ μ2 E fun w μ3 => D.nx (((ρ.set i (some u)).set j (some v)).set l (some w)) μ3)
    (hx : C.sc.names.lookup x = some .local := by rfl) (hy : C.sc.names.lookup y = some .local := by rfl) (hz : C.sc.names.lookup z = some .local := by rfl) (hw : ∀ env : PySem.Env, env.scope = C.sc → swappedStores [.Tuple [.Name x px, .Name y py, .Name z pz] kt pt] (.Tuple [a, b, c] k2 pt2) env = pure (some [x, y, z]) := by intro env h; cases env; simp only at h; subst h; rfl)
    (hs : ∀ env, swapsWithSole [.Tuple [.Name x px, .Name y py, .Name z pz] kt pt] (.Tuple [a, b, c] k2 pt2) pos.line env = pure false := by intro _; rfl)
    (h1 : ∀ env, starEach [a, b, c] env = (false, eval a env) :: starEach [b, c] env := by intro _; rfl) (h2 : ∀ env, starEach [b, c] env = (false, eval b env) :: starEach [c] env := by intro _; rfl) (h3 : ∀ env, starEach [c] env = (false, eval c env) :: starEach [] env := by intro _; rfl) :
    WS1 C (.Assign [.Tuple [.Name x px, .Name y py, .Name z pz] kt pt] (.Tuple [a, b, c] k2 pt2) pos) ρ μ E D := fun X σ H w A =>
  tS1_of (ps_par3 (i := i) (j := j) (l := l) (A.has.calm Calm.h) (by rw [A.has.N]; exact n.nd) (by rw [A.has.N]; exact n.at_) (by rw [A.has.N]; exact n2.at_) (by rw [A.has.N]; exact n3.at_) hij.1 hij.2.1 hij.2.2 (by rw [A.has.sc]; exact hx) (by rw [A.has.sc]; exact hy) (by rw [A.has.sc]; exact hz) (pa_cons pe_tE (pa_cons pe_tE (pa_cons pe_tE pa_nil (h3 _)) (h2 _)) (h1 _)) (hw X.env A.has.sc) (hs _))
    (h.go A fun v H1 z μ1 w1 r1 A1 S1 q1 => q1.go A1 fun v2 H2 z2 μ2 w2 r2 A2 S2 q2 => q2.go A2 fun v3 H3 z3 μ3 w3 r3 A3 S3 q3 => ⟨v, v2, v3, rfl, _, μ3, w3, ((A3.R.put ((r1.stp S2).stp S3) i).put (r2.stp S3) j).put r3 l, A3.M, (S1.trans S2).trans S3, q3⟩)
theorem w1_retQ {z : XV} (h : PV C e ρ μ E z) (q : D.rt z μ) : WS C (.Return (some e) pos :: rest) ρ μ E D := ws_cons (w1_ret (h.go q))
theorem w1_retW (h : WE C e ρ μ E D.rt) : WS C (.Return (some e) pos :: rest) ρ μ E D := ws_cons (w1_ret h)
/-- a loop that changes no cell: I by the turn and the names -/
theorem w1_forP [Calm C] {t : Tg} (I : Nat → Env → Prop) (ht : TgOk C tg t) (h : WI C tg iter ρ μ E fun items G μ1 => μ1 = μ ∧ G μ ∧ I 0 ρ ∧ (∀ (i : Nat) x ρ', items[i]? = some x → I i ρ' → ∃ ρ2, t.put x ρ' ρ2 ∧ WS C body ρ2 μ E { D with nx := fun ρ3 μ3 => μ3 = μ ∧ I (i + 1) ρ3, ct := fun ρ3 μ3 => μ3 = μ ∧ I (i + 1) ρ3, bk := D.nx }) ∧ (∀ ρ', I items.length ρ' → D.nx ρ' μ))
    (hs : ∀ env x, foldedSetIterable iter env x = pure x := by intro _ _; rfl) : WS1 C (.For tg iter body [] pos) ρ μ E D := by
  refine w1_for ht (fun X σ H w A => ?_) hs
  obtain ⟨wi, h1, h2⟩ := h X σ H w A
  refine ⟨wi, h1, fun P k => h2 P fun J H1 items G μ1 w1 A1 S1 dit g0 ⟨em, g1, i0, st, fin⟩ => k J H1 items G μ1 w1 A1 S1 dit g0 ?_⟩
  subst em
  refine ⟨fun i ρ' μ' => μ' = μ1 ∧ I i ρ', ⟨rfl, i0⟩, fun i ρ' μ' _ hp => by rw [hp.1]; exact g1, fun i x ρ' μ' hx hp => ?_, fun ρ' μ' hp => by rw [hp.1]; exact fin ρ' hp.2⟩
  obtain ⟨rfl, hI⟩ := hp
  obtain ⟨ρ2, hput, hb⟩ := st i x ρ' hx hI
  refine ⟨ρ2, hput, fun X σ H w A => ?_⟩
  exact tS_mono (hb X σ H w A) (fun _ _ ⟨ρ3, μ3, w3, R, M, S, q⟩ => ⟨ρ3, μ3, w3, R, M, S, Wk.of q⟩) (fun _ _ q => q) (fun _ _ q => q) (fun _ _ ⟨ρ3, μ3, w3, R, M, S, q⟩ => ⟨ρ3, μ3, w3, R, M, S, Wk.of q⟩)
/-- while, no cell changed: I by what is left -/
theorem w1_whileP (I : Nat → Env → Prop) (m0 : Nat) (h0 : I m0 ρ) (hs : ∀ m ρ', I m ρ' → ∃ b, PB C c ρ' μ E b ∧ (b = true → WS C body ρ' μ E { D with nx := fun ρ3 μ3 => μ3 = μ ∧ ∃ m', m' < m ∧ I m' ρ3, ct := fun ρ3 μ3 => μ3 = μ ∧ ∃ m', m' < m ∧ I m' ρ3, bk := D.nx }) ∧ (b = false → D.nx ρ' μ)) : WS1 C (.While c body [] pos) ρ μ E D := by
  refine w1_while (fun m ρ' μ' => μ' = μ ∧ I m ρ') m0 ⟨rfl, h0⟩ fun m ρ' μ' hp => ?_
  obtain ⟨rfl, hI⟩ := hp
  obtain ⟨b, hb, h1, h2⟩ := hs m ρ' hI
  refine hb.go ⟨fun e => ?_, h2⟩
  exact fun X σ H w A => tS_mono (h1 e X σ H w A) (fun _ _ ⟨ρ3, μ3, w3, R, M, S, q1, m', q2, q3⟩ => ⟨ρ3, μ3, w3, R, M, S, Wk.of ⟨m', q2, q1, q3⟩⟩) (fun _ _ q => q) (fun _ _ q => q) (fun _ _ ⟨ρ3, μ3, w3, R, M, S, q1, m', q2, q3⟩ => ⟨ρ3, μ3, w3, R, M, S, Wk.of ⟨m', q2, q1, q3⟩⟩)
/-- tuples put together -/
theorem go_add_tup {a b : List DL.D} (ha : a ≠ []) (hz : a.length + b.length ≤ sizeLine) (q : Q (.d (.tup (a ++ b))) μ) : Go2 C (binaryOp .Add) (.d (.tup a)) (.d (.tup b)) μ Q := fun X hX H w vx vy M rx ry => by
  obtain ⟨p, xs, rfl, n1, h1, r1⟩ := rx
  obtain ⟨p', ys, rfl, n2, h2, r2⟩ := ry
  have hx : xs ≠ [] := fun e0 => ha (List.length_eq_zero_iff.mp (by rw [← r1.len, e0]; rfl))
  refine rS_of op_catT ⟨p, p', xs, ys, rfl, rfl, SqT.of h1, SqT.of h2, hx, by rw [r1.len, r2.len]; exact hz, fun e0 => ?_, fun _ l hl => ?_⟩
  · have hb : b = [] := List.length_eq_zero_iff.mp (by rw [← r2.len, e0]; rfl)
    subst hb
    exact lift.now M (x := .d (.tup (a ++ []))) ⟨p, xs, rfl, n1, h1, by rw [List.append_nil]; exact r1⟩ q
  · exact lift.new M hl (x := .tup (a ++ b)) (fun nl => ⟨l, xs ++ ys, rfl, nl, upd_same, Reps.append (r1.grow hl) (r2.grow hl)⟩) q
theorem p_addU {a b : List DL.D} {l r : Expr} (h1 : PV C l ρ μ E (.d (.tup a))) (h2 : PV C r ρ μ E (.d (.tup b))) (ha : a ≠ []) (hz : a.length + b.length ≤ sizeLine) : PV C (.BinOp l .Add r pos) ρ μ E (.d (.tup (a ++ b))) := p_bin h1 h2 fun _ q => go_add_tup ha hz q
theorem p_lcS [Calm C] {elt : Expr} {scope : Scope} {own : List (Str × Nat)} {n : Nat} {ns : List Int} {g : Int → DL.D} (ht : TgOk (C.blk scope) tg (.nm n)) (nd : C.N.Nodup) (ok : BlkOk C.N C.sc scope own) (hsl : n ∈ own.map (·.2)) (hi : PV C iter ρ μ E (.d (.scr ns))) (h : ∀ c, c ∈ ns → PV (C.blk scope) elt ((wipeE ρ (own.map (·.2))).set n (some (.d (.int c)))) μ noE (.d (g c))) (hz : ns.length ≤ sizeLine)
    (hs : ∀ env x, foldedSetIterable iter env x = pure x := by intro _ _; rfl) : PV C (.ListComp elt [⟨tg, iter, [], 0⟩] scope pos) ρ μ E (.d (.lst (ns.map g))) := fun Q q =>
  we_lc ht nd ok (by intro j hj; simp only [Tg.slots, List.mem_singleton] at hj; subst hj; exact hsl) (wi_scr (hi _ ⟨ns, rfl, by
    refine lc_map (fun x => match x with | .d (.int c) => g c | _ => .non) (by simpa using hz) trivial (fun x hx => ?_) ?_
    · obtain ⟨c, hc, rfl⟩ := List.mem_map.mp hx
      exact ⟨_, rfl, h c hc _ ⟨rfl, rfl⟩⟩
    · rw [List.map_map]; exact q⟩)) hs
end
section
variable {C : SC} {k : Nat} {N : List Str} {st : Stmt} {Cl : Addr} {m qual : Str}
theorem Mn.p1 {α : Type} {ca : α → D} {pre : α → Prop} {f : α → D} {q : Str} (h : Mn C Cl m qual st [q]) (hc : Cls C.K Cl) (S : FnScope N [q] (defScope st)) (b : ∀ a, pre a → WS (C.defC N (defScope st) k) (defBody st) (startE N [.d (ca a)]) [] noE (endsP (f a))) : MtD C (k + 1) Cl m [q] (cP1 ca pre f) :=
  h.mtd hc S wf_cP1 (fun _ _ => rfl) (body_P (c := cP1 ca pre f) f (fun _ => rfl) (fun _ => rfl) b)
theorem Mn.p2 {α β : Type} {ca : α → D} {cb : β → D} {pre : α → β → Prop} {f : α → β → D} {q q2 : Str} (h : Mn C Cl m qual st [q, q2]) (hc : Cls C.K Cl) (S : FnScope N [q, q2] (defScope st)) (b : ∀ a b, pre a b → WS (C.defC N (defScope st) k) (defBody st) (startE N [.d (ca a), .d (cb b)]) [] noE (endsP (f a b))) : MtD C (k + 1) Cl m [q, q2] (cP2 ca cb pre f) :=
  h.mtd hc S wf_cP2 (fun _ _ => rfl) (body_P (c := cP2 ca cb pre f) (fun a => f a.1 a.2) (fun _ => rfl) (fun _ => rfl) fun a hp => b a.1 a.2 hp)
theorem Mn.p3 {α β γ : Type} {ca : α → D} {cb : β → D} {cc : γ → D} {pre : α → β → γ → Prop} {f : α → β → γ → D} {q q2 q3 : Str} (h : Mn C Cl m qual st [q, q2, q3]) (hc : Cls C.K Cl) (S : FnScope N [q, q2, q3] (defScope st)) (b : ∀ a b c, pre a b c → WS (C.defC N (defScope st) k) (defBody st) (startE N [.d (ca a), .d (cb b), .d (cc c)]) [] noE (endsP (f a b c))) : MtD C (k + 1) Cl m [q, q2, q3] (cP3 ca cb cc pre f) :=
  h.mtd hc S wf_cP3 (fun _ _ => rfl) (body_P (c := cP3 ca cb cc pre f) (fun a => f a.1 a.2.1 a.2.2) (fun _ => rfl) (fun _ => rfl) fun a hp => b a.1 a.2.1 a.2.2 hp)
end
section
variable {C : SC} {E : EPost} {ρ : Env} {μ : Mem} {e e1 e2 o : Expr} {pos p p2 apos cpos : Pos} {x m : Str} {Cl : Addr} {k : Nat} {ps : List Str}
/-- o.m(), o.m(e): methods that change nothing -/
theorem p_meth0 [Calm C] {α : Type} {fs : List Str} {ds : List D} {ca : α → D} {pre : α → Prop} {f : α → D} {pl : PySem.Env → Sem Bool} (a : α) (F : MtD C k Cl m ps (cP1 ca pre f)) (hk : k ≤ C.room) (h : PV C o ρ μ E (.d (.ins Cl fs ds))) (ha : ca a = .ins Cl fs ds) (hm : m ∉ fs) (hp : pre a) (ht : ∀ env, MethForm o m [] [] apos cpos (pl env) env := by intro _; rfl) : PV C (.Call (.Attribute o m apos) [] [] cpos) ρ μ E (.d (f a)) := fun Q q =>
  we_meth0 F hk (h _ ⟨fs, ds, rfl, hm, calls_P (c := cP1 ca pre f) a hp (by show [XV.d (ca a)] = _; rw [ha]) rfl (fun o h => h) q⟩) ht
theorem p_meth1 [Calm C] {α β : Type} {fs : List Str} {ds : List D} {ca : α → D} {cb : β → D} {pre : α → β → Prop} {f : α → β → D} {pl : PySem.Env → Sem Bool} (a : α) {b : β} (F : MtD C k Cl m ps (cP2 ca cb pre f)) (hk : k ≤ C.room) (h : PV C o ρ μ E (.d (.ins Cl fs ds))) (ha : ca a = .ins Cl fs ds) (hm : m ∉ fs) (h1 : PV C e1 ρ μ E (.d (cb b))) (hp : pre a b) (ht : ∀ env, MethForm o m [e1] [] apos cpos (pl env) env := by intro _; rfl) (hs : ∀ env, starEach [e1] env = (false, eval e1 env) :: starEach [] env := by intro _; rfl) : PV C (.Call (.Attribute o m apos) [e1] [] cpos) ρ μ E (.d (f a b)) := fun Q q =>
  we_meth F hk (h _ ⟨fs, ds, rfl, hm, (pa_cs h1 pa_nl hs) _ (calls_P (c := cP2 ca cb pre f) (a, b) hp (by show [XV.d (ca a), XV.d (cb b)] = _; rw [ha]) rfl (fun o h => h) q)⟩) ht hs (by intro _; rfl)
theorem p_meth2 [Calm C] {α β γ : Type} {fs : List Str} {ds : List D} {ca : α → D} {cb : β → D} {cc : γ → D} {pre : α → β → γ → Prop} {f : α → β → γ → D} {pl : PySem.Env → Sem Bool} (a : α) {b : β} {c : γ} (F : MtD C k Cl m ps (cP3 ca cb cc pre f)) (hk : k ≤ C.room) (h : PV C o ρ μ E (.d (.ins Cl fs ds))) (ha : ca a = .ins Cl fs ds) (hm : m ∉ fs) (h1 : PV C e1 ρ μ E (.d (cb b))) (h2 : PV C e2 ρ μ E (.d (cc c))) (hp : pre a b c) (ht : ∀ env, MethForm o m [e1, e2] [] apos cpos (pl env) env := by intro _; rfl) (hs : ∀ env, starEach [e1, e2] env = (false, eval e1 env) :: starEach [e2] env := by intro _; rfl) (hs2 : ∀ env, starEach [e2] env = (false, eval e2 env) :: starEach [] env := by intro _; rfl) (hpl : ∀ env, (backTo cpos (starEach [e2] env)).any (·.1) = false := by intro _; rfl) : PV C (.Call (.Attribute o m apos) [e1, e2] [] cpos) ρ μ E (.d (f a b c)) := fun Q q =>
  we_meth F hk (h _ ⟨fs, ds, rfl, hm, (pa_cs h1 (pa_cs h2 pa_nl hs2) hs) _ (calls_P (c := cP3 ca cb cc pre f) (a, b, c) hp (by show [XV.d (ca a), XV.d (cb b), XV.d (cc c)] = _; rw [ha]) rfl (fun o h => h) q)⟩) ht hs hpl
end
end DL
set_option maxRecDepth 100000
set_option maxHeartbeats 2000000
namespace DL
open PySem L2 PySem.Spec PyProof.Rows
theorem cmul_s {i j : Int} (h1 : -4294967296 ≤ i) (h2 : i ≤ 4294967296) : CMul i j := .inl ⟨by omega, by omega⟩
theorem szz : sizeLine = 16777216 := sizeLine_eq
theorem sz_of {n : Nat} (h : n ≤ 16777216) : n ≤ sizeLine := by rw [szz]; exact h
theorem atI_in {α : Type} {l : List α} {i : Int} (h1 : 0 ≤ i) (h2 : i < (l.length : Int)) (d : α) : atI l i = some (l.getD i.toNat d) := by
  unfold atI ixN
  rw [if_pos h1, if_pos h2]
  show l[i.toNat]? = _
  rw [List.getD_eq_getElem?_getD, List.getElem?_eq_getElem (by omega)]
  rfl
theorem cut_to {α : Type} {l : List α} {i : Int} (h1 : 0 ≤ i) : cut l none (some i) = l.take i.toNat := by
  have e1 : HT.sIx l.length l.length (some i) = min i.toNat l.length := if_neg (by omega)
  unfold cut
  rw [e1]
  show (l.drop 0).take (min i.toNat l.length - 0) = _
  rw [List.drop_zero, Nat.sub_zero]
  by_cases h : i.toNat ≤ l.length
  · rw [Nat.min_eq_left h]
  · rw [Nat.min_eq_right (by omega), List.take_length, List.take_of_length_le (by omega)]
theorem cut_from {α : Type} {l : List α} {i : Int} (h1 : 0 ≤ i) : cut l (some i) none = l.drop i.toNat := by
  have e1 : HT.sIx l.length 0 (some i) = min i.toNat l.length := if_neg (by omega)
  unfold cut
  rw [e1]
  show (l.drop (min i.toNat l.length)).take (l.length - min i.toNat l.length) = _
  by_cases h : i.toNat ≤ l.length
  · rw [Nat.min_eq_left h, List.take_of_length_le (by rw [List.length_drop]; exact Nat.le_refl _)]
  · rw [Nat.min_eq_right (by omega), List.drop_length, List.drop_of_length_le (by omega)]
    simp
theorem cut_len {α : Type} (l : List α) (a b : Option Int) : (cut l a b).length ≤ l.length := by
  unfold cut
  rw [List.length_take, List.length_drop]
  omega
theorem cut_mem {α : Type} {l : List α} {a b : Option Int} {x : α} (h : x ∈ cut l a b) : x ∈ l := List.mem_of_mem_drop (List.mem_of_mem_take h)
/-- how a law's store begins -/
def cBegun : Con := ⟨List Int, fun ns => [.d (.scr ns)], fun _ => [], fun ns => ns.length ≤ 63, fun _ o => ∃ S : DS, S.ok ∧ o = .ret (.l 1) S.mem⟩
theorem wf_cBegun : cBegun.Wf := by
  refine ⟨fun a _ x hx => ?_, fun a _ m hm => (List.not_mem_nil hm).elim, fun a o _ ho => by obtain ⟨S, _, rfl⟩ := ho; exact Nat.zero_le _⟩
  have hx' : x ∈ [XV.d (.scr a)] := hx
  simp only [List.mem_cons, List.not_mem_nil, or_false] at hx'
  subst hx'
  trivial
theorem begun_fits {ns : List Int} (hl : ns.length ≤ 63) :
    Fits (cBegun.out ns) (.l 1) ([some (.lst ((ns.map (fun c => D.int (if c < 0 then -c else c)) ++ (List.replicate (if decide ((ns.length : Int) = 0) = true then (1 : Int) else 0).toNat [D.int 1]).flatten).map XV.d))] ++ [some (.lst [.l 0, .d (.int 0), .d (.int 1)])]) := by
  let S : DS := ⟨ns.map (fun c => if c < 0 then -c else c) ++ (if ns = [] then [1] else []), 0, 1⟩
  have e : ([some (MO.lst ((ns.map (fun c => D.int (if c < 0 then -c else c)) ++ (List.replicate (if decide ((ns.length : Int) = 0) = true then (1 : Int) else 0).toNat [D.int 1]).flatten).map XV.d))] ++ [some (.lst [.l 0, .d (.int 0), .d (.int 1)])]) = S.mem := by
    have e1 : (ns.map (fun c => D.int (if c < 0 then -c else c)) ++ (List.replicate (if decide ((ns.length : Int) = 0) = true then (1 : Int) else 0).toNat [D.int 1]).flatten).map XV.d = S.cells.map fun i => XV.d (.int i) := by
      show _ = (ns.map (fun c => if c < 0 then -c else c) ++ (if ns = [] then [1] else [])).map fun i => XV.d (.int i)
      cases ns with
      | nil => rfl
      | cons n ns =>
        have : decide (((n :: ns).length : Int) = 0) = false := decide_eq_false (by rw [List.length_cons]; omega)
        rw [this]
        simp
    rw [e1]
    rfl
  refine ⟨S.mem, ⟨S, ⟨?_, ?_, ?_, Int.le_refl _, (by decide : (0 : Int) ≤ 1), (by decide : (1 : Int) < 2147483647)⟩, rfl⟩, ⟨[], by rw [List.append_nil]; exact e⟩, (by show 1 < 2; decide), S.mem_below⟩
  · show ns.map _ ++ _ ≠ []
    cases ns <;> simp
  · show (ns.map _ ++ _).length ≤ 64
    rw [List.length_append, List.length_map]
    split <;> simp <;> omega
  · intro i hi
    have hi : i ∈ ns.map (fun c => if c < 0 then -c else c) ++ (if ns = [] then [1] else []) := hi
    rcases List.mem_append.mp hi with h | h
    · obtain ⟨c, _, rfl⟩ := List.mem_map.mp h
      split <;> omega
    · split at h
      · simp at h; omega
      · simp at h
/-- a draw -/
def cDraw : Con := cSt Int (fun n => [.int n]) (fun n => 0 < n ∧ n ≤ 1000000000) fun n d => ∃ r : Int, d = .int r ∧ 0 ≤ r ∧ r < n
theorem draw_big {S : DS} {n sp cl r : Int} (hS : S.ok) (hsp : S.at_ % (S.cells.length : Int) = sp) (m1 : 0 ≤ sp) (m2 : sp < (S.cells.length : Int)) (hcl : 0 ≤ cl) (hn : 0 < n) (r1 : 0 ≤ r) (r2 : r < n) :
    Fits (cDraw.out (S, n)) (.d (.int r)) (S.mem.set 0 (some (.lst ((S.cells.map fun i => XV.d (.int i)).set sp.toNat (.d (.int (cl / n))))))) := by
  obtain ⟨h1, h1b, h2, h3, h4, h5⟩ := hS
  let S' : DS := ⟨S.cells.set sp.toNat (cl / n), S.at_, S.mix⟩
  have e : S.mem.set 0 (some (.lst ((S.cells.map fun i => XV.d (.int i)).set sp.toNat (.d (.int (cl / n)))))) = S'.mem := by
    show [some (MO.lst _), _] = [some (MO.lst ((S.cells.set sp.toNat (cl / n)).map _)), _]
    rw [List.map_set]
  have ok' : S'.ok := by
    refine ⟨fun z => h1 ?_, by show (S.cells.set _ _).length ≤ 64; rw [List.length_set]; exact h1b, fun i hi => ?_, h3, h4, h5⟩
    · have := congrArg List.length z
      have : (S.cells.set sp.toNat (cl / n)).length = 0 := this
      rw [List.length_set] at this
      exact List.length_eq_zero_iff.mp this
    · rcases List.mem_or_eq_of_mem_set hi with h | h
      · exact h2 i h
      · rw [h]; exact Int.ediv_nonneg hcl (by omega)
  rw [e]
  exact ⟨S'.mem, ⟨_, S', rfl, ok', r, rfl, r1, r2⟩, ⟨[], by simp⟩, trivial, S'.mem_below⟩
theorem draw_mix {S : DS} {n mx r : Int} (hS : S.ok) (q1 : 0 ≤ mx) (q2 : mx < 2147483647) (r1 : 0 ≤ r) (r2 : r < n) :
    Fits (cDraw.out (S, n)) (.d (.int r)) ((S.mem.set 1 (some (.lst ([XV.l 0, .d (.int S.at_), .d (.int S.mix)].set 1 (.d (.int (S.at_ + 1))))))).set 1 (some (.lst (([XV.l 0, .d (.int S.at_), .d (.int S.mix)].set 1 (.d (.int (S.at_ + 1)))).set 2 (.d (.int mx)))))) := by
  obtain ⟨h1, h1b, h2, h3, h4, h5⟩ := hS
  let S' : DS := ⟨S.cells, S.at_ + 1, mx⟩
  have ok' : S'.ok := ⟨h1, h1b, h2, (by show 0 ≤ S.at_ + 1; omega), q1, q2⟩
  exact ⟨S'.mem, ⟨_, S', rfl, ok', r, rfl, r1, r2⟩, ⟨[], by simp; rfl⟩, trivial, S'.mem_below⟩
end DL
set_option maxRecDepth 100000
set_option maxHeartbeats 2000000
namespace DL
open PySem L2 PySem.Spec PyProof.Rows
theorem atI_all {α : Type} {l : List α} {P : α → Prop} {i : Int} (h : ∀ x ∈ l, P x) (h1 : 0 ≤ i) (h2 : i < (l.length : Int)) : ∃ x, atI l i = some x ∧ P x := by
  unfold atI ixN
  rw [if_pos h1, if_pos h2]
  refine ⟨l[i.toNat]'(by omega), ?_, h _ (List.getElem_mem _)⟩
  show l[i.toNat]? = _
  rw [List.getElem?_eq_getElem (by omega)]
/-- from the end -/
theorem atI_neg {α : Type} {l : List α} {P : α → Prop} {i : Int} (h : ∀ x ∈ l, P x) (h1 : i < 0) (h2 : -(l.length : Int) ≤ i) : ∃ x, atI l i = some x ∧ P x := by
  unfold atI ixN
  rw [if_neg (by omega), if_pos h2]
  refine ⟨l[(i + (l.length : Int)).toNat]'(by omega), ?_, h _ (List.getElem_mem _)⟩
  show l[(i + (l.length : Int)).toNat]? = _
  rw [List.getElem?_eq_getElem (by omega)]
section
variable {C : SC} {E : EPost} {ρ : Env} {e st a elt tg : Expr} {es : List Expr} {pos p p2 : Pos} {x : Str} {k : Nat} {ps : List Str} {Q : XV → Mem → Prop} {S : DS} {μr : Mem}
/-- a def that takes the store is called -/
theorem we_store [Calm C] {α : Type} {args : α → List D} {pre : α → Prop} {post : α → D → Prop} {xs : List XV} (a : α) (F : FnD C k x ps (cSt α args pre post)) (hk : k ≤ C.room) (hg : C.Glob x) (h : PA C (e :: es) ρ (S.mem ++ μr) E (.l 1 :: xs)) (hx : xs = (args a).map XV.d) (hS : S.ok) (hp : pre a) (q : ∀ (d : D) (S' : DS), S'.ok → post a d → Q (.d d) (S'.mem ++ μr)) (hdb : (x == ("__debug__" : Str)) = false := by decide)
    (he : ∀ env, starEach (e :: es) env = (false, eval e env) :: starEach es env := by intro _; rfl) (hpl : ∀ env, (backTo pos (starEach es env)).any (·.1) = false := by intro _; rfl) : WE C (.Call (.Name x p) (e :: es) [] pos) ρ (S.mem ++ μr) E Q :=
  we_call F hk hg (h _ (calls_S a hS hp (by rw [hx]) q)) hdb he hpl
theorem we_draw [Calm C] {n : Int} (F : FnD C k x ps cDraw) (hk : k ≤ C.room) (hg : C.Glob x) (hs : PV C st ρ (S.mem ++ μr) E (.l 1)) (h : PV C e ρ (S.mem ++ μr) E (.d (.int n))) (hS : S.ok) (hn : 0 < n ∧ n ≤ 1000000000) (q : ∀ (r : Int) (S' : DS), S'.ok → 0 ≤ r → r < n → Q (.d (.int r)) (S'.mem ++ μr)) (hdb : (x == ("__debug__" : Str)) = false := by decide)
    (he : ∀ env, starEach [st, e] env = (false, eval st env) :: starEach [e] env := by intro _; rfl) (he2 : ∀ env, starEach [e] env = (false, eval e env) :: starEach [] env := by intro _; rfl) (hpl : ∀ env, (backTo pos (starEach [e] env)).any (·.1) = false := by intro _; rfl) : WE C (.Call (.Name x p) [st, e] [] pos) ρ (S.mem ++ μr) E Q :=
  we_store n F hk hg (pa_cs hs (pa_cs h pa_nl he2) he) rfl hS hn (fun d S' hS' hd => by obtain ⟨r, rfl, h1, h2⟩ := hd; exact q r S' hS' h1 h2) hdb he hpl
/-- [elt for k in range(size)], elt draws -/
theorem we_lcStore [Calm C] {scope : Scope} {own : List (Str × Nat)} {n : Nat} {size : Int} (I : Nat → List D → Prop) (hr : C.mg "range" = none) (hg : C.Glob "range") (ht : TgOk (C.blk scope) tg (.nm n)) (nd : C.N.Nodup) (ok : BlkOk C.N C.sc scope own) (hsl : n ∈ own.map (·.2)) (ha : PV C a ρ (S.mem ++ μr) E (.d (.int size))) (hS : S.ok) (hz : size ≤ 16777216) (hz2 : -16777216 ≤ size)
    (h0 : I 0 []) (step : ∀ (i : Nat) (acc : List D) (S' : DS), S'.ok → i < size.toNat → I i acc → WE (C.blk scope) elt ((wipeE ρ (own.map (·.2))).set n (some (.d (.int (0 + (i : Nat)))))) (S'.mem ++ μr) noE fun y μ3 => ∃ (d : D) (S2 : DS), y = .d d ∧ μ3 = S2.mem ++ μr ∧ S2.ok ∧ I (i + 1) (acc ++ [d]))
    (q : ∀ (acc : List D) (S' : DS), S'.ok → I size.toNat acc → Q (.d (.lst acc)) (S'.mem ++ μr)) (hs : ∀ env x, foldedSetIterable (.Call (.Name "range" p) [a] [] p2) env x = pure x := by intro _ _; rfl) (hs1 : ∀ env, starEach [a] env = [(false, eval a env)] := by intro _; rfl) :
    WE C (.ListComp elt [⟨tg, .Call (.Name "range" p) [a] [] p2, [], 0⟩] scope pos) ρ (S.mem ++ μr) E Q :=
  we_lc ht nd ok (by intro j hj; simp only [Tg.slots, List.mem_singleton] at hj; subst hj; exact hsl) (wi_range1 hg hr (ha _ ⟨size, rfl, by omega, by omega, by
    refine lc_inv (fun i acc μ' => ∃ S' : DS, S'.ok ∧ μ' = S'.mem ++ μr ∧ I i acc) (by rw [rng_len]; exact sz_of (by omega)) ⟨S, hS, rfl, h0⟩ (fun _ _ _ _ _ => trivial) (fun i x acc μ' hx hp => ?_) (fun acc μ' hp => ?_)
    · obtain ⟨S', hS', rfl, hI⟩ := hp
      obtain ⟨hi, rfl⟩ := rng_get hx
      refine ⟨_, rfl, (step i acc S' hS' hi hI).cont fun y μ3 hy => ?_⟩
      obtain ⟨d, S2, rfl, rfl, h2, h3⟩ := hy
      exact ⟨d, rfl, S2, h2, rfl, h3⟩
    · obtain ⟨S', hS', rfl, hI⟩ := hp
      rw [rng_len] at hI
      exact q acc S' hS' hI⟩) hs1) hs
end
/-- one sign of a text, the text known by what its signs are -/
theorem joinL_ones (l : List Nat) : TL.joinL [] (l.map fun c => [c]) = l := by
  rw [joinL_nil]
  induction l with
  | nil => rfl
  | cons c l ih => rw [List.map_cons, List.flatten_cons, ih]; rfl
theorem sum_one (l : List Nat) : ((l.map fun c => [c]).map (·.length)).sum = l.length := by
  induction l with
  | nil => rfl
  | cons c l ih => rw [List.map_cons, List.map_cons, List.sum_cons, ih]; simp; omega
end DL
set_option maxRecDepth 100000
set_option maxHeartbeats 2000000
namespace DL
open PySem L2 PySem.Spec PyProof.Rows
/-! ### how long a repr is -/
mutual
def D.sz : D → Nat
  | .txt l => 10 * l.length + 2
  | .int _ => 1921
  | .lst ds => D.szs ds + 2
  | .tup ds => D.szs ds + 3
  | _ => 5
def D.szs : List D → Nat
  | [] => 0
  | d :: ds => d.sz + 2 + D.szs ds
end
mutual
/-- ints that repr shows -/
def D.ish : D → Bool
  | .int i => decide (i.natAbs.log2 < 1920)
  | .lst ds => D.ishs ds
  | .tup ds => D.ishs ds
  | _ => true
def D.ishs : List D → Bool
  | [] => true
  | d :: ds => d.ish && D.ishs ds
end
mutual
theorem D.showable_of : ∀ d : D, d.ish = true → d.py.showable = true
  | .non, _ => by unfold D.py; rfl
  | .bl _, _ => by unfold D.py; rfl
  | .int i, h => by unfold D.ish at h; unfold D.py; exact h
  | .txt _, _ => by unfold D.py; rfl
  | .lst ds, h => by unfold D.ish at h; unfold D.py; exact D.showables_of ds h
  | .tup ds, h => by unfold D.ish at h; unfold D.py; exact D.showables_of ds h
  | .ty _, _ => by unfold D.py; rfl
  | .ref _, _ => by unfold D.py; rfl
  | .scr _, _ => by unfold D.py; rfl
  | .ins _ _ _, _ => by unfold D.py; rfl
  | .dct _ _, _ => by unfold D.py; rfl
  | .dcn _ _ _, _ => by unfold D.py; rfl
  | .exc _ _ _, _ => by unfold D.py; rfl
theorem D.showables_of : ∀ ds : List D, D.ishs ds = true → PyData.showableAll (D.pys ds) = true
  | [], _ => by unfold D.pys; rfl
  | d :: ds, h => by
    unfold D.ishs at h
    rw [Bool.and_eq_true] at h
    unfold D.pys PyData.showableAll
    rw [D.showable_of d h.1, D.showables_of ds h.2]
    rfl
end
theorem piled_sum : ∀ ts : List Str, piled ts = (ts.map (·.length)).sum + 2 * ts.length
  | [] => rfl
  | t :: r => by rw [piled_cons, piled_sum r, List.map_cons, List.sum_cons, List.length_cons]; omega
theorem join_le (ts : List Str) : (Str.join ", " ts).length ≤ piled ts := by
  cases ts with
  | nil => exact Nat.zero_le _
  | cons t r => have := join_length_add (t :: r) (by simp); omega
mutual
theorem D.shown_le : ∀ d : D, d.plain = true → d.ish = true → d.py.shown.length ≤ d.sz
  | .non, _, _ => by unfold D.py PyData.shown D.sz; exact (by decide : (4 : Nat) ≤ 5)
  | .bl b, _, _ => by unfold D.py PyData.shown D.sz; cases b <;> decide
  | .int i, _, h => by
    unfold D.ish at h
    unfold D.py PyData.shown D.sz
    have := int_text_length_le (a := i) (k := 1920) (by decide) (of_decide_eq_true h)
    show (Str.ofString (toString i)).length ≤ 1921
    rw [PySem.ofString_length]
    omega
  | .txt l, p, _ => by
    unfold D.plain at p
    unfold D.py PyData.shown D.sz
    have := StrLaws.reprText_len (SX.S l) (fun c hc => by
      have := List.all_eq_true.mp p c hc
      have := of_decide_eq_true this
      have e : (16 : Nat) ^ 8 = 4294967296 := by decide
      omega)
    rw [SX.S_len] at this
    exact this
  | .lst ds, p, h => by
    unfold D.plain at p
    unfold D.ish at h
    have k := D.showns_le ds p h
    unfold D.py PyData.shown D.sz listText
    have j := textFrom_len_le (PyData.shownAll (D.pys ds)) 0 "["
    rw [piled_sum] at k
    rw [strLen_append]
    have e1 : (("[" : String) : Str).length = 1 := rfl
    have e2 : (("]" : String) : Str).length = 1 := rfl
    omega
  | .tup ds, p, h => by
    unfold D.plain at p
    unfold D.ish at h
    have k := D.showns_le ds p h
    unfold D.py PyData.shown D.sz tupleText
    have j := join_le (PyData.shownAll (D.pys ds))
    rw [strLen_append, strLen_append]
    have e1 : (("(" : String) : Str).length = 1 := rfl
    have e2 : (Str.ofString (if (PyData.shownAll (D.pys ds)).length == 1 then ",)" else ")" : String)).length ≤ 2 := by split <;> decide
    omega
  | .ty _, p, _ => by unfold D.plain at p; cases p
  | .ref _, p, _ => by unfold D.plain at p; cases p
  | .scr _, p, _ => by unfold D.plain at p; cases p
  | .ins _ _ _, p, _ => by unfold D.plain at p; cases p
  | .dct _ _, p, _ => by unfold D.plain at p; cases p
  | .dcn _ _ _, p, _ => by unfold D.plain at p; cases p
  | .exc _ _ _, p, _ => by unfold D.plain at p; cases p
theorem D.showns_le : ∀ ds : List D, D.plains ds = true → D.ishs ds = true → piled (PyData.shownAll (D.pys ds)) ≤ D.szs ds
  | [], _, _ => by unfold D.pys D.szs; exact Nat.le_refl _
  | d :: ds, p, h => by
    unfold D.plains at p
    unfold D.ishs at h
    rw [Bool.and_eq_true] at p h
    have k1 := D.shown_le d p.1 h.1
    have k2 := D.showns_le ds p.2 h.2
    unfold D.pys D.szs PyData.shownAll
    rw [piled_cons]
    omega
end
/-- what repr needs, in short -/
structure D.okR (d : D) : Prop where
  plain : d.plain = true
  depth : d.py.depth ≤ 64
  ish : d.ish = true
  sz : d.sz ≤ 16777216
  seq : d.isSeq
def D.rp (d : D) : List Nat := d.py.shown.cps.toList
theorem log_small {i : Int} (h1 : -1000000000000 ≤ i) (h2 : i ≤ 1000000000000) : i.natAbs.log2 < 1920 := by
  by_cases h : i.natAbs = 0
  · rw [h]; decide
  · have : i.natAbs.log2 < 64 := (Nat.log2_lt h).mpr (by have e : (2 : Nat) ^ 64 = 18446744073709551616 := (by decide); rw [e]; omega)
    omega
section
variable {C : SC} {E : EPost} {ρ : Env} {μ : Mem} {e o : Expr} {pos p apos cpos : Pos} {x : Str} {Q : XV → Mem → Prop} {k : Nat} {ps : List Str} {N : List Str} {st : Stmt}
theorem p_rp {d : D} (B : Blts C.mg) (hg : C.Glob "repr") (gd : C.g = true) (h : PV C e ρ μ E (.d d)) (ok : d.okR) (he : ∀ env, starEach [e] env = (false, eval e env) :: starEach [] env := by intro _; rfl) : PV C (.Call (.Name "repr" p) [e] [] pos) ρ μ E (.d (.txt d.rp)) :=
  p_repr B hg gd h ⟨ok.plain, ok.depth⟩ ok.seq (D.showable_of d ok.ish) (sz_of (Nat.le_trans (D.shown_le d ok.plain ok.ish) ok.sz)) he
theorem w_rp (B : Blts C.mg) (hg : C.Glob "repr") (gd : C.g = true) (h : WE C e ρ μ E fun z μ1 => ∃ d : D, z = .d d ∧ d.okR ∧ Q (.d (.txt d.rp)) μ1) (he : ∀ env, starEach [e] env = (false, eval e env) :: starEach [] env := by intro _; rfl) : WE C (.Call (.Name "repr" p) [e] [] pos) ρ μ E Q :=
  we_callB hg B.repr bt_repr (.inl ⟨_, rfl⟩) (wa_cons (h.cont fun z μ1 ⟨d, ez, ok, q⟩ => by subst ez; exact wa_nil (gc_repr gd ⟨ok.plain, ok.depth⟩ ok.seq (D.showable_of d ok.ish) (sz_of (Nat.le_trans (D.shown_le d ok.plain ok.ish) ok.sz)) q)) he) (by decide) (by decide) he
/-- sep.join of what draws give -/
theorem w_join {sep : List Nat} (ho : PV C o ρ μ E (.d (.txt sep))) (h : WE C e ρ μ E fun z μ1 => ∃ ls : List (List Nat), z = .d (.lst (ls.map D.txt)) ∧ (ls.map (·.length)).sum + ls.length * sep.length ≤ 16777216 ∧ Q (.d (.txt (TL.joinL sep ls))) μ1) (hbase : ∀ env, attributeBase o "join" env (eval o env) = eval o env := by intro _; rfl)
    (hfew : ∀ env, ((backTo cpos (starEach [e] env)).all (fun x => !x.1) && (backToKw cpos (keywordEach [] env)).all (fun x => x.1.isSome) && decide ([e].length + ([] : List Keyword).length + (if ([] : List Keyword).isEmpty then 0 else 1) < 30)) = true := by intro _; rfl)
    (hline : (apos.endLine == cpos.line) = true := by rfl) (hs : ∀ env, starEach [e] env = (false, eval e env) :: starEach [] env := by intro _; rfl) : WE C (.Call (.Attribute o "join" apos) [e] [] cpos) ρ μ E Q :=
  we_bm PySem.F.plainAttrs_str PySem.F.slot_str_join PySem.F.type_str_join (ho _ ⟨rfl, wa_cons (h.cont fun z μ1 ⟨ls, ez, hz, q⟩ => by subst ez; exact wa_nil (gm_join hz q)) hs⟩) hbase hfew hline hs
/-- the ends of a body that has the store -/
def endsS (post : D → Prop) : DEnds := { nx := fun _ _ => False, rt := fun z μ2 => ∃ (d : D) (S' : DS) (μr : Mem), z = .d d ∧ μ2 = S'.mem ++ μr ∧ S'.ok ∧ post d }
theorem Dn.sto {α : Type} {args : α → List D} {pre : α → Prop} {post : α → D → Prop} (h : Dn C x st ps) (S : FnScope N ps (defScope st)) (len : ∀ a, pre a → (args a).length + 1 = ps.length) (b : ∀ (S : DS) (a : α), S.ok → pre a → WS (C.defC N (defScope st) k) (defBody st) (startE N (.l 1 :: (args a).map XV.d)) (S.mem ++ []) noE (endsS (post a))) : FnD C (k + 1) x ps (cSt α args pre post) := by
  refine h.fnd S wf_cSt (fun a hp => ?_) fun a hp X σ H w A => ?_
  · show (XV.l 1 :: (args a.2).map XV.d).length = _
    rw [List.length_cons, List.length_map]
    exact len a.2 hp.2
  · have A' : At (C.defC N (defScope st) k) X noE (startE N (.l 1 :: (args a.2).map XV.d)) (a.1.mem ++ []) σ H w := by
      rw [List.append_nil]
      exact ⟨A.has, A.M, A.R, A.T.imp fun cls d σ' H' h => by obtain ⟨_, _, _, _, _, _, _, _, _, _, z⟩ := h; exact z.elim⟩
    have r := b a.1 a.2 hp.1 hp.2 X σ H w A'
    rw [List.append_nil] at r
    refine tS_mono r (fun σ' H' q => ?_) (fun v H' q => ?_) (fun _ _ q => ?_) (fun _ _ q => ?_)
    · obtain ⟨_, _, _, _, _, _, z⟩ := q; exact z.elim
    · obtain ⟨z, μ', w', R, M, S, d, S', μr, rfl, rfl, hS, hp⟩ := q
      exact ⟨_, _, w', R, M, S, fits_S hS hp⟩
    · obtain ⟨_, _, _, _, _, _, z⟩ := q; exact z.elim
    · obtain ⟨_, _, _, _, _, _, z⟩ := q; exact z.elim
theorem tS1_mono {X : Cx} {s : Stmt} {σ : L2.St} {H : Hp} {D1 D2 : Ends} (h : tS1 X s D1 σ H) (k1 : ∀ σ H, D1.nx σ H → D2.nx σ H) (k2 : ∀ v H, D1.rt v H → D2.rt v H) (k3 : ∀ σ H, D1.bk σ H → D2.bk σ H) (k4 : ∀ σ H, D1.ct σ H → D2.ct σ H) : tS1 X s D2 σ H := fun pins s I =>
  thn (h pins s I) fun _ _ q => SP_mono q k1 k2 k3 k4
/-- a statement, then what holds behind it -/
theorem ws_seq {s : Stmt} {rest : List Stmt} {D1 : DEnds} (P : Env → Mem → Prop) (h : WS1 C s ρ μ E { D1 with nx := P }) (k : ∀ ρ' μ', P ρ' μ' → WS C rest ρ' μ' E D1) : WS C (s :: rest) ρ μ E D1 :=
  ws_cons fun X σ H w A => tS1_mono (h X σ H w A) (fun σ' H' ⟨ρ', μ', w', R, M, S, q⟩ => ⟨ρ', μ', w', R, M, S, k ρ' μ' q⟩) (fun _ _ q => q) (fun _ _ q => q) (fun _ _ q => q)
end
theorem repT_mem {l : List Nat} {k : Int} {c : Nat} (h : c ∈ repT l k) : c ∈ l := by
  unfold repT at h
  obtain ⟨m, hm, hc⟩ := List.mem_flatten.mp h
  rw [List.eq_of_mem_replicate hm] at hc
  exact hc
theorem repT_len (l : List Nat) (k : Int) : (repT l k).length = k.toNat * l.length := by unfold repT; simp
end DL
set_option maxRecDepth 100000
set_option maxHeartbeats 2000000
namespace DL
open PySem L2 PySem.Spec PyProof.Rows
/-! ### what the top has written, as facts -/
section
variable {K : PySem.W.Frag} {h : Heap} {mg : Str → Option Value} {x m qual : Str} {st : Stmt} {ps ks : List Str} {n : Nat} {ix : List Nat} {f Cl : Addr} {oc : Value} {od an : Option Addr} {osl : Array (Option Value)} {kV doc pm cdv ct : Value} {C : SC}
def DF (K : PySem.W.Frag) (x : Str) (st : Stmt) : Prop := ∃ f, PySem.W.nsIn K mainGlobals x = some (some (.ref f)) ∧ FObj K x x st f
def DM (K : PySem.W.Frag) (Cl : Addr) (m qual : Str) (st : Stmt) : Prop := ∃ f, PySem.W.findIn K (.ref Cl) m = some (some (.ref f)) ∧ PySem.W.isFn K (.ref f) = true ∧ FObj K m qual st f
theorem df_mk (a : PySem.W.nsIn K mainGlobals x = some (some (.ref f))) (l : K.lookup f = some ⟨oc, od, .func (PySem.W.fnOf x x (defArgs st) (defBody st) (defScope st) .none kV doc pm an cdv ct), osl⟩) (c : PySem.W.codeIn K cdv x = true) (k : PySem.W.keepIn K (.ref f) = true) : DF K x st := ⟨f, a, fobj l c k⟩
theorem dm_mk (a : PySem.W.findIn K (.ref Cl) m = some (some (.ref f))) (i : PySem.W.isFn K (.ref f) = true) (l : K.lookup f = some ⟨oc, od, .func (PySem.W.fnOf m qual (defArgs st) (defBody st) (defScope st) .none kV doc pm an cdv ct), osl⟩) (c : PySem.W.codeIn K cdv qual = true) (k : PySem.W.keepIn K (.ref f) = true) : DM K Cl m qual st := ⟨f, a, i, fobj l c k⟩
theorem DF.dn (d : DF K x st) (hK : C.K = K) (hm : C.mg = mg) (X : K.In h) (G : h.Ns mainGlobals mg) (b : BindAll x x st ps) : Dn C x st ps := by
  obtain ⟨f, a, F⟩ := d
  exact dn_of hK hm X G a F b
theorem DF.dk (d : DF K x st) (hK : C.K = K) (hm : C.mg = mg) (X : K.In h) (G : h.Ns mainGlobals mg) (b : BindKw x x st ps n ks ix) : Dk C x st ps n ks ix := by
  obtain ⟨f, a, F⟩ := d
  exact dk_of hK hm X G a F b
theorem DM.mn (d : DM K Cl m qual st) (hK : C.K = K) (b : BindAll m qual st ps) : Mn C Cl m qual st ps := by
  obtain ⟨f, a, i, F⟩ := d
  exact mn_of hK a i F b
theorem DM.mq (d : DM K Cl m qual st) (hK : C.K = K) (b : BindKw m qual st ps n ks ix) : Mq C Cl m qual st ps n ks ix := by
  obtain ⟨f, a, i, F⟩ := d
  exact mq_of hK a i F b
/-- an own class as it stands -/
structure DC (K : PySem.W.Frag) (x : Str) (Cl : Addr) : Prop where
  a : PySem.W.nsIn K mainGlobals x = some (some (.ref Cl))
  mks : PySem.W.makesIn K Cl = true
  kc : PySem.W.keepIn K (.ref Cl) = true
  pg : PySem.W.plainGet K Cl Str.empty = true
  hd : PySem.W.hasDictIn K Cl = true
  po : PySem.W.plainOver K Cl = true
  sa : PySem.W.findIn K (.ref Cl) "__setattr__" = some (some (.builtin "object.__setattr__"))
  ha : PySem.W.findIn K (.ref Cl) "__class__" = some (some (.builtin "object.__class__"))
  hm : PySem.W.mroIn K Cl (.type "object") = some true
theorem DC.cls (d : DC K x Cl) : Cls K Cl := ⟨d.pg, d.hd, d.po, d.sa⟩
theorem DM.in0 (d : DM K Cl "__init__" qual st) (c : DC K x Cl) (hK : C.K = K) (hm : C.mg = mg) (X : K.In h) (G : h.Ns mainGlobals mg) (b : BindAll "__init__" qual st ps) : In0 C x Cl qual st ps := by
  obtain ⟨f, a, i, F⟩ := d
  exact in_of hK hm X G c.a c.mks c.kc a i F b
theorem DM.inK (d : DM K Cl "__init__" qual st) (c : DC K x Cl) (hK : C.K = K) (hm : C.mg = mg) (X : K.In h) (G : h.Ns mainGlobals mg) (b : BindKw "__init__" qual st ps (n + 1) ks (0 :: ix.map (· + 1))) : InK C x Cl qual st ps n ks ix := by
  obtain ⟨f, a, i, F⟩ := d
  exact ink_of hK hm X G c.a c.mks c.kc a i F b
/-- names that stay with the built-ins -/
def NB (K : PySem.W.Frag) (x : Str) : Prop := PySem.W.nsIn K mainGlobals x = some none
theorem NB.no (d : NB K x) (X : K.In h) (G : h.Ns mainGlobals mg) : mg x = none := PySem.W.mg_none_of X G d
/-- a module's number or text -/
def CI (K : PySem.W.Frag) (x : Str) (i : Int) : Prop := ∃ t, PySem.W.nsIn K mainGlobals x = some (some (.int i t))
def CT (K : PySem.W.Frag) (x s : Str) : Prop := ∃ t, PySem.W.nsIn K mainGlobals x = some (some (.str s t))
theorem ci_mk {i : Int} {t : Tok} (a : PySem.W.nsIn K mainGlobals x = some (some (.int i t))) : CI K x i := ⟨t, a⟩
theorem ct_mk {s : Str} {t : Tok} (a : PySem.W.nsIn K mainGlobals x = some (some (.str s t))) : CT K x s := ⟨t, a⟩
theorem CI.gi {i : Int} (d : CI K x i) (X : K.In h) (G : h.Ns mainGlobals mg) : GI mg x i := by
  obtain ⟨t, a⟩ := d
  exact ⟨t, PySem.W.mg_of X G a⟩
theorem CT.gt {s : Str} {l : List Nat} (d : CT K x s) (X : K.In h) (G : h.Ns mainGlobals mg) (e : s.cps.toList = l) : GT mg x l := by
  obtain ⟨t, a⟩ := d
  exact ⟨s, t, PySem.W.mg_of X G a, e⟩
/-- a law's end -/
theorem law_end {l : PySem.W.OpenLaw} {w : World} {p : Str} {k most : Nat} {N : List Str} {fa : Addr} (X : K.In h) (G : h.Ns mainGlobals mg) (hfa : mg x = some (.ref fa)) (d : DF K x st) (b : BindAll x x st [p]) (sc : FnScope N [p] (defScope st))
    (body : ∀ (base : Heap) (C : SC), C.P = l.prog → C.wd = w → C.K = K → C.mg = mg → C.base = base → C.g = true → Body C (cLaw most) N st k) :
    ∃ fd : FuncData, (∀ (s : Shared) (u : Value), BindsTo s fd ⟨[u], []⟩ [(p, u)]) ∧ ∀ base : Heap, K.In base → base.Ns mainGlobals mg → FnG l.prog w K mg base true (k + 1) fa fd [p] (toSp K (cLaw most)) := by
  obtain ⟨f, a, fd, F⟩ := d
  have e := hfa.symm.trans (PySem.W.mg_of X G a)
  injection e with e
  injection e with e
  subst e
  refine ⟨fd, fun s u => ?_, fun base _ _ => Con.fnok (C := ⟨l.prog, w, K, mg, base, [], defScope st, fun _ => false, 0, true, false, true⟩) F sc (wf_cLaw most) (fun _ _ => rfl) (body base _ rfl rfl rfl rfl rfl rfl)⟩
  obtain ⟨_, _, kV, doc, pm, an, cdv, ct, _, rfl, _, _⟩ := F.ex
  exact .of_eq (b kV doc pm an cdv ct [u] rfl)
end
end DL
set_option maxRecDepth 100000
set_option maxHeartbeats 2000000
namespace DL
open PySem L2 PySem.Spec PyProof.Rows
/-! ### == and != by an own __eq__ -/
section
variable {prog : Program} {w : World} {A : Around} {E : Value → Shared → Prop} {s : Shared} {K : PySem.W.Frag} {x C f L : Addr} {ox : Obj} {od : Option Obj} {b tb : Value} {h0 : Heap} {m : Str → Option Value}
theorem ne_entry (hu : A.units < cLine) (X : K.In s.heap) (I : PySem.W.InstAt s.heap x ox C od) (hs : PySem.W.findIn K (.ref C) "__eq__" = some (some (.ref f))) (hf : PySem.W.isFn K (.ref f) = true) {Q : Fin → Shared → Prop}
    (hc : wpAny (model prog w) A (call (.ref f) [.ref x, b]) (fun v s' => ∃ r, v = .bool r ∧ Q (.done (.ret (.bool (!r)))) s') E s) : wpAny (model prog w) A (Builtin.«object.__ne__» ⟨[.ref x, b], []⟩) Q E s := by
  unfold Builtin.«object.__ne__»
  repeat (first
    | with_reducible refine wpAny_cRoomFor hu ?_
    | (refine wpAny_bind (m := callSpecialIfBound? (.ref x) (Str.ofString "__eq__") [b])
        (PySem.W.ifBound_K X I hs hf (wpAny_mono hc (fun v s' hr => by
          obtain ⟨r, rfl, q⟩ := hr
          repeat (first | exact q | exact wpAny_pure q | exact wpAny_truthy_bool q | (refine wpAny_bind (m := truthy (.bool _)) (wpAny_truthy_bool ?_)) | wp_step)) fun _ _ e => e)))
    | wp_step)
theorem ne_bound {M : Model} {args : List Value} {Q : Option Value → Shared → Prop} (X : K.In s.heap) (I : PySem.W.InstAt s.heap x ox C od) (hs : PySem.W.findIn K (.ref C) "__ne__" = some (some (.builtin "object.__ne__")))
    (h : wpAny M A (call (.builtin "object.__ne__") (.ref x :: args)) (fun v => Q (some v)) E s) : wpAny M A (callSpecialIfBound? (.ref x) "__ne__" args) Q E s := by
  simp only [callSpecialIfBound?, bindSpecialIfBound?]
  refine wpAny_holding (wpAny_bind (wpAny_bind (wpAny_bind (I.type.here ((PySem.W.looks_findIn X hs).here ?_)))))
  have last : wpAny M A (call (.builtin "object.__ne__") ([.ref x] ++ args) >>= fun v => pure (some v)) Q E s := wpAny_bind (wpAny_mono h (fun _ _ q => wpAny_pure q) fun _ _ q => q)
  refine wpAny_bind (wpAny_askSetting (wpAny_ite ?_))
  split
  · exact wpAny_bind (wpAny_of_eq (PySem.F.cmp_object.ne.bind _) (wpAny_pure (by exact last)))
  · exact wpAny_tryCatch (wpAny_bind (wpAny_of_eq (PySem.F.cmp_object.ne.bind _) (wpAny_pure (by exact last))))
theorem ne_rich (hu : A.units + 1 < cLine) (X : K.In s.heap) (I : PySem.W.InstAt s.heap x ox C od) (hb : PySem.W.Looks (model prog w) s.heap (typeOf b) tb) (hn : PySem.W.notFirst K C tb = true) (hm : PySem.W.mroIn K C (.type "object") = some true)
    (hs : PySem.W.findIn K (.ref C) "__eq__" = some (some (.ref f))) (hf : PySem.W.isFn K (.ref f) = true) (hne : PySem.W.findIn K (.ref C) "__ne__" = some (some (.builtin "object.__ne__"))) {Q : Value → Shared → Prop}
    (hc : wpAny (model prog w) A.in1 (call (.ref f) [.ref x, b]) (fun v s' => ∃ r, v = .bool r ∧ Q (.bool (!r)) s') E s) : wpAny (model prog w) A (richCompare .NotEq (.ref x) b) Q E s := by
  have one : wpAny (model prog w) A (tryCompare (.ref x) "__ne__" b) (fun r s' => ∃ k, r = some (.bool k) ∧ Q (.bool k) s') E s := by
    unfold tryCompare
    refine wpAny_bind (ne_bound X I hne (PySem.wpAny_call (PySem.codeAny_call_builtin PySem.F.cmp_object.ne.plain PySem.F.cmpEntry_ne (PySem.W.check_slot PySem.F.cmpKind_ne PySem.F.cmpSplit_ne (I.type.andThen (PySem.W.looks_mroIn X hm)) (PySem.F.cmpArgs_ne _ _) (ne_entry (A := A.in1) hu X I hs hf (wpAny_mono hc (fun v s' hv => ?_) fun _ _ q => q))))))
    obtain ⟨r, rfl, q⟩ := hv
    refine ⟨r, rfl, ?_⟩
    first | exact wpAny_pure ⟨_, rfl, q⟩ | exact ⟨_, rfl, q⟩
  unfold richCompare
  simp only [oneThing_ref]
  refine wpAny_holding (wpAny_bind (wpAny_cRoomFor (Nat.lt_of_succ_lt hu) ?_))
  rw [cmpInfo_NotEq]
  dsimp only
  refine wpAny_bind (I.type.here (wpAny_bind (hb.here ?_)))
  split
  · rename_i q
    have e : PySem.W.subIn K tb (.ref C) = some false := by
      rcases Bool.or_eq_true_iff.mp hn with e | e
      · rw [beq_iff_eq.mp e] at q; simp at q
      · exact beq_iff_eq.mp e
    refine wpAny_bind ((PySem.W.looks_subIn X e).here ?_)
    simp only [Bool.false_eq_true, if_false]
    refine wpAny_bind (wpAny_mono one (fun r s' z => ?_) fun _ _ q => q)
    obtain ⟨k, rfl, hq⟩ := z
    exact wpAny_pure hq
  · rename_i q
    refine wpAny_bind (wpAny_pure ?_)
    simp only [Bool.false_eq_true, if_false]
    refine wpAny_bind (wpAny_mono one (fun r s' z => ?_) fun _ _ q => q)
    obtain ⟨k, rfl, hq⟩ := z
    exact wpAny_pure hq
end
/-- a class with an own __eq__ of the contract c -/
structure EqD (C : SC) (k : Nat) (Cl : Addr) (c : Con) : Prop where
  ex : ∃ (f : Addr) (fd : FuncData) (ps : List Str), FnG C.P C.wd C.K C.mg C.base C.g k f fd ps (toSp C.K c) ∧ PySem.W.findIn C.K (.ref Cl) "__eq__" = some (some (.ref f)) ∧ PySem.W.isFn C.K (.ref f) = true ∧ Binds C.K fd ps []
  ne : PySem.W.findIn C.K (.ref Cl) "__ne__" = some (some (.builtin "object.__ne__"))
  mro : PySem.W.mroIn C.K Cl (.type "object") = some true
  wf : c.Wf
theorem EqD.to {C : SC} {k : Nat} {Cl : Addr} {c : Con} (F : EqD C k Cl c) {N : List Str} {sc : Scope} {r : Nat} : EqD (C.defC N sc r) k Cl c := ⟨F.ex, F.ne, F.mro, F.wf⟩
theorem EqD.tb {C : SC} {k : Nat} {Cl : Addr} {c : Con} (F : EqD C k Cl c) {N : List Str} {sc s2 : Scope} {r : Nat} : EqD ((C.defC N sc r).blk s2) k Cl c := ⟨F.ex, F.ne, F.mro, F.wf⟩
section
variable {C : SC} {Q : XV → Mem → Prop} {μ : Mem} {X : Cx} {H : Hp} {w : IA} {k : Nat} {c : Con} {Cl : Addr}
theorem run_in {A : Around} {σ : L2.St} {f : Addr} {fd : FuncData} {ps : List Str} {pins : List (Addr × Obj)} {s : Shared} {Qv : VK} {us : List Value} {vs : List V} (hf : A.frames = X.A.frames) (hg : C.g = true → A.guards = some []) (hr : Room k A) (F : FnG X.prog X.w X.K X.mg X.base C.g k f fd ps (toSp C.K c)) (hb : Binds X.K fd ps [])
    (I : Inv X pins σ H s) (r : Vals vs us) (h : toSp C.K c vs H Qv fun _ _ _ => False) : wpAny (model X.prog X.w) A (call (.ref f) us) (EP X pins σ Qv) X.xe s := by
  have hl : (us ++ []).length = ps.length := by rw [List.append_nil, ← r.length]; exact F.len _ _ _ _ h
  have hb' := hb s us I.kIn hl
  rw [List.append_nil] at hb'
  have e := I.env0
  have e0 : Env0 X.prog X.w X.K X.mg X.base A X.stack s H := ⟨by rw [hf]; exact e.frames, e.mod, e.bs, e.bsz, e.funs, e.frf, e.hok, e.bare⟩
  refine PySem.wpAny_call (PySem.codeAny_mono (F.run A X.stack s H ⟨us, []⟩ us vs Qv (fun _ _ _ => False) hg hr e0 hb' r h) fun r s' hq => ?_)
  cases r with
  | error e =>
    obtain ⟨_, _, _, _, _, _, _, _, _, _, _, _, hE⟩ := hq
    exact hE.elim
  | ok fl =>
    cases fl with
    | ret u => exact I.after hq
    | next => exact False.elim hq
    | brk => exact False.elim hq
    | cont => exact False.elim hq
theorem go_eq_own [Calm C] {fs : List Str} {ds : List D} {y : XV} {t : Value} (F : EqD C k Cl c) (hk : k ≤ C.room) (ty : TyD2 C.K y t) (hn : PySem.W.notFirst C.K Cl t = true) (h : Calls c [.d (.ins Cl fs ds), y] μ (fun z μ' => ∃ r, z = .d (.bl r) ∧ Q (.d (.bl r)) μ') fun _ _ _ => False) : Go2 C (compareOp .Eq) (.d (.ins Cl fs ds)) y μ Q := by
  intro X hX H w vx vy M rx ry pins s σ v u I rv ru
  obtain ⟨f, fd, ps, FF, hs, hf, hb⟩ := F.ex
  obtain ⟨a, dx, gs, rfl, nl, ea, _⟩ := id rx
  obtain rfl : v = Value.ref a := rv
  obtain ⟨mA, J, _⟩ := ins_get I.hok ea
  obtain ⟨od, J, _⟩ := J.look
  obtain ⟨P, Z, p, _⟩ := kit_of I ru (by rw [hX.K]; exact ty.tx ry)
  obtain ⟨m, hF⟩ := I.fr
  show wpAny (model X.prog X.w) X.A (richCompare .Eq (.ref a) u) _ _ _
  refine PySem.W.cmp_K (op := .Eq) (hX.room Calm.h).units0 hF I.ok.mod.kin J (Z.ty _ _ I.kIn p) (by rw [hX.K]; exact hn) (by rw [hX.K]; exact hs) (by rw [hX.K]; exact hf) ?_
  refine wpAny_mono (run_in (C := C) (c := c) rfl hX.gd ((hX.room Calm.h).mono hk) (by rw [hX.P, hX.wd, hX.K, hX.mg, hX.base]; exact FF) (by rw [hX.K]; exact hb) I (.cons (a := V.ref a) rfl (.cons ru .nil)) (Calls.sp F.wf h M (.cons rx (.cons ry .nil)) (Qv := fun v H' => ∃ r, v = .bl r ∧ lift C.K Q μ H w (.bl r) H') (fun v H' q => ?_) (fun _ _ _ _ _ _ _ _ _ z => z))) (fun r s' q => ?_) fun _ _ q => q
  · obtain ⟨z, μ', w', rz, M', S', b, rfl, q⟩ := q
    exact ⟨b, rz, .d (.bl b), μ', w', rfl, M', S', q⟩
  · obtain ⟨v, H', I', rv, b, rfl, q⟩ := q
    obtain rfl : r = Value.bool b := rv
    exact ⟨.bl b, H', I', rfl, q⟩
theorem go_ne_own [Calm C] {fs : List Str} {ds : List D} {y : XV} {t : Value} (F : EqD C k Cl c) (hk : k + 1 ≤ C.room) (ty : TyD2 C.K y t) (hn : PySem.W.notFirst C.K Cl t = true) (h : Calls c [.d (.ins Cl fs ds), y] μ (fun z μ' => ∃ r, z = .d (.bl r) ∧ Q (.d (.bl (!r))) μ') fun _ _ _ => False) : Go2 C (compareOp .NotEq) (.d (.ins Cl fs ds)) y μ Q := by
  intro X hX H w vx vy M rx ry pins s σ v u I rv ru
  obtain ⟨f, fd, ps, FF, hs, hf, hb⟩ := F.ex
  obtain ⟨a, dx, gs, rfl, nl, ea, _⟩ := id rx
  obtain rfl : v = Value.ref a := rv
  obtain ⟨mA, J, _⟩ := ins_get I.hok ea
  obtain ⟨od, J, _⟩ := J.look
  obtain ⟨P, Z, p, _⟩ := kit_of I ru (by rw [hX.K]; exact ty.tx ry)
  show wpAny (model X.prog X.w) X.A (richCompare .NotEq (.ref a) u) _ _ _
  have hr : Room (k + 1) X.A := (hX.room Calm.h).mono hk
  refine ne_rich (by have := hr.un; omega) I.kIn J (Z.ty _ _ I.kIn p) (by rw [hX.K]; exact hn) (by rw [hX.K]; exact F.mro) (by rw [hX.K]; exact hs) (by rw [hX.K]; exact hf) (by rw [hX.K]; exact F.ne) ?_
  refine wpAny_mono (run_in (C := C) (c := c) (A := X.A.in1) rfl hX.gd hr.in1 (by rw [hX.P, hX.wd, hX.K, hX.mg, hX.base]; exact FF) (by rw [hX.K]; exact hb) I (.cons (a := V.ref a) rfl (.cons ru .nil)) (Calls.sp F.wf h M (.cons rx (.cons ry .nil)) (Qv := fun v H' => ∃ r, v = .bl r ∧ lift C.K Q μ H w (.bl (!r)) H') (fun v H' q => ?_) (fun _ _ _ _ _ _ _ _ _ z => z))) (fun r s' q => ?_) fun _ _ q => q
  · obtain ⟨z, μ', w', rz, M', S', b, rfl, q⟩ := q
    exact ⟨b, rz, .d (.bl (!b)), μ', w', rfl, M', S', q⟩
  · obtain ⟨v, H', I', rv, b, rfl, q⟩ := q
    obtain rfl : r = Value.bool b := rv
    exact ⟨b, rfl, .bl (!b), H', I', rfl, q⟩
end
end DL
set_option maxRecDepth 100000
set_option maxHeartbeats 2000000
/-! DL20: sets of numbers and of texts, made in one go and read in rising order. -/
namespace DL
open PySem L2 PySem.Spec PyProof.Rows
/-! ### sets of keys that can be walked -/
def memK (ks : List Key) (j : Key) : Bool := ks.any fun k => decide (k = j)
theorem memK_iff {ks : List Key} {j : Key} : memK ks j = true ↔ j ∈ ks := by
  unfold memK
  rw [List.any_eq_true]
  exact ⟨fun ⟨k, h, e⟩ => of_decide_eq_true e ▸ h, fun h => ⟨j, h, decide_eq_true rfl⟩⟩
theorem memK_snoc (ks : List Key) (k j : Key) : memK (ks ++ [k]) j = (memK ks j || decide (j = k)) := by
  rw [Bool.eq_iff_iff, Bool.or_eq_true, decide_eq_true_eq, memK_iff, memK_iff, List.mem_append, List.mem_singleton]
def keyQ : Value → Key
  | .int k _ => .inl k
  | .str x _ => .inr x
  | _ => .inl 0
def entK (e : Int × Value) : Key := keyQ e.2
def GoodQ (w : World) (e : Int × Value) : Prop := keyIs (entK e) e.2 = true ∧ e.1 = keyH w (entK e)
theorem keyQ_of {k : Key} {v : Value} (h : keyIs k v = true) : keyQ v = k := by
  rcases keyIs_shape h with ⟨i, t, rfl, rfl⟩ | ⟨x, t, rfl, rfl⟩ <;> rfl
theorem keyQ_scan {k : Key} {v : Value} (h : keyIs k v = true) : v.scannable = true := by
  rcases keyIs_shape h with ⟨i, t, rfl, rfl⟩ | ⟨x, t, rfl, rfl⟩ <;> rfl
/-- the set at a: its members, their number; it can be walked -/
def SetQ (w : World) (h : Heap) (a : Addr) (S : Key → Bool) (n : Nat) : Prop :=
  ∃ o es ep t, h.get? a = some o ∧ o.ExactSet ∧ o.data = .set es ep t ∧ (∀ e ∈ es.toList, GoodQ w e) ∧ (es.toList.map entK).Nodup ∧ (∀ k, S k = true ↔ k ∈ es.toList.map entK) ∧
    es.size < scanBound ∧ t.fits es.size = true ∧ es.size = n ∧ Ris t.place.toList ∧ (w.params.followText "set-order" = true ∨ t.led = true)
section
variable {P : Program} {w : World} {h h' : Heap} {a : Addr} {S : Key → Bool} {n : Nat}
theorem SetQ.stay (Z : SetQ w h a S n) (kp : ∀ o, h.get? a = some o → h'.get? a = some o) : SetQ w h' a S n := by
  obtain ⟨o, es, ep, t, z1, z2⟩ := Z
  exact ⟨o, es, ep, t, kp o z1, z2⟩
theorem SetQ.same {S' : Key → Bool} (Z : SetQ w h a S n) (e : ∀ k, S' k = S k) : SetQ w h a S' n := by
  obtain ⟨o, es, ep, t, z1, z2, z3, z4, z5, z6, z7⟩ := Z
  exact ⟨o, es, ep, t, z1, z2, z3, z4, z5, fun k => by rw [e]; exact z6 k, z7⟩
theorem goodQ_elems {l : List (Int × Value)} (g : ∀ e ∈ l, GoodQ w e) : ElemsOf (mixKind P w) l := fun e he =>
  ⟨⟨entK e, (g e he).1, (g e he).2⟩, keyQ_scan (g e he).1⟩
theorem goodQ_mem {l : List (Int × Value)} (g : ∀ e ∈ l, GoodQ w e) (k : Key) : k ∈ l.map entK ↔ ∃ e ∈ l, (mixKind P w).is k e.2 = true := by
  constructor
  · intro hm
    obtain ⟨e, he, rfl⟩ := List.mem_map.mp hm
    exact ⟨e, he, (g e he).1⟩
  · rintro ⟨e, he, q⟩
    have q' : keyIs k e.2 = true := q
    exact List.mem_map.mpr ⟨e, he, keyQ_of q'⟩
theorem SetQ.setOf (Z : SetQ w h a S n) : h.SetOf (mixKind P w) a S n := by
  obtain ⟨o, es, ep, t, z1, z2, z3, z4, z5, z6, z7, z8, z9, z10⟩ := Z
  exact ⟨o, es, ep, t, z1, z2, z3, goodQ_elems z4, fun k => (z6 k).trans (goodQ_mem z4 k), z7, z8, z9⟩
end
section
variable {P : Program} {w : World} {A : Around} {E : Value → Shared → Prop} {s : Shared} {a : Addr} {S : Key → Bool} {n : Nat}
theorem putSet_at {h : Heap} {a : Addr} {o : Obj} {es es' : Array (Int × Value)} {ep : Nat} {t t' : SetTable} (q1 : h.get? a = some o) (q2 : o.data = .set es ep t) :
    (h.update a (Obj.putSet es' t')).get? a = some { o with data := .set es' (ep + 1) t' } := store_at q1 q2
theorem setQ_tail {g : Bool → Sem Unit} (hg : ∀ (b : Bool) (s₁ : Shared) (Q' : Unit → Shared → Prop), Q' () s₁ → wpAny (model P w) A (g b) Q' E s₁)
    {o : Obj} {es : Array (Int × Value)} {ep : Nat} {t : SetTable} (q1 : s.heap.get? a = some o) (q2 : o.ExactSet) (q3 : o.data = .set es ep t)
    {fs : Array (Int × Value)} {t2 : SetTable} {S' : Key → Bool} (g1 : ∀ e ∈ fs.toList, GoodQ w e) (nd1 : (fs.toList.map entK).Nodup) (m1 : ∀ k, S' k = true ↔ k ∈ fs.toList.map entK)
    (b1 : fs.size < scanBound) (f2 : t2.fits fs.size = true) (r2 : Ris t2.place.toList) (l2 : w.params.followText "set-order" = true ∨ t2.led = true) {wd : Bool} {R : Option Bool → Shared → Prop}
    (fin : ∀ h', Heap.SameBut a s.heap h' → SetQ w h' a S' fs.size → R (some true) { s with heap := h' }) :
    wpAny (model P w) A (do
        storeSet a fs t2
        if (!wd && t2.tooFull) = true then do
            g (relayAll t2 fs (SetTable.grown fs.size)).2.2
            storeSet a (relayAll t2 fs (SetTable.grown fs.size)).1 (relayAll t2 fs (SetTable.grown fs.size)).2.1
            pure (some true)
          else pure (some true)) R E s := by
  refine wpAny_bind (wpAny_storeSet_of q1 q3 ?_ (fits_of_scanBound b1))
  have p1 := putSet_at (es' := fs) (t' := t2) q1 q3
  have sb := Heap.SameBut.update s.heap a (Obj.putSet fs t2)
  split
  · have pm := relayAll_perm t2 fs (SetTable.grown fs.size)
    have f3 := relayAll_fits t2 fs (SetTable.grown fs.size)
    have r3 := relayAll_ris t2 fs (SetTable.grown fs.size)
    have l3 := relayAll_led t2 fs (SetTable.grown fs.size)
    generalize relayAll t2 fs (SetTable.grown fs.size) = Z at pm f3 r3 l3 ⊢
    obtain ⟨gs, t3, gave⟩ := Z
    dsimp only at pm f3 r3 l3 ⊢
    have zs : gs.size = fs.size := by rw [← Array.length_toList, pm.length_eq, Array.length_toList]
    have b2 : gs.size < scanBound := by rw [zs]; exact b1
    refine wpAny_bind (hg _ _ _ ?_)
    refine wpAny_bind (wpAny_storeSet_of p1 rfl ?_ (fits_of_scanBound b2))
    have p2 := putSet_at (es' := gs) (t' := t3) p1 rfl
    refine wpAny_pure (fin _ (sb.trans (Heap.SameBut.update _ a _)) ?_)
    exact ⟨_, gs, _, t3, p2, q2, rfl, fun e he => g1 e (pm.mem_iff.mp he), (pm.map entK).nodup_iff.mpr nd1, fun k => (m1 k).trans (pm.map entK).mem_iff.symm, b2, f3, zs, r3,
      l2.imp id fun z => by rw [l3]; exact z⟩
  · exact wpAny_pure (fin _ sb ⟨_, fs, _, t2, p1, q2, rfl, g1, nd1, m1, b1, f2, rfl, r2, l2⟩)
theorem setQ_add {k : Key} {x : Value} {Q : Bool → Shared → Prop} (hx : keyIs k x = true) (Z : SetQ w s.heap a S n) (room : n + 1 < scanBound)
    (fin : ∀ h', Heap.SameBut a s.heap h' → SetQ w h' a (fun j => S j || decide (j = k)) (if S k = true then n else n + 1) → Q (!S k) { s with heap := h' }) :
    wpAny (model P w) A (setAddHashed a x ((mixKind P w).hash k)) Q E s := by
  obtain ⟨o, es, ep, t, z1, z2, z3, z4, z5, z6, z7, z8, z9, z10, z11⟩ := Z
  have ky : (mixKind P w).is k x = true := hx
  have sc : x.scannable = true := keyQ_scan hx
  have el : ElemsOf (mixKind P w) es.toList := goodQ_elems z4
  unfold setAddHashed setAddHashedIn
  refine wpAny_holding (wpAny_bind (wpAny_setState_of z1 z3 z8 ?_))
  dsimp only
  rw [byScan_of sc z7 el]
  simp only [↓reduceIte]
  unfold setAddByScan
  refine wpAny_bind ?_
  refine wpAny_bind (wpAny_rule ?_)
  refine wpAny_bind (wpAny_setScan_of ky z1 z3 z8 el ?_)
  cases fi : List.findIdx? (fun e => (mixKind P w).is k e.2) es.toList with
  | some j =>
    dsimp only
    obtain ⟨j1, j2, _⟩ := List.findIdx?_eq_some_iff_getElem.mp fi
    have sk : S k = true := (z6 k).2 ((goodQ_mem (P := P) z4 k).2 ⟨es.toList[j], List.getElem_mem j1, j2⟩)
    refine wpAny_pure (wpAny_pure ?_)
    have q := fin s.heap (Heap.SameBut.refl a s.heap) ⟨o, es, ep, t, z1, z2, z3, z4, z5, fun i => by
      rw [Bool.or_eq_true, decide_eq_true_eq, ← z6 i]
      exact ⟨fun z => z.elim id (fun e => e ▸ sk), .inl⟩, z7, z8, by rw [if_pos sk]; exact z9, z10, z11⟩
    rw [sk] at q
    exact q
  | none =>
    dsimp only
    have nk : k ∉ es.toList.map entK := fun z => by
      obtain ⟨e, he, q⟩ := (goodQ_mem (P := P) z4 k).1 z
      have c := List.findIdx?_eq_none_iff.mp fi e he
      rw [q] at c
      cases c
    have sk : S k = false := by
      cases q : S k with
      | false => rfl
      | true => exact absurd ((z6 k).1 q) nk
    have gw : ∀ (b : Bool) {s₁ : Shared} {Q' : Unit → Shared → Prop}, Q' () s₁ → wpAny (model P w) A (match b with | true => rule "set.scan.the-table-gave-way" | false => pure ()) Q' E s₁ :=
      fun b s₁ Q' q => match b with
        | true => wpAny_rule q
        | false => wpAny_pure q
    have pm := layNew_perm t es ((mixKind P w).hash k) x
    have f1 := layNew_fits t es ((mixKind P w).hash k) x
    have r1 := layNew_ris t es ((mixKind P w).hash k) x z10
    have l1 := layNew_led t es ((mixKind P w).hash k) x
    generalize layNew t es ((mixKind P w).hash k) x = Z at pm f1 r1 l1 ⊢
    obtain ⟨fs, t1, wd, gave⟩ := Z
    dsimp only at pm f1 r1 l1 ⊢
    rw [Array.toList_push] at pm
    have pc : fs.toList.Perm (((mixKind P w).hash k, x) :: es.toList) := pm.trans (List.perm_append_singleton _ _)
    have ek : entK ((mixKind P w).hash k, x) = k := keyQ_of hx
    have pk : (fs.toList.map entK).Perm (k :: es.toList.map entK) := by
      have q := pc.map entK
      rw [List.map_cons, ek] at q
      exact q
    have g1 : ∀ e ∈ fs.toList, GoodQ w e := fun e he => by
      rcases List.mem_cons.mp (pc.mem_iff.mp he) with z | z
      · rw [z]
        refine ⟨?_, ?_⟩
        · rw [ek]; exact hx
        · rw [ek]; rfl
      · exact z4 e z
    have nd1 : (fs.toList.map entK).Nodup := pk.nodup_iff.mpr (List.nodup_cons.mpr ⟨nk, z5⟩)
    have m1 : ∀ i, (S i || decide (i = k)) = true ↔ i ∈ fs.toList.map entK := fun i => by
      rw [Bool.or_eq_true, decide_eq_true_eq, z6 i, pk.mem_iff, List.mem_cons]
      exact Or.comm
    have zs : fs.size = n + 1 := by rw [← Array.length_toList, pc.length_eq, List.length_cons, Array.length_toList, z9]
    have b1 : fs.size < scanBound := by rw [zs]; exact room
    have ld : w.params.followText "set-order" = true ∨ t1.led = true := z11.imp id fun z => by rw [l1]; exact z
    have fin' : ∀ h', Heap.SameBut a s.heap h' → SetQ w h' a (fun j => S j || decide (j = k)) fs.size → Q true { s with heap := h' } := fun h' sb r => by
      have q := fin h' sb
      rw [sk] at q
      rw [zs] at r
      exact q r
    refine wpAny_bind (gw _ ?_)
    split
    · refine wpAny_bind ?_
      rw [hashByValue_scannable 8 sc]
      refine wpAny_pure ?_
      refine setQ_tail ?_ z1 z2 z3 g1 nd1 m1 b1 ?_ ?_ ?_ ?_
      · intro b s₁ Q' q
        cases b
        · exact wpAny_pure q
        · exact wpAny_rule q
      · first | (split <;> first | exact f1 | exact SetTable.fits_plain_off f1) | exact f1
      · first | (split <;> exact r1) | exact r1
      · first | (split <;> exact ld) | exact ld
      · intro h' sb r; dsimp only; exact wpAny_pure (fin' h' sb r)
    · refine wpAny_bind (wpAny_pure ?_)
      simp only [↓reduceIte]
      refine setQ_tail ?_ z1 z2 z3 g1 nd1 m1 b1 f1 r1 ld ?_
      · intro b s₁ Q' q
        cases b
        · exact wpAny_pure q
        · exact wpAny_rule q
      · intro h' sb r; exact wpAny_pure (fin' h' sb r)
/-- members put in, one by one -/
theorem setQ_loop {I : Addr} {fp wr : List Addr} {G : Array GenState → Array GenState → Prop} {n : Nat} {Pv : Nat → Value → Prop} {St : Nat → Shared → Prop} {R : Result → Shared → Prop}
    (W : WalksS P w A.in1 I fp wr G n Pv St) (D : Addr) (hD : D ∉ fp) (ks : List Key) (hn : n = ks.length) (hb : ks.length + 1 < scanBound) (hval : ∀ i v, Pv i v → ∃ k, ks[i]? = some k ∧ keyIs k v = true) :
    ∀ (m i : Nat) (s : Shared), n - i = m → i ≤ n → St i s → (∃ c, c ≤ i ∧ SetQ w s.heap D (memK (ks.take i)) c) →
      (∀ s' c, Moved (D :: wr) G s s' → c ≤ n → SetQ w s'.heap D (memK ks) c → R (.ok (.ret .none)) s') →
      codeAny (model P w) A (.builtin "set.update.loop" ⟨[.ref D, .ref I], []⟩) R s := by
  have hDw : D ∉ wr := fun q => hD (W.sub _ q)
  have sub : ∀ b ∈ wr, b ∈ D :: wr := fun b q => List.mem_cons_of_mem _ q
  intro m
  induction m with
  | zero =>
    intro i s e1 e2 hst ⟨c, hc, hS⟩ fin
    obtain rfl : i = n := by omega
    refine codeAny_builtin F.entry_set_update_loop ?_
    rw [Around.under_plainId F.plain_set_update_loop _]
    show wpAny _ A.in1 (pyNext (.ref I) >>= _) _ _ s
    refine wpAny_bind (W.done s _ _ hst fun s' hm => ?_)
    show wpAny _ A.in1 (ret Value.none) _ _ s'
    rw [show ks.take i = ks from List.take_of_length_le (by omega)] at hS
    exact wpAny_pure (fin s' c (hm.mono sub) hc (hS.stay fun o q => hm.heap D o hDw q))
  | succ m ih =>
    intro i s e1 e2 hst ⟨c, hc, hS⟩ fin
    have lt : i < n := by omega
    refine codeAny_builtin F.entry_set_update_loop ?_
    rw [Around.under_plainId F.plain_set_update_loop _]
    show wpAny _ A.in1 (pyNext (.ref I) >>= _) _ _ s
    refine wpAny_bind (W.item i s _ _ lt hst fun v s' hP hst' hm => ?_)
    obtain ⟨k, hk, kv⟩ := hval i v hP
    have hS1 : SetQ w s'.heap D (memK (ks.take i)) c := hS.stay fun o q => hm.heap D o hDw q
    show wpAny _ A.in1 (holding [v] (setAdd D v) >>= _) _ _ s'
    refine wpAny_bind (wpAny_holding ?_)
    unfold setAdd
    refine wpAny_holding ?_
    refine wpAny_bind ((mixKind P w).pyHash (k := k) kv ?_)
    refine setQ_add (s := { s' with toks := s'.toks + 1 }) kv hS1 (by omega) fun h' sb hS2 => ?_
    have hS3 : SetQ w h' D (memK (ks.take (i + 1))) (if memK (ks.take i) k = true then c else c + 1) := hS2.same fun j => by
      rw [List.take_add_one, hk]
      exact memK_snoc _ _ _
    have hc3 : (if memK (ks.take i) k = true then c else c + 1) ≤ i + 1 := by split <;> omega
    refine wpAny_pure ⟨plainId_quiet F.plain_set_update_loop _, ih (i + 1) _ (by omega) lt (W.frame _ s' _ _ hst' (Nat.le_succ _) fun b q o e => ?_) ⟨_, hc3, hS3⟩ fun s2 c2 m2 l2 S2 => ?_⟩
    · rw [sb.2 b (fun z : b = D => hD (by rw [← z]; exact q))]; exact e
    · refine fin s2 c2 (Moved.trans W.gtrans ((hm.mono sub).then_heap (Nat.le_succ _) fun b o q e => ?_) m2) l2 S2
      rw [sb.2 b (fun z : b = D => q (by rw [z]; exact List.mem_cons_self))]; exact e
theorem setQ_fresh {h : Heap} {a : Addr} (w : World) (e : h.get? a = some { cls := .type "set", dict := none, data := .set #[] 0 (.fresh 0 0 (!w.params.followText "set-order")) }) : SetQ w h a (fun _ => false) 0 :=
  ⟨_, #[], 0, _, e, ⟨rfl, rfl, rfl⟩, rfl, (fun e he => by simp at he), (by simp), (fun k => by simp), (by decide), (by rfl), rfl, List.Pairwise.nil, by
    show _ ∨ (!w.params.followText "set-order") = true
    cases w.params.followText "set-order"
    · exact .inr rfl
    · exact .inl rfl⟩
end
end DL
set_option maxRecDepth 100000
set_option maxHeartbeats 2000000
/-! DL21: set(x), sorted(set). -/
namespace DL
open PySem L2 PySem.Spec PyProof.Rows PySem.W
section
variable {P : Program} {w : World} {A : Around} {E : Value → Shared → Prop} {s : Shared}
def newSetObj (w : World) : Obj := { cls := .type "set", dict := none, data := .set #[] 0 (.fresh 0 0 (!w.params.followText "set-order")) }
/-- what may be made a set: its kind, its walk, the keys that come -/
structure SetSrc (P : Program) (w : World) (s : Shared) (v : Value) (T : String) (ks : List Key) : Prop where
  ty : ∀ h1, (∀ b o, s.heap.get? b = some o → h1.get? b = some o) → Shared.TypeIs { s with heap := h1 } v T
  ns : isSubtype (.type T) (.type "set") = pure false
  nf : isSubtype (.type T) (.type "frozenset") = pure false
  nd : (Value.type T == Value.type "dict") = false
  it : ∀ (h1 : Heap) (D : Addr), (∀ b o, s.heap.get? b = some o → h1.get? b = some o) → s.heap.objs.size ≤ D → D < h1.objs.size → ∀ (A' : Around) (E' : Value → Shared → Prop) (Q' : Value → Shared → Prop), A'.handled = none →
    (∀ (h2 : Heap) (I : Addr) (fp wr : List Addr) (St : Nat → Shared → Prop) (Pv : Nat → Value → Prop), (∀ A2 : Around, A2.handled = none → WalksS P w A2 I fp wr (fun a b => b = a) ks.length Pv St) → (∀ i v, Pv i v → ∃ k, ks[i]? = some k ∧ keyIs k v = true) →
      (∀ b o, h1.get? b = some o → h2.get? b = some o) → D ∉ fp → (∀ b ∈ wr, h1.objs.size ≤ b) → St 0 { s with heap := h2 } → Q' (.ref I) { s with heap := h2 }) → wpAny (model P w) A' (pyIter v) Q' E' { s with heap := h1 }
theorem upd_set {v : Value} {T : String} {ks : List Key} {R : Unit → Shared → Prop} {D : Addr} (F : SetSrc P w s v T ks) (hh : A.handled = none) (hb : ks.length + 1 < scanBound) {h1 : Heap} (kp : ∀ b o, s.heap.get? b = some o → h1.get? b = some o) (hD1 : s.heap.objs.size ≤ D) (hD : h1.get? D = some (newSetObj w))
    (fin : ∀ (h' : Heap) (tk c : Nat), SetQ w h' D (memK ks) c → c ≤ ks.length → (∀ b o, b ≠ D → h1.get? b = some o → h'.get? b = some o) → R () { s with heap := h', toks := tk }) :
    wpAny (model P w) A (Builtin.Frozenset.updateFrom "set.__init__" D v) R E { s with heap := h1 } := by
  have ty := F.ty h1 kp
  unfold Builtin.Frozenset.updateFrom Builtin.Frozenset.isAnySet
  refine wpAny_bind ?_
  refine wpAny_bind (wpAny_isInstance ty F.ns ?_)
  simp only [Bool.false_eq_true, if_false]
  refine wpAny_isInstance ty F.nf ?_
  simp only [Bool.false_eq_true, if_false]
  refine wpAny_bind (wpAny_typeOf ty ?_)
  rw [F.nd]
  simp only [Bool.false_eq_true, if_false]
  refine wpAny_bind (F.it h1 D kp hD1 (Heap.lt_size hD) A E _ hh fun h2 I fp wr St Pv W hv k2 nD nW st => ?_)
  have hD2 : h2.get? D = some (newSetObj w) := k2 _ _ hD
  refine wpAny_bind (wpAny_runValue ?_)
  refine setQ_loop (W _ (by simp [hh])) D nD ks rfl hb hv (ks.length - 0) 0 _ (by omega) (Nat.zero_le _) st ⟨0, Nat.le_refl 0, ?_⟩ fun s' c m l z => ?_
  · exact (setQ_fresh w hD2).same fun j => rfl
  · obtain ⟨h', g2, d', tk', os'⟩ := s'
    have e1 : g2 = s.gens := m.gens
    have e2 : d' = s.drawn := m.drawn
    have e3 : os' = s.os := m.os
    subst e1 e2 e3
    refine wpAny_pure (fin h' tk' c z l fun b o n q => ?_)
    have lt := Heap.lt_size q
    exact m.heap b o (by
      simp only [List.mem_cons, not_or]
      exact ⟨n, fun hw => absurd lt (Nat.not_lt.mpr (nW b hw))⟩) (k2 _ _ q)
theorem call_setQ {v : Value} {T : String} {ks : List Key} {Q : Value → Shared → Prop} (G : SetSrc P w s v T ks) (hh : A.handled = none) (hb : ks.length + 1 < scanBound)
    (fin : ∀ (h' : Heap) (tk c : Nat), SetQ w h' s.heap.objs.size (memK ks) c → c ≤ ks.length → (∀ b o, s.heap.get? b = some o → h'.get? b = some o) → Q (.ref s.heap.objs.size) { s with heap := h', toks := tk }) :
    wpAny (model P w) A (call (.type "set") [v]) Q E s := by
  obtain ⟨c0, tl, mro⟩ := F.called_set.mro
  have made := F.called_set.made
  have sub := F.called_set.sub
  refine wpAny_call (codeAny_of_tree ?_)
  show wpAny _ _ (callAny (.type "set") _) _ _ _
  refine wpAny_pure ⟨Code.quiet_builtin _ (by decide +kernel), codeAny_builtin F.entry_type_call ?_⟩
  rw [Around.under_plain (weight_type_call_type "set" [v] []) rfl]
  have n1 := F.called_set.notType
  have n2 := F.called_set.canCreate
  have n3 := F.typeCall_set_1 v
  repeat (any_goals (first | assumption | wp_step))
  refine codeAny_mono (code_set_led1 v (E := E) (Q₁ := fun obj s₁ => obj = .ref s.heap.objs.size ∧ s₁ = { s with heap := s.heap.push (newSetObj w) }) ⟨rfl, rfl⟩) fun r s₁ hr => ?_
  cases r with
  | error e => exact hr
  | ok fl =>
    cases fl with
    | ret obj =>
      obtain ⟨rfl, rfl⟩ := hr
      have hS : (s.heap.push (newSetObj w)).get? s.heap.objs.size = some (newSetObj w) := Heap.get?_push_size _ rfl
      have hT : Shared.TypeIs { s with heap := s.heap.push (newSetObj w) } (.ref s.heap.objs.size) "set" := ⟨_, hS, rfl⟩
      have li := F.called_set.init.lookup
      have bi := F.called_set.init.bind (.ref s.heap.objs.size)
      repeat (any_goals (first | assumption | wp_step))
      refine codeAny_mono (codeAny_call_builtin (R := wants (fun r s₂ => r = .none ∧ ∃ h' tk c, s₂ = { s with heap := h', toks := tk } ∧ SetQ w h' s.heap.objs.size (memK ks) c ∧ c ≤ ks.length ∧
          (∀ b o, s.heap.get? b = some o → h'.get? b = some o)) E) F.called_set.init.plain F.entry_set_init (check_set_init_1 hT ?_)) fun r₂ s₂ hr₂ => ?_
      · unfold Builtin.«set.__init__» noKeywords
        have kp : ∀ b o, s.heap.get? b = some o → (s.heap.push (newSetObj w)).get? b = some o := fun b o q => Heap.get?_push_of_some _ q
        generalize hU : Builtin.Frozenset.updateFrom = U
        wp_walk
        subst hU
        refine upd_set (A := A.in1.in1) G (by simp [hh]) hb kp (Nat.le_refl _) hS fun h' tk c z l k2 => ?_
        exact wpAny_pure ⟨rfl, h', tk, c, rfl, z, l, fun b o q => k2 b o (Nat.ne_of_lt (Heap.lt_size q)) (kp b o q)⟩
      · cases r₂ with
        | error e => exact hr₂
        | ok fl₂ =>
          cases fl₂ with
          | ret r =>
            obtain ⟨rfl, h', tk, c', rfl, z1, z2, z3⟩ := hr₂
            repeat (any_goals (first | assumption | wp_step))
            exact fin _ _ _ z1 z2 z3
          | _ => exact hr₂.elim
    | _ => exact hr.elim
/-- a text, sign by sign -/
theorem SetSrc.txt (x : Str) (u : Tok) : SetSrc P w s (.str x u) "str" (x.cps.toList.map fun c => Sum.inr ⟨#[c]⟩) where
  ty := fun h1 kp => (show typeOf (.str x u) = pure (.type "str") from rfl)
  ns := PySem.F.sub_str_set
  nf := PySem.F.sub_str_frozenset
  nd := by decide
  it := fun h1 D kp l1 l2 A' E' Q' hh fin => by
    refine wpAny_pyIter_str fun o St W st => ?_
    have hl : (x.cps.toList.map fun c => (Sum.inr ⟨#[c]⟩ : Key)).length = x.cps.size := by rw [List.length_map, Array.length_toList]
    refine fin _ _ [h1.objs.size] [h1.objs.size] (fun i s => St i s.heap) (SignAt x) (fun A2 h2 => by rw [hl]; exact (W A2 h2).toS) (fun i v hv => ?_) (fun b o q => Heap.get?_push_of_some _ q) (fun z => absurd (List.mem_singleton.mp z) (Nat.ne_of_lt l2)) (by simp) st
    obtain ⟨c, u, hc, rfl⟩ := hv
    refine ⟨.inr ⟨#[c]⟩, ?_, keyIs_str _ _⟩
    rw [List.getElem?_map, Array.getElem?_toList, hc]
    rfl
/-- a list of numbers or texts -/
theorem SetSrc.list {l : Addr} {items : Array Value} {ks : List Key} (hl : s.heap.IsList l items) (hk : ∀ (i : Nat) (v : Value), items[i]? = some v → ∃ k, ks[i]? = some k ∧ keyIs k v = true) (hn : items.size = ks.length) : SetSrc P w s (.ref l) "list" ks where
  ty := fun h1 kp => by
    obtain ⟨o, e1, e2, _⟩ := hl
    exact ⟨o, kp _ _ e1, e2⟩
  ns := PySem.F.sub_list_set
  nf := PySem.F.sub_list_frozenset
  nd := by decide
  it := fun h1 D kp l1 l2 A' E' Q' hh fin => by
    have hl1 : h1.IsList l items := by
      obtain ⟨o, e1, e2⟩ := hl
      exact ⟨o, kp _ _ e1, e2⟩
    have lt : l < s.heap.objs.size := by
      obtain ⟨o, e1, _⟩ := hl
      exact Heap.lt_size e1
    refine wpAny_pyIter_list hl1 ?_
    refine fin _ _ [h1.objs.size, l] [h1.objs.size] (fun i s => s.heap.IsListIter h1.objs.size l i ∧ s.heap.IsList l items) (fun i v => items[i]? = some v) (fun A2 h2 => by rw [← hn]; exact (Walks.list h2 h1.objs.size l (Nat.ne_of_lt (Nat.lt_trans (Nat.lt_of_lt_of_le lt l1) l2)) items).toS) hk (fun b o q => Heap.get?_push_of_some _ q) (fun z => by
      rcases List.mem_cons.mp z with z | z
      · exact absurd z (Nat.ne_of_lt l2)
      · exact absurd (List.mem_singleton.mp z) (Nat.ne_of_gt (Nat.lt_of_lt_of_le lt l1))) (by simp) ⟨⟨_, Heap.get?_push_size _ rfl, rfl, rfl⟩, hl1.push _⟩
/-! ### sorted of a set -/
theorem sorted_setQ {a : Addr} {S : Key → Bool} {n : Nat} {β : Type} {f : β → Key} {enc : β → PyData} {Q : Value → Shared → Prop} (Z : SetQ w s.heap a S n) (hh : A.handled = none) (hn : n ≤ sizeLine) (hu : A.units + 10 < cLine) (of : ∀ k, S k = true → ∃ b, k = f b)
    (rd : ∀ (h : Heap) b v, keyIs (f b) v = true → ∃ as, Reads h v (enc b) as) (hal : ∀ b b', alike (enc b) (enc b') = true) (hk : (∀ b, ∃ x r, enc b = .tuple (x :: r)) ∨ ∀ b, enc b ≠ .none ∧ ∀ xs, enc b ≠ .tuple xs) (hd : ∀ b, (enc b).depth = 0)
    (fin : ∀ (s' : Shared) (p : Addr) (out : List Value) (c : Nat) (bs : List β), (∀ b o, s.heap.get? b = some o → s'.heap.get? b = some o) → s'.gens = s.gens → s'.os = s.os → s.heap.objs.size ≤ p → s'.heap.get? p = some (seqObj "list" out.toArray c) →
      EachIs (fun v b => keyIs (f b) v = true) out (bs.mergeSort (dataLe false enc)) → (bs.map f).Nodup → (∀ k, k ∈ bs.map f ↔ S k = true) → bs.length = n → Q (.ref p) s') :
    wpAny (model P w) A (call (.builtin "sorted") [.ref a]) Q E s := by
  obtain ⟨o, es, ep, t, z1, z2, z3, z4, z5, z6, z7, z8, z9, z10, z11⟩ := Z
  refine Calls.call_function_entry kind_sorted plain_sorted entry_sorted (args_sorted1 _) ?_
  unfold Builtin.«sorted»
  refine wpAny_bind (m := checkCount "sorted" 1 1 _) (wpAny_pure ?_)
  refine wpAny_bind (collect_set (A := A.in1) hh ⟨o, z1, z2.1, z3⟩ z8 z7 z10 z11 fun s1 vs k1 hz g1 o1 pm => ?_)
  have vl : vs.length = n := by rw [pm.length_eq, List.length_map, Array.length_toList]; exact z9
  obtain ⟨bs, hb1, hb2⟩ : ∃ bs : List β, EachIs (fun v b => keyIs (f b) v = true) vs bs ∧ (bs.map f) = vs.map keyQ := by
    have all : ∀ v ∈ vs, ∃ b, keyIs (f b) v = true := fun v hv => by
      obtain ⟨e, he, q⟩ := List.mem_map.mp (pm.mem_iff.mp hv)
      have g := (z4 e he).1
      obtain ⟨b, hb⟩ := of (entK e) ((z6 _).2 (List.mem_map.mpr ⟨e, he, rfl⟩))
      refine ⟨b, ?_⟩
      rw [← hb, ← q]
      exact g
    clear pm vl
    induction vs with
    | nil => exact ⟨[], .nil, rfl⟩
    | cons v vs ih =>
      obtain ⟨b, hb⟩ := all v List.mem_cons_self
      obtain ⟨bs, h1, h2⟩ := ih fun u hu => all u (List.mem_cons_of_mem _ hu)
      exact ⟨b :: bs, .cons hb h1, by rw [List.map_cons, List.map_cons, h2, keyQ_of hb]⟩
  have pk : (bs.map f).Perm (es.toList.map entK) := by
    rw [hb2]
    have q := pm.map keyQ
    rw [List.map_map] at q
    exact q
  refine wpAny_bind (wpAny_newList ?_ (by rw [vl]; exact hn))
  have hoL : (s1.heap.push (seqObj "list" vs.toArray 0)).get? s1.heap.objs.size = some (seqObj "list" vs.toArray 0) := Heap.get?_push_size _ rfl
  have bl : bs.length = vs.length := hb1.length.symm
  refine wpAny_bind (wpAny_holding (list_sort_data (enc := enc) hoL hb1 (hb1.mono fun v b q => ?_) (AllAlike.of hal) (hk.elim (fun q => Sortable.tuples q) fun q => Sortable.others q) (by rw [bl, vl]; exact hn) (fun b _ => by rw [hd]; show A.units + 1 + 1 + 0 < _; omega) fun out hl ho => ?_))
  · obtain ⟨as, ha⟩ := rd (s1.heap.push (seqObj "list" vs.toArray 0)) b v q
    refine ⟨as, ha, ?_⟩
    have : ∀ (d : PyData) (v : Value) (as : List Addr), (∃ i t, v = .int i t) ∨ (∃ x t, v = .str x t) → Reads (s1.heap.push (seqObj "list" vs.toArray 0)) v d as → as = [] := fun d v as hv r => by
      rcases hv with ⟨i, t, rfl⟩ | ⟨x, t, rfl⟩ <;> cases r <;> rfl
    rw [this _ v as (by
      rcases keyIs_shape q with ⟨i, t, _, e⟩ | ⟨x, t, _, e⟩
      · exact .inl ⟨i, t, e⟩
      · exact .inr ⟨x, t, e⟩) ha]
    simp
  · obtain ⟨c, hc⟩ := sortedHeap_at (vs := vs) (out := out.toArray) hoL
    refine wpAny_pure ⟨_, rfl, fin { s1 with heap := sortedHeap (s1.heap.push (seqObj "list" vs.toArray 0)) s1.heap.objs.size vs out.toArray } s1.heap.objs.size out c bs (fun b u e => ?_) g1 o1 hz hc ho (pk.nodup_iff.mpr z5) (fun k => by rw [pk.mem_iff, ← z6 k]) (by rw [bl, vl])⟩
    have q := k1 b u e
    have lt := Heap.lt_size q
    show (sortedHeap (s1.heap.push (seqObj "list" vs.toArray 0)) s1.heap.objs.size vs out.toArray).get? b = some u
    rw [sortedHeap_old (Nat.ne_of_lt lt) (by rw [size_push']; exact Nat.lt_succ_of_lt lt)]
    exact Heap.get?_push_of_some _ q
end
end DL
set_option maxRecDepth 100000
set_option maxHeartbeats 2000000
/-! DL22: sorted(set(x)) of texts. -/
namespace DL
open PySem L2 PySem.Spec PyProof.Rows PySem.W
/-! ### rising lists -/
theorem rise_uniq {α : Type} {lt : α → α → Prop} (asym : ∀ a b, lt a b → ¬ lt b a) : ∀ {l m : List α}, l.Pairwise lt → m.Pairwise lt → (∀ a, a ∈ l ↔ a ∈ m) → l = m
  | [], [], _, _, _ => rfl
  | [], b :: m, _, _, h => absurd ((h b).mpr List.mem_cons_self) (by simp)
  | a :: l, [], _, _, h => absurd ((h a).mp List.mem_cons_self) (by simp)
  | a :: l, b :: m, p, q, h => by
    obtain ⟨p1, p2⟩ := List.pairwise_cons.mp p
    obtain ⟨q1, q2⟩ := List.pairwise_cons.mp q
    have e : a = b := by
      rcases List.mem_cons.mp ((h a).mp List.mem_cons_self) with e | e
      · exact e
      · rcases List.mem_cons.mp ((h b).mpr List.mem_cons_self) with e2 | e2
        · exact e2.symm
        · exact absurd (q1 a e) (asym _ _ (p1 b e2))
    subst e
    have irr : ¬ lt a a := fun z => asym a a z z
    congr 1
    refine rise_uniq asym p2 q2 fun x => ?_
    have hx := h x
    simp only [List.mem_cons] at hx
    constructor
    · intro m1
      rcases hx.mp (.inr m1) with e | e
      · subst e; exact absurd (p1 x m1) irr
      · exact e
    · intro m1
      rcases hx.mpr (.inr m1) with e | e
      · subst e; exact absurd (q1 x m1) irr
      · exact e
/-- rising, each once -/
def riseL (ls : List (List Nat)) : List (List Nat) := (ls.mergeSort fun a b : List Nat => decide (a ≤ b)).eraseDups
theorem pair_lt : ∀ {l : List (List Nat)}, l.Pairwise (fun a b : List Nat => decide (a ≤ b) = true) → l.Nodup → l.Pairwise (· < ·)
  | [], _, _ => List.Pairwise.nil
  | a :: l, p, n => by
    obtain ⟨p1, p2⟩ := List.pairwise_cons.mp p
    obtain ⟨n1, n2⟩ := List.nodup_cons.mp n
    exact List.pairwise_cons.mpr ⟨fun b hb => Std.lt_of_le_of_ne (of_decide_eq_true (p1 b hb)) (fun e => n1 (e ▸ hb)), pair_lt p2 n2⟩
theorem sortedT {l : List (List Nat)} : (List.mergeSort l (fun a b : List Nat => decide (a ≤ b))).Pairwise (fun a b : List Nat => decide (a ≤ b) = true) :=
  List.pairwise_mergeSort (le := fun a b : List Nat => decide (a ≤ b)) (fun a b c h1 h2 => decide_eq_true (List.le_trans (of_decide_eq_true h1) (of_decide_eq_true h2))) (fun a b => by
    rw [Bool.or_eq_true, decide_eq_true_eq, decide_eq_true_eq]
    exact List.le_total a b) l
/-! ### sets as objects -/
def SetKO (w : World) (a : Addr) (S : Key → Bool) (n : Nat) : HO := .ext fun h => SetQ w h a S n
section
variable {X : Cx}
theorem setKO_new {w : World} {P : Program} {H : Hp} {h : Heap} {a : Addr} {S : Key → Bool} {n : Nat} (Z : SetQ w h a S n) : ObjOk P w H h a (SetKO w a S n) := by
  refine ⟨Z, ?_, fun h1 h2 z k => z.stay k⟩
  obtain ⟨o, _, _, _, e, _⟩ := Z
  exact ⟨o, e⟩
theorem setKO_get {pins : List (Addr × Obj)} {σ : L2.St} {H : Hp} {s : Shared} {a : Addr} {S : Key → Bool} {n : Nat} (I : Inv X pins σ H s) (ha : H a = some (SetKO X.w a S n)) : SetQ X.w s.heap a S n := (I.hok a _ ha).1
/-- set(x), x a text -/
def rSetT (w : World) : List V → Hp → VK → Prop := fun xs H Q => ∃ (z : Str), xs = [.str z] ∧ z.cps.size + 1 < scanBound ∧
  ∀ p c, H p = none → c ≤ z.cps.size → Q (.ref p) (upd H p (SetKO w p (memK (z.cps.toList.map fun c => Sum.inr ⟨#[c]⟩)) c))
/-- set(x), x a list of texts -/
def rSetL (K : PySem.W.Frag) (w : World) : List V → Hp → VK → Prop := fun xs H Q => ∃ (a : Addr) (zs : List Str), xs = [.ref a] ∧ SqL K H a (zs.map V.str) ∧ zs.length + 1 < scanBound ∧
  ∀ p c, H p = none → c ≤ zs.length → Q (.ref p) (upd H p (SetKO w p (memK (zs.map Sum.inr)) c))
theorem inv_newSet {pins : List (Addr × Obj)} {σ : L2.St} {H : Hp} {s : Shared} {S : Key → Bool} {c tk : Nat} {h' : Heap} (I : Inv X pins σ H s) (z : SetQ X.w h' s.heap.objs.size S c) (k : ∀ b o, s.heap.get? b = some o → h'.get? b = some o) : Inv X pins σ (upd H s.heap.objs.size (SetKO X.w s.heap.objs.size S c)) { s with heap := h', toks := tk } :=
  I.laid (t' := tk) k (Nat.le_refl _) (setKO_new z)
theorem cr_setT (hc : X.calm = true) : CallR X (.type "set") (rSetT X.w) := by
  intro pins s σ H xs us Q I r h
  obtain ⟨z, rfl, hb, q⟩ := h
  cases r with
  | cons r t =>
    cases t
    obtain ⟨u, rfl⟩ := r
    refine call_setQ (SetSrc.txt z u) (I.ok.hd hc) (by rw [List.length_map, Array.length_toList]; exact hb) fun h' tk c hS hl k => ?_
    exact ⟨.ref _, _, inv_newSet I hS k, rfl, q _ _ (I.hok.fresh (Nat.le_refl _)) (by rw [List.length_map, Array.length_toList] at hl; exact hl)⟩
theorem cr_setL (hc : X.calm = true) : CallR X (.type "set") (rSetL X.K X.w) := by
  intro pins s σ H xs us Q I r h
  obtain ⟨a, zs, rfl, hs, hb, q⟩ := h
  obtain ⟨its, rv, hl, hz⟩ := I.list hs
  rw [Vals.ref1 r]
  have hn : its.toArray.size = (zs.map Sum.inr : List Key).length := by rw [List.size_toArray, ← rv.length, List.length_map, List.length_map]
  refine call_setQ (SetSrc.list hl.isList (fun i v e => ?_) hn) (I.ok.hd hc) (by rw [List.length_map]; exact hb) fun h' tk c hS hlc k => ?_
  · have e' : its[i]? = some v := by rw [List.getElem?_toArray] at e; exact e
    have hi : i < its.length := (List.getElem?_eq_some_iff.mp e').1
    have hi2 : i < zs.length := by rw [← rv.length, List.length_map] at hi; exact hi
    obtain ⟨u, h1, h2⟩ := rv.get (i := i) (x := V.str zs[i]) (by rw [List.getElem?_map, List.getElem?_eq_getElem hi2]; rfl)
    rw [e'] at h1
    cases h1
    obtain ⟨t, rfl⟩ := h2
    exact ⟨.inr zs[i], by rw [List.getElem?_map, List.getElem?_eq_getElem hi2]; rfl, keyIs_str _ _⟩
  · exact ⟨.ref _, _, inv_newSet I hS k, rfl, q _ _ (I.hok.fresh (Nat.le_refl _)) (by rw [List.length_map] at hlc; exact hlc)⟩
/-- sorted(x), x a set of texts -/
def rSortS (w : World) : List V → Hp → VK → Prop := fun xs H Q => ∃ (a : Addr) (ks : List (List Nat)) (n : Nat), xs = [.ref a] ∧ H a = some (SetKO w a (memK (ks.map fun l => Sum.inr (SX.S l))) n) ∧ n ≤ sizeLine ∧
  ∀ (ls : List (List Nat)), ls.Pairwise (· < ·) → (∀ l, l ∈ ls ↔ l ∈ ks) → ls.length = n → ∀ p, H p = none → Q (.ref p) (upd H p (.lst ((ls.map SX.S).map V.str)))
theorem vals_txts : ∀ {ls : List (List Nat)} {us : List Value}, EachIs (fun v l => keyIs (Sum.inr (SX.S l)) v = true) us ls → Vals ((ls.map SX.S).map V.str) us
  | [], _, .nil => .nil
  | l :: ls, _, .cons h t => by
    obtain ⟨i, u, e, _⟩ | ⟨x, u, e, rfl⟩ := keyIs_shape h
    · cases e
    · cases e
      exact .cons ⟨u, rfl⟩ (vals_txts t)
theorem cr_sortS (hc : X.calm = true) (hu : X.A.units + 10 < cLine) : CallR X (.builtin "sorted") (rSortS X.w) := by
  intro pins s σ H xs us Q I r h
  obtain ⟨a, ks, n, rfl, ha, hn, q⟩ := h
  have Z := setKO_get I ha
  rw [Vals.ref1 r]
  refine sorted_setQ (β := List Nat) (f := fun l => Sum.inr (SX.S l)) (enc := fun l => .str (SX.S l)) Z (I.ok.hd hc) hn hu (fun k hk => ?_) (fun h b v hv => ?_) (fun b b' => rfl) (.inr fun b => ⟨(fun e => nomatch e), fun xs e => nomatch e⟩) (fun b => by simp [PyData.depth]) fun s' p out c bs kp g o hp hg ho nd hm hl => ?_
  · obtain ⟨l, _, e⟩ := List.mem_map.mp (memK_iff.mp hk)
    exact ⟨l, e.symm⟩
  · obtain ⟨i, u, e, _⟩ | ⟨x, u, e, rfl⟩ := keyIs_shape hv
    · cases e
    · cases e
      exact ⟨_, .str _ _⟩
  · have eo : bs.mergeSort (dataLe false fun l => PyData.str (SX.S l)) = bs.mergeSort fun a b => decide (a ≤ b) := by
      rw [dataLe_str]
    rw [eo] at ho
    have pm := List.mergeSort_perm bs fun a b => decide (a ≤ b)
    have inj : ∀ a b : List Nat, (Sum.inr (SX.S a) : Key) = Sum.inr (SX.S b) → a = b := fun a b e => SX.S_inj (Sum.inr.inj e)
    have nb : bs.Nodup := (List.pairwise_map.mp nd).imp fun {x y} hne e => hne (by rw [e])
    have n2 : (bs.mergeSort fun a b => decide (a ≤ b)).Nodup := pm.nodup_iff.mpr nb
    have mem : ∀ l, l ∈ (bs.mergeSort fun a b => decide (a ≤ b)) ↔ l ∈ ks := fun l => by
      rw [pm.mem_iff]
      have h1 := hm (Sum.inr (SX.S l))
      rw [memK_iff, List.mem_map, List.mem_map] at h1
      constructor
      · intro hb
        obtain ⟨l', h2, e⟩ := h1.mp ⟨l, hb, rfl⟩
        rw [← inj _ _ e]; exact h2
      · intro hb
        obtain ⟨l', h2, e⟩ := h1.mpr ⟨l, hb, rfl⟩
        rw [← inj _ _ e]; exact h2
    have hlen : (((bs.mergeSort fun a b => decide (a ≤ b)).map SX.S).map V.str).length ≤ sizeLine := by rw [List.length_map, List.length_map, pm.length_eq, hl]; exact hn
    have fr : H p = none := I.hok.fresh hp
    have J : Inv X pins σ (upd H p (.lst (((bs.mergeSort fun a b => decide (a ≤ b)).map SX.S).map V.str))) { s with heap := s'.heap, gens := s'.gens, drawn := s'.drawn, toks := s'.toks } :=
      I.call (ch := []) (Un.laid kp hp fr) (I.hok.laid kp hp ⟨hlen, out, c, vals_txts ho, hg⟩) (by rw [g]; exact I.bare) (fun _ z => nomatch z)
    have e : s' = { s with heap := s'.heap, gens := s'.gens, drawn := s'.drawn, toks := s'.toks } := by
      cases s'; cases s; cases o; rfl
    rw [e]
    exact ⟨.ref p, _, J, rfl, q _ (pair_lt sortedT n2) mem (by rw [pm.length_eq, hl]) p fr⟩
end
/-! ### in a def -/
section
variable {C : SC} {E : EPost} {ρ : Env} {μ : Mem} {e : Expr} {Q : XV → Mem → Prop} {p p2 pos pos2 : Pos}
theorem room_u {C : SC} {X : Cx} (h : C.Has X) : X.A.units + 10 < cLine := by
  have := h.u64
  omega
theorem Rep.grow2 {K : PySem.W.Frag} {L : Addr → Prop} {H : Hp} {p : Addr} {o : HO} (hp : H p = none) {d : D} {v : V} (r : Rep K L H d v) : Rep K L (upd H p o) d v := Rep.mono (fun a u e nl => ⟨upd_grow hp a u e, nl⟩) d v r
/-- sorted(set(x)), x a text -/
theorem we_sortSetT [Calm C] (B : Blts C.mg) (g1 : C.Glob "sorted") (g2 : C.Glob "set") (h : WE C e ρ μ E fun x μ1 => ∃ l : List Nat, x = .d (.txt l) ∧ l.length + 1 < scanBound ∧ ∀ cs : List Nat, cs.Pairwise (· < ·) → (∀ c, c ∈ cs ↔ c ∈ l) → Q (.d (.lst (cs.map fun c => .txt [c]))) μ1)
    (he : ∀ env, starEach [e] env = (false, eval e env) :: starEach [] env := by intro _; rfl) (he2 : ∀ env, starEach [Expr.Call (.Name "set" p2) [e] [] pos2] env = (false, eval (.Call (.Name "set" p2) [e] [] pos2) env) :: starEach [] env := by intro _; rfl) :
    WE C (.Call (.Name "sorted" p) [.Call (.Name "set" p2) [e] [] pos2] [] pos) ρ μ E Q := fun X σ H w A => by
  have hg : ∀ x, C.Glob x → Gl X x := fun x hx => by show X.env.scope.names.lookup x = _; rw [A.has.sc]; exact hx
  have hm : ∀ x, C.mg x = none → X.mg x = none := fun x hx => by rw [A.has.mg]; exact hx
  refine tE_of (pe_callB (cr_sortS (A.has.calm Calm.h) (room_u A.has)) (hg _ g1) (hm _ B.sorted) (by decide +kernel) (pa_cons (pe_callTy (cr_setT (A.has.calm Calm.h)) (hg _ g2) (hm _ B.set) (by decide +kernel) (pa_cons pe_tE pa_nil (he _)) (by decide) (by decide) (he _) rfl) pa_nil (he2 _)) (by decide) (by decide) (he2 _) rfl) ?_
  refine h.go A fun v H1 x μ1 w1 r1 A1 S1 ⟨l, ex, hz, q⟩ => ?_
  subst ex
  refine ⟨SX.S l, by rw [show v = V.str (SX.S l) from r1], by simpa using hz, fun p1 c hp1 hc => ?_⟩
  refine ⟨p1, l.map fun c => [c], c, rfl, ?_, ?_, ?_⟩
  · rw [upd_same, List.map_map]
    rfl
  · have : c ≤ l.length := by simpa using hc
    have hs : scanBound ≤ sizeLine := by decide
    omega
  · intro ls hls hmem hlen p2 hp2
    -- each is one sign
    have one : ∀ l' ∈ ls, ∃ c, l' = [c] := fun l' hl' => by
      obtain ⟨c, _, e⟩ := List.mem_map.mp ((hmem l').mp hl')
      exact ⟨c, e.symm⟩
    obtain ⟨cs, ecs⟩ : ∃ cs : List Nat, ls = cs.map fun c => [c] := by
      clear hls hmem hlen
      induction ls with
      | nil => exact ⟨[], rfl⟩
      | cons a r ih =>
        obtain ⟨c, rfl⟩ := one a List.mem_cons_self
        obtain ⟨cs, rfl⟩ := ih fun l' hl' => one l' (List.mem_cons_of_mem _ hl')
        exact ⟨c :: cs, rfl⟩
    subst ecs
    have rise : cs.Pairwise (· < ·) := (List.pairwise_map.mp hls).imp fun {a b} h => (List.cons_lt_cons_iff.mp h).elim id fun z => absurd z.2 (List.lt_irrefl _)
    have mem : ∀ c, c ∈ cs ↔ c ∈ l := fun c => by
      have := hmem [c]
      simpa using this
    have hp2' : H1 p2 = none := by
      rcases Nat.decEq p2 p1 with n | n
      · rw [upd_ne n] at hp2; exact hp2
      · rw [n, upd_same] at hp2; cases hp2
    refine lift.from S1 ?_
    have kg : ∀ a u, H1 a = some u → upd H1 p1 (SetKO X.w p1 (memK ((SX.S l).cps.toList.map fun c => Sum.inr ⟨#[c]⟩)) c) a = some u := upd_grow hp1
    refine lift.from (Stp.grow (w := w1) (μ := μ1) kg) ?_
    refine lift.new (A1.M.grow kg) hp2 (x := .lst (cs.map fun c => .txt [c])) (fun nl => ⟨p2, _, rfl, nl, upd_same, ?_⟩) (q cs rise mem)
    have e1 : cs.map (fun c => D.txt [c]) = (cs.map fun c => [c]).map D.txt := by rw [List.map_map]; rfl
    rw [e1]
    exact Reps.of_txts
end
end DL
set_option maxRecDepth 100000
set_option maxHeartbeats 2000000
namespace DL
open PySem L2 PySem.Spec
/-! ### zip over two things, each a list, a tuple or a text -/
inductive ZK where
  | lst (a : Addr) | tup (a : Addr) | str (x : Str)
def ZK.v : ZK → V
  | .lst a => .ref a
  | .tup a => .ref a
  | .str x => .str x
def ZK.own : ZK → List Addr
  | .lst a => [a]
  | .tup a => [a]
  | .str _ => []
def ZK.fp (k : ZK) (it : Addr) : List Addr := it :: k.own
def ZK.its (K : PySem.W.Frag) (H : Hp) : ZK → List V → Prop
  | .lst a, xs => SqL K H a xs
  | .tup a, xs => SqT K H a xs
  | .str x, xs => xs = x.cps.toList.map fun c => V.str ⟨#[c]⟩
def ZK.at (it : Addr) : ZK → Nat → Heap → Prop
  | .lst a, i, h => h.IsListIter it a i
  | .tup a, i, h => h.IsTupleIter it a i
  | .str x, i, h => ∃ t, h.IsStrIter it (strIterType x) x t i
theorem ZK.at_obj {k : ZK} {it : Addr} {i : Nat} {h : Heap} (s : k.at it i h) : ∃ o, h.get? it = some o ∧ ∀ v, o.data ≠ .cell v := by
  cases k with
  | lst a => obtain ⟨o, e, _, d⟩ := s; exact ⟨o, e, fun v q => by rw [d] at q; cases q⟩
  | tup a => obtain ⟨o, e, _, d⟩ := s; exact ⟨o, e, fun v q => by rw [d] at q; cases q⟩
  | str x => obtain ⟨t, o, e, _, d⟩ := s; exact ⟨o, e, fun v q => by rw [d] at q; cases q⟩
theorem ZK.at_keep {k : ZK} {it : Addr} {i : Nat} {h h' : Heap} (s : k.at it i h) (kp : ∀ o, h.get? it = some o → h'.get? it = some o) : k.at it i h' := by
  cases k with
  | lst a => exact Heap.IsListIter.at s kp
  | tup a => exact Heap.IsTupleIter.at s kp
  | str x => obtain ⟨t, o, e, c, d⟩ := s; exact ⟨t, o, kp o e, c, d⟩
section
variable {X : Cx} {pins : List (Addr × Obj)} {σ : L2.St} {H : Hp} {s : Shared}
theorem ZK.its_inj (I : Inv X pins σ H s) {k : ZK} {xs ys : List V} (h1 : k.its X.K H xs) (h2 : k.its X.K H ys) : xs = ys := by
  cases k with
  | lst a => exact I.list_inj h1 h2
  | tup a => exact I.tuple_inj h1 h2
  | str x => exact (show xs = _ from h1).trans (show ys = _ from h2).symm
/-- what an iterator over such a thing draws here -/
structure ZDraw (X : Cx) (s : Shared) (k : ZK) (it : Addr) (xs : List V) (n : Nat) (P : Nat → Value → Prop) (St : Nat → Heap → Prop) : Prop where
  dr : Draws X.prog X.w X.A.in1 it (k.fp it) n P St
  now : ∀ i, k.at it i s.heap → St i s.heap
  back : ∀ i h, St i h → k.at it i h
  rel : ∀ i u, P i u → ∃ x, xs[i]? = some x ∧ RelV x u
  len : n = xs.length
theorem ZK.draw (I : Inv X pins σ H s) (hc : X.calm = true) {k : ZK} {it : Addr} (hne : it ∉ k.own) {xs : List V} (q : k.its X.K H xs) : ∃ n P St, ZDraw X s k it xs n P St := by
  have hh : X.A.in1.handled = none := I.ok.hd hc
  cases k with
  | lst a =>
    obtain ⟨its, rv, p, _⟩ := I.list q
    exact ⟨_, _, _, .list hh it a (fun e => hne (by rw [e]; exact List.mem_singleton.mpr rfl)) its.toArray, fun i st => ⟨st, p.isList⟩, fun i h st => st.1, fun i u hu => by
      have hu : its.toArray[i]? = some u := hu
      have hu' : its[i]? = some u := by simpa using hu
      have hi : i < xs.length := by rw [rv.length]; exact (List.getElem?_eq_some_iff.mp hu').1
      obtain ⟨u2, e2, r2⟩ := rv.get (List.getElem?_eq_getElem hi)
      rw [hu'] at e2
      cases e2
      exact ⟨_, List.getElem?_eq_getElem hi, r2⟩, by rw [List.size_toArray]; exact rv.length.symm⟩
  | tup a =>
    obtain ⟨its, rv, p, _⟩ := I.tuple q
    exact ⟨_, _, _, .tuple hh it a (fun e => hne (by rw [e]; exact List.mem_singleton.mpr rfl)) its.toArray, fun i st => ⟨st, p⟩, fun i h st => st.1, fun i u hu => by
      have hu : its.toArray[i]? = some u := hu
      have hu' : its[i]? = some u := by simpa using hu
      have hi : i < xs.length := by rw [rv.length]; exact (List.getElem?_eq_some_iff.mp hu').1
      obtain ⟨u2, e2, r2⟩ := rv.get (List.getElem?_eq_getElem hi)
      rw [hu'] at e2
      cases e2
      exact ⟨_, List.getElem?_eq_getElem hi, r2⟩, by rw [List.size_toArray]; exact rv.length.symm⟩
  | str x =>
    have q' : xs = x.cps.toList.map fun c => V.str ⟨#[c]⟩ := q
    refine ⟨x.cps.size, fun i v => ∃ c u, x.cps[i]? = some c ∧ v = .str ⟨#[c]⟩ u, fun i h => ∃ t, h.IsStrIter it (strIterType x) x t i, ⟨?_, ?_, ?_, ?_⟩, fun i st => st, fun i h st => st, fun i u hu => ?_, ?_⟩
    · exact fun i h ⟨t, o, ho, _⟩ => ⟨o, ho⟩
    · exact fun i h h' ⟨t, st⟩ hk => ⟨t, (Draws.text (prog := X.prog) (w := X.w) hh it x t).frame i h h' st hk⟩
    · exact fun i s1 Q E hi ⟨t, st⟩ hQ => (Draws.text hh it x t).item i s1 Q E hi st fun v h' tk hv st' sb => hQ v h' tk hv ⟨t, st'⟩ sb
    · exact fun s1 Q E ⟨t, st⟩ hE => (Draws.text hh it x t).done s1 Q E st hE
    · obtain ⟨c, t, hx, rfl⟩ := hu
      refine ⟨.str ⟨#[c]⟩, ?_, ⟨t, rfl⟩⟩
      rw [q', List.getElem?_map, Array.getElem?_toList, hx]
      rfl
    · rw [q', List.length_map, Array.length_toList]
end
/-- the items in new pairs -/
def Itz2 (K : PySem.W.Frag) (k1 k2 : ZK) : It :=
  ⟨fun i H => ∃ xs ys, k1.its K H xs ∧ k2.its K H ys ∧ i < xs.length ∧ i < ys.length,
    fun i H v H' => ∃ T x y, v = .ref T ∧ H T = none ∧ H' = upd H T (.tup [x, y]) ∧ (∀ xs, k1.its K H xs → xs[i]? = some x) ∧ ∀ ys, k2.its K H ys → ys[i]? = some y,
    fun i H => ∃ xs ys, k1.its K H xs ∧ k2.its K H ys ∧ i ≤ xs.length ∧ i ≤ ys.length ∧ (i = xs.length ∨ i = ys.length)⟩
theorem turn_zip2 {P : Program} {w : World} {K : PySem.W.Frag} {elts : List Expr} {kk : Nat} {tpos : Pos} {k1 k2 : ZK} {z TI TO i1 i2 : Addr} (D : ZipSep2 z TI TO i1 i2 (k1.fp i1) (k2.fp i2)) (n1 : i1 ∉ k1.own) (n2 : i2 ∉ k2.own) :
    Turn P w K (.Tuple elts kk tpos) (Itz2 K k1 k2) [z, TI, TO, i1, i2] z (fun i h => IsZip h z TI TO .none ∧ IsTupOf2 h TI (.ref i1) (.ref i2) ∧ (∃ x y, IsTupOf2 h TO x y) ∧ k1.at i1 i h ∧ k2.at i2 i h) where
  mem := by simp
  obj := fun i h st c hc => by
    obtain ⟨hz, hTI, ⟨x, y, hTO⟩, s1, s2⟩ := st
    have e' : c = z ∨ c = TI ∨ c = TO ∨ c = i1 ∨ c = i2 := by simpa using hc
    rcases e' with q | q | q | q | q
    · rw [q]; exact ⟨_, hz, fun v q => nomatch q⟩
    · rw [q]; exact ⟨_, hTI, fun v q => nomatch q⟩
    · rw [q]; exact ⟨_, hTO, fun v q => nomatch q⟩
    · rw [q]; exact (ZK.at_obj s1)
    · rw [q]; exact (ZK.at_obj s2)
  keep := fun i h h' st k => by
    obtain ⟨hz, hTI, ⟨x, y, hTO⟩, s1, s2⟩ := st
    exact ⟨k z (by simp) _ hz, k TI (by simp) _ hTI, ⟨x, y, k TO (by simp) _ hTO⟩, ZK.at_keep s1 fun o q => k i1 (by simp) o q, ZK.at_keep s2 fun o q => k i2 (by simp) o q⟩
  item := by
    intro X hP hw hK hc i pins s σ H E I hf st hg
    subst hP hw hK
    obtain ⟨hz, hTI, ⟨x0, y0, hTO⟩, st1, st2⟩ := st
    obtain ⟨xs, ys, qx, qy, lx, ly⟩ := hg
    obtain ⟨m1, P1, S1, d1⟩ := ZK.draw I hc n1 qx
    obtain ⟨m2, P2, S2, d2⟩ := ZK.draw I hc n2 qy
    have hzl : z < s.heap.objs.size := Heap.lt_size hz
    refine wpAny_pyNext_zipD2_item D d1.dr d2.dr hz hTI hTO (d1.now _ st1) (d2.now _ st2) (by rw [d1.len]; exact lx) (by rw [d2.len]; exact ly) fun u u2 h' tk hu hu2 z' TO' t1' t2' hT hsz hk => ?_
    obtain ⟨x, hx, ru⟩ := d1.rel _ _ hu
    obtain ⟨y, hy, ru2⟩ := d2.rel _ _ hu2
    refine ⟨_, rfl, wpAny_letOwnedTupleGo_zip (s := { s with heap := h', toks := tk }) z' fun h'' z'' sb => ?_⟩
    have hT2 : h''.get? s.heap.objs.size = some { cls := .type "tuple", data := .seq #[u, u2] } := (sb.2 _ (Nat.ne_of_gt hzl)).trans hT
    have new : ObjOk X.prog X.w (upd H s.heap.objs.size (.tup [x, y])) h'' s.heap.objs.size (.tup [x, y]) :=
      ⟨by show 2 ≤ sizeLine; decide, [u, u2], .cons ru (.cons ru2 .nil), ⟨_, hT2, rfl, _, rfl⟩⟩
    have Inew : Inv X pins σ (upd H s.heap.objs.size (.tup [x, y])) { s with heap := h'', toks := tk } :=
      I.turnedNew (t' := tk) (ch := [z, TI, TO, i1, i2]) (fun c o hb q => (sb.2 c (fun q' => hb (by simp [q']))).trans (hk c o (fun q' => hb (by simp [q'])) (fun q' => hb (by simp [q'])) (fun q' => hb (by simp [q'])) (fun q' => hb (by simp [q'])) q)) hf (Nat.le_refl _) new
    refine ⟨.ref s.heap.objs.size, _, Inew, rfl, ⟨_, x, y, rfl, I.hok.fresh (Nat.le_refl _), rfl, fun l hl => by rw [ZK.its_inj I hl qx]; exact hx, fun l hl => by rw [ZK.its_inj I hl qy]; exact hy⟩, ⟨z'', ?_, ⟨u, u2, ?_⟩, ?_, ?_⟩, fun c hcm => ?_⟩
    · exact (sb.2 _ D.TIz).trans (hk _ _ D.TIz D.TITO D.TIi1 D.TIi2 hTI)
    · exact (sb.2 _ D.TOz).trans TO'
    · exact ZK.at_keep (d1.back _ _ t1') fun o q => (sb.2 _ D.zi1.symm).trans q
    · exact ZK.at_keep (d2.back _ _ t2') fun o q => (sb.2 _ D.zi2.symm).trans q
    · have hlt : c < s.heap.objs.size := by
        have e' : c = z ∨ c = TI ∨ c = TO ∨ c = i1 ∨ c = i2 := by simpa using hcm
        rcases e' with q | q | q | q | q
        · rw [q]; exact hzl
        · rw [q]; exact Heap.lt_size hTI
        · rw [q]; exact Heap.lt_size hTO
        · rw [q]; obtain ⟨_, e1, _⟩ := (ZK.at_obj st1); exact Heap.lt_size e1
        · rw [q]; obtain ⟨_, e2, _⟩ := (ZK.at_obj st2); exact Heap.lt_size e2
      rw [upd_ne (Nat.ne_of_lt hlt)]
      exact (hf c hcm).1
  done := by
    intro X hP hw hK hc i pins s σ H E I hf st hg
    subst hP hw hK
    obtain ⟨hz, hTI, ⟨x0, y0, hTO⟩, st1, st2⟩ := st
    obtain ⟨xs, ys, qx, qy, lx, ly, hend⟩ := hg
    obtain ⟨m1, P1, S1, d1⟩ := ZK.draw I hc n1 qx
    obtain ⟨m2, P2, S2, d2⟩ := ZK.draw I hc n2 qy
    refine wpAny_pyNext_zipD2_end D d1.dr d2.dr hz hTI hTO (d1.now _ st1) (d2.now _ st2) (by rw [d1.len]; exact lx) (by rw [d2.len]; exact ly) (by rw [d1.len, d2.len]; exact hend) fun h' tk hk => ⟨rfl, I.turnedL (t' := tk) (ch := [z, TI, TO, i1, i2]) (fun c o hb q =>
      hk c o (fun q' => hb (by simp [q'])) (fun q' => hb (by simp [q'])) (fun q' => hb (by simp [q'])) (fun q' => hb (by simp [q'])) q) hf⟩
  self := fun A i s Q E st h => wpAny_pyIter_zip st.1 h
/-- how the walk over such a thing begins -/
theorem ZK.begins {X : Cx} {pins : List (Addr × Obj)} {σ : L2.St} {H : Hp} {s : Shared} (I : Inv X pins σ H s) {k : ZK} {u : Value} (r : RelV k.v u) {xs : List V} (q : k.its X.K H xs) :
    ∃ o Hq, Begins u o Hq ∧ Hq s.heap ∧ (∀ (it : Addr) (h : Heap), h.get? it = some o → k.at it 0 h) ∧ ∀ a ∈ k.own, a < s.heap.objs.size := by
  cases k with
  | lst a =>
    obtain ⟨its, rv, p, _⟩ := I.list q
    cases (show u = .ref a from r)
    exact ⟨_, _, begins_list a its.toArray, p.isList, fun it h e => ⟨_, e, rfl, rfl⟩, fun b hb => by rw [List.mem_singleton.mp hb]; exact p.lt⟩
  | tup a =>
    obtain ⟨its, rv, p, _⟩ := I.tuple q
    cases (show u = .ref a from r)
    obtain ⟨o1, ho1, _⟩ := id p
    exact ⟨_, _, begins_tuple a its.toArray, p, fun it h e => ⟨_, e, rfl, rfl⟩, fun b hb => by rw [List.mem_singleton.mp hb]; exact Heap.lt_size ho1⟩
  | str x =>
    obtain ⟨t, rfl⟩ := (show ∃ t, u = Value.str x t from r)
    exact ⟨_, _, begins_text x t, trivial, fun it h e => ⟨t, _, e, rfl, rfl⟩, fun b hb => nomatch hb⟩
theorem zsep2 {n : Nat} {k1 k2 : ZK} (h1 : ∀ a ∈ k1.own, a < n) (h2 : ∀ a ∈ k2.own, a < n) : ZipSep2 (n + 4) (n + 2) (n + 3) n (n + 1) (k1.fp n) (k2.fp (n + 1)) := by
  have o1 : ∀ j, n ≤ j → j ∉ k1.own := fun j hj q => Nat.lt_irrefl _ (Nat.lt_of_lt_of_le (h1 j q) hj)
  have o2 : ∀ j, n ≤ j → j ∉ k2.own := fun j hj q => Nat.lt_irrefl _ (Nat.lt_of_lt_of_le (h2 j q) hj)
  have m1 : ∀ j, n ≤ j → j ≠ n → j ∉ k1.fp n := fun j hj hn q => by
    rcases List.mem_cons.mp q with e | e
    · exact hn e
    · exact o1 j hj e
  have m2 : ∀ j, n ≤ j → j ≠ n + 1 → j ∉ k2.fp (n + 1) := fun j hj hn q => by
    rcases List.mem_cons.mp q with e | e
    · exact hn e
    · exact o2 j hj e
  exact { TIz := by show n + 2 ≠ n + 4; omega, TOz := by show n + 3 ≠ n + 4; omega, TITO := by show n + 2 ≠ n + 3; omega, TIi1 := by show n + 2 ≠ n; omega, TIi2 := by show n + 2 ≠ n + 1; omega,
          mem1 := List.mem_cons_self .., mem2 := List.mem_cons_self .., zf1 := m1 _ (by omega) (by omega), Tf1 := m1 _ (by omega) (by omega), zf2 := m2 _ (by omega) (by omega), Tf2 := m2 _ (by omega) (by omega),
          sep1_2 := m2 _ (by omega) (by omega), sep2_1 := m1 _ (by omega) (by omega) }
def iZip2 (K : PySem.W.Frag) (ta : TA) : TI := fun σ H R => ta σ H fun vs H1 => ∃ k1 k2 xs ys, vs = [ZK.v k1, ZK.v k2] ∧ k1.its K H1 xs ∧ k2.its K H1 ys ∧ R (Itz2 K k1 k2) H1
theorem pi_zip2 {X : Cx} {e e2 : Expr} {ta : TA} {p pos tpos : Pos} {elts : List Expr} {kk : Nat} (hg : Gl X "zip") (hm : X.mg "zip" = none) (ha : L2.PA X [e, e2] ta)
    (hs : starEach [e, e2] X.env = (false, eval e X.env) :: starEach [e2] X.env := by rfl) (hpl : (backTo pos (starEach [e2] X.env)).any (·.1) = false := by rfl) :
    PI X (.Tuple elts kk tpos) (.Call (.Name "zip" p) [e, e2] [] pos) (iZip2 X.K ta) := by
  refine ⟨fun pins s σ H R I h => ?_⟩
  refine PyProof.Rows.Call_ (ld_blt I hg hm PyProof.Rows.boot_zip (PyProof.Rows.callWith_type1 (thn (ha.run pos pins s σ H _ I h) fun us s1 ⟨vs, H1, I1, r1, q1⟩ => ?_) hs hpl))
  obtain ⟨k1, k2, xs, ys, ex, qx, qy, q⟩ := q1
  subst ex
  cases r1 with
  | cons r rr =>
    cases rr with
    | cons r' rr =>
      cases rr
      obtain ⟨o1, Hq1, B1, b1, at1, lt1⟩ := ZK.begins I1 r qx
      obtain ⟨o2, Hq2, B2, b2, at2, lt2⟩ := ZK.begins I1 r' qy
      refine zip_begins2 B1 B2 b1 b2 fun h' hz hTI hTO g1 g2 hsz hk => wpAny_pyIter_zip hz ?_
      have Inew : Inv X pins σ H1 { s1 with heap := h' } := I1.kept (t' := s1.toks) hk
      refine ⟨s1.heap.objs.size + 4, [s1.heap.objs.size + 4, s1.heap.objs.size + 2, s1.heap.objs.size + 3, s1.heap.objs.size, s1.heap.objs.size + 1], _, _, H1, rfl, Inew,
        turn_zip2 (zsep2 lt1 lt2) (fun q => Nat.lt_irrefl _ (lt1 _ q)) (fun q => Nat.lt_irrefl _ (Nat.lt_trans (Nat.lt_succ_self _) (lt2 _ q))), ⟨hz, hTI, ⟨_, _, hTO⟩, at1 _ _ g1, at2 _ _ g2⟩, fun c hcm => ?_, q⟩
      have e' : c = s1.heap.objs.size + 4 ∨ c = s1.heap.objs.size + 2 ∨ c = s1.heap.objs.size + 3 ∨ c = s1.heap.objs.size ∨ c = s1.heap.objs.size + 1 := by simpa using hcm
      have hle : s1.heap.objs.size ≤ c := by rcases e' with z | z | z | z | z <;> rw [z] <;> first | exact Nat.le_add_right _ _ | exact Nat.le_refl _
      exact I1.fpOk hle (I1.hok.fresh hle)
/-! ### the same over data -/
/-- x is a thing that zip goes through, its items are ds -/
def Zi : D → List D → Prop
  | .lst xs, ds => ds = xs
  | .tup xs, ds => ds = xs
  | .scr ns, ds => ds = ns.map D.int
  | .txt l, ds => ds = l.map fun c => D.txt [c]
  | _, _ => False
/-- the kind stands here, with these things in it -/
def ZHas (K : PySem.W.Frag) (μ : Mem) (H : Hp) (w : IA) (k : ZK) (ds : List D) : Prop :=
  ∀ μ' H' w', Kp μ H w μ' H' w' → ∃ xs, k.its K H' xs ∧ Reps K (Live μ' w') H' ds xs
theorem reps_ints {K : PySem.W.Frag} {L : Addr → Prop} {H : Hp} : ∀ {ns : List Int}, Reps K L H (ns.map D.int) (ns.map V.int)
  | [] => rfl
  | n :: ns => ⟨_, _, rfl, rfl, reps_ints⟩
theorem reps_txt {K : PySem.W.Frag} {L : Addr → Prop} {H : Hp} : ∀ {l : List Nat}, Reps K L H (l.map fun c => D.txt [c]) (l.map fun c => V.str ⟨#[c]⟩)
  | [] => rfl
  | c :: l => ⟨_, _, rfl, rfl, reps_txt⟩
theorem Zi.has {K : PySem.W.Frag} {μ : Mem} {H : Hp} {w : IA} {x : D} {ds : List D} (z : Zi x ds) {v : V} (r : RepX K μ H w (.d x) v) : ∃ k, v = ZK.v k ∧ ZHas K μ H w k ds := by
  cases x with
  | lst xs =>
    cases (show ds = xs from z)
    obtain ⟨a, vs, rfl, nl, e, rr⟩ := r
    exact ⟨.lst a, rfl, fun μ' H' w' kp => ⟨vs, SqL.of (kp.keep a _ e nl).1, Reps.mono kp.keep _ _ rr⟩⟩
  | tup xs =>
    cases (show ds = xs from z)
    obtain ⟨a, vs, rfl, nl, e, rr⟩ := r
    exact ⟨.tup a, rfl, fun μ' H' w' kp => ⟨vs, SqT.of (kp.keep a _ e nl).1, Reps.mono kp.keep _ _ rr⟩⟩
  | scr ns =>
    cases (show ds = ns.map D.int from z)
    obtain ⟨a, rfl, hs⟩ := scr_sql r
    refine ⟨.lst a, rfl, fun μ' H' w' kp => ?_⟩
    have h' : Rep K (Live μ' w') H' (.scr ns) (.ref a) := Rep.mono kp.keep _ _ (show Rep K (Live μ w) H (.scr ns) (.ref a) from r)
    obtain ⟨a', ea, hs'⟩ := scr_sql h'
    cases ea
    exact ⟨_, hs', reps_ints⟩
  | txt l =>
    cases (show ds = l.map (fun c => D.txt [c]) from z)
    refine ⟨.str (SX.S l), r, fun μ' H' w' kp => ⟨l.map fun c => V.str ⟨#[c]⟩, ?_, reps_txt⟩⟩
    show _ = (SX.S l).cps.toList.map _
    simp [SX.S]
  | _ => exact z.elim
def zipD (a b : List D) : List XV := (a.zip b).map fun p => XV.d (.tup [p.1, p.2])
theorem dit_zip {K : PySem.W.Frag} {k1 k2 : ZK} {ds es : List D} {μ : Mem} {H : Hp} {w : IA} (z1 : ZHas K μ H w k1 ds) (z2 : ZHas K μ H w k2 es) : DIt K (Itz2 K k1 k2) (zipD ds es) (fun _ => True) μ H w := by
  intro μ' H' w' kp M _
  obtain ⟨xs, q1, r1⟩ := z1 μ' H' w' kp
  obtain ⟨ys, q2, r2⟩ := z2 μ' H' w' kp
  have l1 := r1.len
  have l2 := r2.len
  refine ⟨fun i x hx => ?_, ⟨xs, ys, q1, q2, ?_, ?_, ?_⟩⟩
  · unfold zipD at hx
    rw [List.getElem?_map] at hx
    obtain ⟨⟨d, e⟩, hp, rfl⟩ := Option.map_eq_some_iff.mp hx
    obtain ⟨hd, he⟩ := List.getElem?_zip_eq_some.mp hp
    obtain ⟨v, hv, rv⟩ := Reps.get r1 hd
    obtain ⟨u, hu, ru⟩ := Reps.get r2 he
    refine ⟨⟨xs, ys, q1, q2, (List.getElem?_eq_some_iff.mp hv).1, (List.getElem?_eq_some_iff.mp hu).1⟩, fun v' H'' y => ?_⟩
    obtain ⟨T, x', y', rfl, hT, rfl, f1, f2⟩ := y
    have e1 := f1 xs q1
    rw [hv] at e1
    cases e1
    have e2 := f2 ys q2
    rw [hu] at e2
    cases e2
    have up : ∀ a o, H' a = some o → upd H' T (.tup [v, u]) a = some o := fun a o e => by
      rw [upd_ne (fun z => by rw [z, hT] at e; cases e)]
      exact e
    have nT : ¬ Live μ' w' T := fun z => M.no_live hT z
    have kp2 : ∀ a o, H' a = some o → ¬ Live μ' w' a → upd H' T (.tup [v, u]) a = some o ∧ ¬ Live μ' w' a := fun a o e n => ⟨up a o e, n⟩
    exact ⟨up, ⟨T, [v, u], rfl, nT, upd_same, ⟨v, [u], rfl, Rep.mono kp2 _ _ rv, ⟨u, [], rfl, Rep.mono kp2 _ _ ru, rfl⟩⟩⟩⟩
  · unfold zipD; rw [List.length_map, List.length_zip]; omega
  · unfold zipD; rw [List.length_map, List.length_zip]; omega
  · unfold zipD; rw [List.length_map, List.length_zip]; omega
/-! ### pure walks -/
/-- the walk gives these items and changes nothing -/
def PWk (C : SC) (tg iter : Expr) (ρ : Env) (μ : Mem) (E : EPost) (items : List XV) : Prop := ∀ R : List XV → (Mem → Prop) → Mem → Prop, (∀ G : Mem → Prop, G μ → R items G μ) → WI C tg iter ρ μ E R
section
variable {C : SC} {E : EPost} {ρ : Env} {μ : Mem} {tg iter a b c e elt : Expr} {p pos tpos : Pos} {scope : Scope} {own : List (Str × Nat)} {t : Tg}
theorem pw_lst {ds : List DL.D} (h : PV C e ρ μ E (.d (.lst ds))) : PWk C tg e ρ μ E (ds.map XV.d) := fun R q => wi_lst (h _ ⟨ds, rfl, q _ trivial⟩)
theorem pw_cell {n : Nat} {xs : List XV} (h : PV C e ρ μ E (.l n)) (hm : μ[n]? = some (some (.lst xs))) : PWk C tg e ρ μ E xs := fun R q => wi_cell (h _ ⟨n, xs, rfl, hm, q _ hm⟩)
theorem pw_tup {ds : List DL.D} (h : PV C e ρ μ E (.d (.tup ds))) : PWk C tg e ρ μ E (ds.map XV.d) := fun R q => wi_tup (h _ ⟨ds, rfl, q _ trivial⟩)
theorem pw_scr {ns : List Int} (h : PV C e ρ μ E (.d (.scr ns))) : PWk C tg e ρ μ E (ns.map fun i => XV.d (.int i)) := fun R q => wi_scr (h _ ⟨ns, rfl, q _ trivial⟩)
theorem pw_txt {l : List Nat} (h : PV C e ρ μ E (.d (.txt l))) : PWk C tg e ρ μ E (l.map fun c => XV.d (.txt [c])) := fun R q => wi_txt (h _ ⟨l, rfl, q _ trivial⟩)
theorem pw_rng1 {j : Int} (hr : C.mg "range" = none) (hg : C.Glob "range") (h : PV C a ρ μ E (.d (.int j))) (h1 : -(2 ^ 62) ≤ j) (h2 : j < 2 ^ 62) (hs : ∀ env, starEach [a] env = [(false, eval a env)] := by intro _; rfl) : PWk C tg (.Call (.Name "range" p) [a] [] pos) ρ μ E (rng 0 j.toNat) :=
  fun R q => wi_range1 hg hr (h _ ⟨j, rfl, h1, h2, q _ trivial⟩) hs
theorem pw_rng2 {i j : Int} (hr : C.mg "range" = none) (hg : C.Glob "range") (ha : PV C a ρ μ E (.d (.int i))) (hb : PV C b ρ μ E (.d (.int j))) (hz : -(2 ^ 62) ≤ i ∧ i < 2 ^ 62 ∧ -(2 ^ 62) ≤ j ∧ j < 2 ^ 62)
    (hs : ∀ env, starEach [a, b] env = [(false, eval a env), (false, eval b env)] := by intro _; rfl) (hs2 : ∀ env, starEach [b] env = [(false, eval b env)] := by intro _; rfl) : PWk C tg (.Call (.Name "range" p) [a, b] [] pos) ρ μ E (rng i (j - i).toNat) :=
  fun R q => wi_range2 hg hr (ha _ (hb _ ⟨i, j, rfl, rfl, hz, q _ trivial⟩)) hs hs2
/-- zip(a, b), the pair unpacked -/
theorem wi_zip {elts : List Expr} {kk : Nat} {R : List XV → (Mem → Prop) → Mem → Prop} (hr : C.mg "zip" = none) (hg : C.Glob "zip") (h : WE C a ρ μ E fun x μ1 => WE C b ρ μ1 E fun y μ2 => ∃ u v ds es, x = .d u ∧ y = .d v ∧ Zi u ds ∧ Zi v es ∧ R (zipD ds es) (fun _ => True) μ2)
    (hs : ∀ env, starEach [a, b] env = (false, eval a env) :: starEach [b] env := by intro _; rfl) (hs2 : ∀ env, starEach [b] env = [(false, eval b env)] := by intro _; rfl) (hpl : ∀ env, (backTo pos (starEach [b] env)).any (·.1) = false := by intro _; rfl) :
    WI C (.Tuple elts kk tpos) (.Call (.Name "zip" p) [a, b] [] pos) ρ μ E R := fun X σ H w A =>
  ⟨_, pi_zip2 (by show X.env.scope.names.lookup _ = _; rw [A.has.sc]; exact hg) (by rw [A.has.mg]; exact hr) (pa_cons pe_tE (pa_cons pe_tE pa_nil (hs2 _)) (hs _)) (hs _) (hpl _), fun P k =>
    h.go A fun v H1 z μ1 w1 r1 A1 S1 h1 => h1.go A1 fun v2 H2 z2 μ2 w2 r2 A2 S2 ⟨x, y, ds, es, e1, e2, zx, zy, q⟩ => by
      subst e1 e2
      obtain ⟨k1, ek1, z1⟩ := zx.has (r1.stp S2)
      obtain ⟨k2, ek2, z2⟩ := zy.has r2
      obtain ⟨xs, q1, _⟩ := z1 _ _ _ ⟨fun a o e n => ⟨e, n⟩, fun n a e => e⟩
      obtain ⟨ys, q2, _⟩ := z2 _ _ _ ⟨fun a o e n => ⟨e, n⟩, fun n a e => e⟩
      subst ek1 ek2
      exact ⟨k1, k2, xs, ys, rfl, by rw [A.has.K]; exact q1, by rw [A.has.K]; exact q2, k _ _ _ _ _ _ A2 (S1.trans S2) (by rw [A.has.K]; exact dit_zip z1 z2) trivial q⟩⟩
theorem pw_zip {elts : List Expr} {kk : Nat} {u v : DL.D} {ds es : List DL.D} (hr : C.mg "zip" = none) (hg : C.Glob "zip") (ha : PV C a ρ μ E (.d u)) (hb : PV C b ρ μ E (.d v)) (zu : Zi u ds) (zv : Zi v es)
    (hs : ∀ env, starEach [a, b] env = (false, eval a env) :: starEach [b] env := by intro _; rfl) (hs2 : ∀ env, starEach [b] env = [(false, eval b env)] := by intro _; rfl) (hpl : ∀ env, (backTo pos (starEach [b] env)).any (·.1) = false := by intro _; rfl) :
    PWk C (.Tuple elts kk tpos) (.Call (.Name "zip" p) [a, b] [] pos) ρ μ E (zipD ds es) :=
  fun R q => wi_zip hr hg (ha _ (hb _ ⟨u, v, ds, es, rfl, rfl, zu, zv, q _ trivial⟩)) hs hs2 hpl
/-- [elt for tg in iter] -/
theorem p_lcW [Calm C] {items : List XV} {g : XV → DL.D} (ht : TgOk (C.blk scope) tg t) (nd : C.N.Nodup) (ok : BlkOk C.N C.sc scope own) (hsl : ∀ j ∈ t.slots, j ∈ own.map (·.2)) (hi : PWk C tg iter ρ μ E items) (hz : items.length ≤ sizeLine)
    (h : ∀ x ∈ items, ∃ ρ', t.put x (wipeE ρ (own.map (·.2))) ρ' ∧ PV (C.blk scope) elt ρ' μ noE (.d (g x))) (hs : ∀ env x, foldedSetIterable iter env x = pure x := by intro _ _; rfl) : PV C (.ListComp elt [⟨tg, iter, [], 0⟩] scope pos) ρ μ E (.d (.lst (items.map g))) := fun Q q =>
  we_lc ht nd ok hsl (hi _ fun G hG => (lc_map g hz hG (fun x hx => by obtain ⟨ρ', h1, h2⟩ := h x hx; exact ⟨ρ', h1, h2 _ ⟨rfl, rfl⟩⟩) q)) hs
/-- [elt for tg in iter if c] -/
theorem p_lcWf [Calm C] {items : List XV} {g : XV → DL.D} {f : XV → Bool} (ht : TgOk (C.blk scope) tg t) (nd : C.N.Nodup) (ok : BlkOk C.N C.sc scope own) (hsl : ∀ j ∈ t.slots, j ∈ own.map (·.2)) (hi : PWk C tg iter ρ μ E items) (hz : items.length ≤ sizeLine)
    (h : ∀ x ∈ items, ∃ ρ', t.put x (wipeE ρ (own.map (·.2))) ρ' ∧ PB (C.blk scope) c ρ' μ noE (f x) ∧ (f x = true → PV (C.blk scope) elt ρ' μ noE (.d (g x)))) (hs : ∀ env x, foldedSetIterable iter env x = pure x := by intro _ _; rfl) :
    PV C (.ListComp elt [⟨tg, iter, [c], 0⟩] scope pos) ρ μ E (.d (.lst ((items.filter f).map g))) := fun Q q =>
  we_lc ht nd ok hsl (hi _ fun G hG => (lc_filter g f hz hG (fun x hx => by obtain ⟨ρ', h1, h2, h3⟩ := h x hx; exact ⟨ρ', h1, h2 _ ⟨rfl, rfl⟩, fun hp => h3 hp _ ⟨rfl, rfl⟩⟩) q)) hs
end
end DL
set_option maxRecDepth 100000
set_option maxHeartbeats 2000000
namespace DL
open PySem L2 PySem.Spec
/-! ### [.. for .. for ..] -/
/-- any walk -/
def tI (X : Cx) (tg iter : Expr) : TI := fun σ H R => ∃ wi : TI, PI X tg iter wi ∧ wi σ H R
theorem pi_tI {X : Cx} {tg iter : Expr} : PI X tg iter (tI X tg iter) := ⟨fun pins s σ H R I ⟨wi, hp, hw⟩ => hp.run pins s σ H R I hw⟩
/-- what a turn of the inner walk asks -/
def LcIn (C : SC) (scope : Scope) (t1 : Tg) (ifs1 : List Expr) (elt : Expr) (vs1 : List Nat) (ρ' : Env) (acc : List D) (fin : List D → Mem → Prop) : List XV → (Mem → Prop) → Mem → Prop := fun items G μ1 =>
  ∃ P : Nat → List D → Mem → Prop, P 0 acc μ1 ∧ (∀ j acc μ', j ≤ items.length → P j acc μ' → G μ') ∧
    (∀ (j : Nat) y acc μ', items[j]? = some y → P j acc μ' → ∃ ρ2, t1.put y (wipeE ρ' vs1) ρ2 ∧ WIf (C.blk scope) ifs1 ρ2 μ' fun k μ4 => (k = true → acc.length < sizeLine ∧ WE (C.blk scope) elt ρ2 μ4 noE fun z μ5 => ∃ d, z = .d d ∧ P (j + 1) (acc ++ [d]) μ5) ∧ (k = false → P (j + 1) acc μ4)) ∧
    (∀ acc μ', P items.length acc μ' → fin acc μ')
/-- what the outer walk asks -/
def LcI2 (C : SC) (scope : Scope) (t t1 : Tg) (ifs ifs1 : List Expr) (tg1 iter1 elt : Expr) (vs vs1 : List Nat) (ρ : Env) (Q : XV → Mem → Prop) : List XV → (Mem → Prop) → Mem → Prop := fun items G μ1 =>
  ∃ P : Nat → List D → Mem → Prop, P 0 [] μ1 ∧ (∀ i acc μ', i ≤ items.length → P i acc μ' → G μ') ∧
    (∀ (i : Nat) x acc μ', items[i]? = some x → P i acc μ' → ∃ ρ', t.put x (wipeE ρ vs) ρ' ∧ WIf (C.blk scope) ifs ρ' μ' fun k μ2 => (k = true → WI (C.blk scope) tg1 iter1 ρ' μ2 noE (LcIn C scope t1 ifs1 elt vs1 ρ' acc (P (i + 1)))) ∧ (k = false → P (i + 1) acc μ2)) ∧
    (∀ acc μ', P items.length acc μ' → Q (.d (.lst acc)) μ')
section
variable {C : SC} {E : EPost} {ρ : Env} {μ : Mem} {Q : XV → Mem → Prop} {tg iter tg1 iter1 elt : Expr} {ifs ifs1 : List Expr} {pos : Pos}
theorem WIf.go {C : SC} {ρ : Env} {μ : Mem} {P : Bool → Mem → Prop} {X : Cx} {σ : L2.St} {H : Hp} {w : IA} {ifs : List Expr} (h : WIf C ifs ρ μ P) (A : At C X noE ρ μ σ H w) {R : Bool → Hp → Prop}
    (k : ∀ b H3 μ3 w3, MOk C.K μ3 H3 w3 → Stp μ H w μ3 H3 w3 → P b μ3 → R b H3) : tIfs X ifs σ H R := by
  match ifs, h with
  | [], h => exact k true H μ w A.M Stp.refl h
  | [c], h => exact WT.go h A fun b H3 μ3 w3 A3 S3 q => k b H3 μ3 w3 A3.M S3 q
  | _ :: _ :: _, h => exact h.elim
theorem lc2_read {σ : L2.St} {H : Hp} {w : IA} {X : Cx} {scope : Scope} {own : List (Str × Nat)} {t t1 : Tg} {wi : TI} {Qv : VK} (A : At C X E ρ μ σ H w) (hsl : ∀ j ∈ t.slots, j ∈ own.map (·.2))
    (hw : ∀ P : It → Hp → Prop, (∀ J H1 items G μ1 w1, At C X E ρ μ1 σ H1 w1 → Stp μ H w μ1 H1 w1 → DIt C.K J items G μ1 H1 w1 → G μ1 → LcI2 C scope t t1 ifs ifs1 tg1 iter1 elt (own.map (·.2)) t1.slots ρ Q items G μ1 → P J H1) → wi σ H P) (hq : ∀ {acc xs μ1 H1 w1 Dl μ' H' w'}, H1 Dl = none → MOk C.K μ1 H1 w1 → Stp μ H w μ1 H1 w1 → Acc C.K μ1 H1 w1 Dl μ' H' w' acc xs → Q (.d (.lst acc)) μ' → Qv (.ref Dl) H') :
    tLc2 wi (t.g X.K) (fun σ' H' R => ∀ s0 H0 A0 cl fp, tIfs (X.blk s0 H0 scope (compEnvC scope cl A0 X.env) fp) ifs σ' H' R) (fun σ' H' R => ∀ s0 H0 A0 cl fp, tI (X.blk s0 H0 scope (compEnvC scope cl A0 X.env) fp) tg1 iter1 σ' H' R) (t1.g X.K) (fun σ' H' R => ∀ s0 H0 A0 cl fp, tIfs (X.blk s0 H0 scope (compEnvC scope cl A0 X.env) fp) ifs1 σ' H' R) (fun σ' H' R => ∀ s0 H0 A0 cl fp, tE (X.blk s0 H0 scope (compEnvC scope cl A0 X.env) fp) elt σ' H' R) (own.map (·.2)) t1.slots σ H Qv := by
  refine hw _ fun J H1 items G μ1 w1 A1 S1 dit g0 ⟨P, p0, pG, pS, pD⟩ Dl hDl => ?_
  generalize hvs : own.map (·.2) = vs at *
  let Pv : Nat → Hp → Prop := fun i H' => ∃ acc xs μ' w', Acc C.K μ1 H1 w1 Dl μ' H' w' acc xs ∧ P i acc μ'
  refine ⟨fun i m H' => m = items.length - i ∧ i ≤ items.length ∧ Pv i H', ⟨items.length, by simp, Nat.zero_le _, [], [], μ1, _, Acc.start A1.M hDl, p0⟩, ?_⟩
  rintro i m H' ⟨rfl, hil, acc, xs, μ', w', B, p'⟩
  obtain ⟨dgo, dstop⟩ := dit μ' H' w' B.kp B.M (pG i acc μ' hil p')
  by_cases hlt : i < items.length
  · obtain ⟨x, hx⟩ : ∃ x, items[i]? = some x := ⟨items[i], List.getElem?_eq_getElem hlt⟩
    obtain ⟨go, yl⟩ := dgo i x hx
    refine .inr ⟨go, Pv (i + 1), fun H2 q => ⟨items.length - (i + 1), by omega, rfl, hlt, q⟩, fun v H2 y => ?_⟩
    obtain ⟨gr, rx⟩ := yl v H2 y
    have B2 : Acc C.K μ1 H1 w1 Dl μ' H2 w' acc xs := B.step (Stp.grow gr) (B.M.grow gr)
    obtain ⟨ρ', hput, hif⟩ := pS i x acc μ' hx p'
    have Rw : ROk C.K μ' H2 w' (wipeE ρ vs) (wipe σ vs) := (A1.R.kp B2.kp).wipe vs
    rw [A.has.K]
    refine Tg.go2 hput rx Rw fun σ3 R3 l3 e3 => ?_
    have wEq : wipe σ3 vs = wipe σ vs := by
      refine (wipe_eq (σ' := wipe σ vs) l3 fun k hk => e3 k fun hm => hk (hsl k hm)).trans (wipe_eq (wipe_length _ _) fun k hk => wipe_at hk)
    refine ⟨wEq, fun s0 H0 A0 cl fp => ?_⟩
    have AB : ∀ {s0 H0 A0 cl fp}, At (C.blk scope) (X.blk s0 H0 scope (compEnvC scope cl A0 X.env) fp) noE ρ' μ' σ3 H2 w' := fun {s0 H0 A0 cl fp} => ⟨blk_has A.has, B2.M, R3, takes_no⟩
    refine WIf.go hif AB fun b H3 μ3 w3 M3 S3 q => ?_
    have B3 := B2.step S3 M3
    cases b with
    | false => exact iteF ⟨acc, xs, μ3, w3, B3, q.2 rfl⟩
    | true =>
      refine iteT fun s0 H0 A0 cl fp => ?_
      have A3 : At (C.blk scope) (X.blk s0 H0 scope (compEnvC scope cl A0 X.env) fp) noE ρ' μ3 σ3 H3 w3 := AB.step S3 M3
      obtain ⟨wi1, hi1, hw1⟩ := q.1 rfl _ _ _ _ A3
      refine ⟨wi1, hi1, hw1 _ fun J1 H4 items1 G1 μ4 w4 A4 S4 dit1 g1 ⟨P1, p10, pG1, pS1, pD1⟩ => ?_⟩
      have B4 := B3.step S4 A4.M
      let Pv1 : Nat → Hp → Prop := fun j H' => ∃ acc xs μ' w', Acc C.K μ1 H1 w1 Dl μ' H' w' acc xs ∧ Kp μ4 H4 w4 μ' H' w' ∧ P1 j acc μ'
      refine ⟨fun j k H' => k = items1.length - j ∧ j ≤ items1.length ∧ Pv1 j H', ⟨items1.length, by simp, Nat.zero_le _, acc, xs, μ4, w4, B4, ⟨fun a o e n => ⟨e, n⟩, fun n a e => e⟩, p10⟩, ?_⟩
      rintro j k H5 ⟨rfl, hjl, acc5, xs5, μ5, w5, B5, kp5, p5⟩
      obtain ⟨dgo1, dstop1⟩ := dit1 μ5 H5 w5 kp5 B5.M (pG1 j acc5 μ5 hjl p5)
      by_cases hlt1 : j < items1.length
      · obtain ⟨y1, hy1⟩ : ∃ y1, items1[j]? = some y1 := ⟨items1[j], List.getElem?_eq_getElem hlt1⟩
        obtain ⟨go1, yl1⟩ := dgo1 j y1 hy1
        refine .inr ⟨go1, Pv1 (j + 1), fun H6 q6 => ⟨items1.length - (j + 1), by omega, rfl, hlt1, q6⟩, fun v1 H6 yy => ?_⟩
        obtain ⟨gr1, rx1⟩ := yl1 v1 H6 yy
        have S6 : Stp μ5 H5 w5 μ5 H6 w5 := Stp.grow gr1
        have B6 : Acc C.K μ1 H1 w1 Dl μ5 H6 w5 acc5 xs5 := B5.step S6 (B5.M.grow gr1)
        have kp6 : Kp μ4 H4 w4 μ5 H6 w5 := kp5.trans S6.kp
        obtain ⟨ρ2, hput1, hif1⟩ := pS1 j y1 acc5 μ5 hy1 p5
        have Rw1 : ROk C.K μ5 H6 w5 (wipeE ρ' t1.slots) (wipe σ3 t1.slots) := (A4.R.kp kp6).wipe _
        refine Tg.go2 hput1 rx1 Rw1 fun σ7 R7 l7 e7 => ?_
        have wEq1 : wipe σ7 t1.slots = wipe σ3 t1.slots := by
          refine (wipe_eq (σ' := wipe σ3 t1.slots) l7 fun k hk => e7 k hk).trans (wipe_eq (wipe_length _ _) fun k hk => wipe_at hk)
        refine ⟨wEq1, fun s0 H0 A0 cl fp => ?_⟩
        have A7 : ∀ {s0 H0 A0 cl fp}, At (C.blk scope) (X.blk s0 H0 scope (compEnvC scope cl A0 X.env) fp) noE ρ2 μ5 σ7 H6 w5 := fun {s0 H0 A0 cl fp} => ⟨blk_has A.has, B6.M, R7, takes_no⟩
        refine WIf.go hif1 A7 fun b1 H8 μ8 w8 M8 S8 q8 => ?_
        have B8 := B6.step S8 M8
        have kp8 := kp6.trans S8.kp
        cases b1 with
        | false => exact iteF ⟨acc5, xs5, μ8, w8, B8, kp8, q8.2 rfl⟩
        | true =>
          refine iteT fun s0 H0 A0 cl fp => ?_
          obtain ⟨hz, he⟩ := q8.1 rfl
          have A8 : At (C.blk scope) (X.blk s0 H0 scope (compEnvC scope cl A0 X.env) fp) noE ρ2 μ8 σ7 H8 w8 := A7.step S8 M8
          refine he.go A8 fun u H9 z μ9 w9 r9 A9 S9 ⟨d, ez, pd⟩ => ?_
          subst ez
          have B9 := B8.step S9 A9.M
          refine ⟨xs5, B9.D, by rw [B9.R.len]; exact hz, acc5 ++ [d], xs5 ++ [u], μ9, w9, B9.app hDl r9, (kp8.trans S9.kp).trans ?_, pd⟩
          have fDl9 : w9.F Dl := (B9.F Dl).mpr (.inr rfl)
          exact ⟨fun a o h nl => ⟨by rw [upd_ne (fun e => nl (by rw [e]; exact .inl fDl9))]; exact h, nl⟩, fun _ _ h => h⟩
      · have e : j = items1.length := by omega
        subst e
        exact .inl ⟨dstop1, acc5, xs5, μ5, w5, B5, pD1 acc5 μ5 p5⟩
  · have e : i = items.length := by omega
    subst e
    exact .inl ⟨dstop, hq hDl A1.M S1 B (pD acc μ' p')⟩
theorem we_lc2 [Calm C] {scope : Scope} {own : List (Str × Nat)} {t t1 : Tg} (ht : TgOk (C.blk scope) tg t) (ht1 : TgOk (C.blk scope) tg1 t1) (nd : C.N.Nodup) (ok : BlkOk C.N C.sc scope own) (hsl : ∀ j ∈ t.slots, j ∈ own.map (·.2)) (hsl1 : ∀ j ∈ t1.slots, j ∈ own.map (·.2))
    (h : WI C tg iter ρ μ E (LcI2 C scope t t1 ifs ifs1 tg1 iter1 elt (own.map (·.2)) t1.slots ρ Q)) (hs : ∀ env x, foldedSetIterable iter env x = pure x := by intro _ _; rfl) (hs1 : ∀ env x, foldedSetIterable iter1 env x = pure x := by intro _ _; rfl) :
    WE C (.ListComp elt [⟨tg, iter, ifs, 0⟩, ⟨tg1, iter1, ifs1, 0⟩] scope pos) ρ μ E Q := fun X σ H w A => by
  obtain ⟨wi, hi, hw⟩ := h X σ H w A
  exact tE_of (pe_lc2 (own := own) (vs1 := t1.slots) (g := t.g X.K) (g1 := t1.g X.K) (wi1 := fun σ' H' R => ∀ s0 H0 A0 cl fp, tI (X.blk s0 H0 scope (compEnvC scope cl A0 X.env) fp) tg1 iter1 σ' H' R)
    (tt := fun σ' H' R => ∀ s0 H0 A0 cl fp, tIfs (X.blk s0 H0 scope (compEnvC scope cl A0 X.env) fp) ifs σ' H' R) (tt1 := fun σ' H' R => ∀ s0 H0 A0 cl fp, tIfs (X.blk s0 H0 scope (compEnvC scope cl A0 X.env) fp) ifs1 σ' H' R) (te := fun σ' H' R => ∀ s0 H0 A0 cl fp, tE (X.blk s0 H0 scope (compEnvC scope cl A0 X.env) fp) elt σ' H' R)
    (A.has.calm Calm.h) (by rw [A.has.N]; exact nd) hi (by rw [A.has.N, A.has.sc]; exact ok) hsl1 (fun s0 H0 A0 cl fp => ht.pg (blk_has A.has)) (fun s0 H0 A0 cl fp => ⟨fun pins s σ' H' R I h => pts_tIfs.run pins s σ' H' R I (h s0 H0 A0 cl fp)⟩)
    (fun s0 H0 A0 cl fp => ⟨fun pins s σ' H' R I h => pi_tI.run pins s σ' H' R I (h s0 H0 A0 cl fp)⟩) (fun s0 H0 A0 cl fp => ht1.pg (blk_has A.has)) (fun s0 H0 A0 cl fp => ⟨fun pins s σ' H' R I h => pts_tIfs.run pins s σ' H' R I (h s0 H0 A0 cl fp)⟩)
    (fun s0 H0 A0 cl fp => ⟨fun pins s σ' H' R I h => h s0 H0 A0 cl fp pins s I⟩) (hs _) hs1) (lc2_read A hsl hw fun hDl M1 S1 B q => B.fin hDl M1 S1 q)
/-- name = [.. for .. for ..] on one line -/
theorem w1_setLc2 [Calm C] {D : DEnds} {scope : Scope} {own : List (Str × Nat)} {t t1 : Tg} {i : Nat} {y : Str} {py spos : Pos} (n : C.Nm i y) (hyl : C.sc.names.lookup y = some .local) (ht : TgOk (C.blk scope) tg t) (ht1 : TgOk (C.blk scope) tg1 t1) (ok : BlkOk C.N C.sc scope own) (hsl : ∀ j ∈ t.slots, j ∈ own.map (·.2)) (hsl1 : ∀ j ∈ t1.slots, j ∈ own.map (·.2))
    (h : WI C tg iter ρ μ E (LcI2 C scope t t1 ifs ifs1 tg1 iter1 elt (own.map (·.2)) t1.slots ρ fun z μ' => D.nx (ρ.set i (some z)) μ')) (hk : C.sc.kind = .function) (hl : (py.line == pos.line) = true) (ha : (scope.names.any fun (n, k) => n == y && (k == .local || k == .cell)) = false)
    (hs : ∀ env x, foldedSetIterable iter env x = pure x := by intro _ _; rfl) (hs1 : ∀ env x, foldedSetIterable iter1 env x = pure x := by intro _ _; rfl) : WS1 C (.Assign [.Name y py] (.ListComp elt [⟨tg, iter, ifs, 0⟩, ⟨tg1, iter1, ifs1, 0⟩] scope pos) spos) ρ μ E D := fun X σ H w A => by
  obtain ⟨wi, hi, hw⟩ := h X σ H w A
  refine tS1_of (ps_setLc2 (i := i) (own := own) (vs1 := t1.slots) (g := t.g X.K) (g1 := t1.g X.K) (wi1 := fun σ' H' R => ∀ s0 H0 A0 cl fp, tI (X.blk s0 H0 scope (compEnvC scope cl A0 X.env) fp) tg1 iter1 σ' H' R)
    (tt := fun σ' H' R => ∀ s0 H0 A0 cl fp, tIfs (X.blk s0 H0 scope (compEnvC scope cl A0 X.env) fp) ifs σ' H' R) (tt1 := fun σ' H' R => ∀ s0 H0 A0 cl fp, tIfs (X.blk s0 H0 scope (compEnvC scope cl A0 X.env) fp) ifs1 σ' H' R) (te := fun σ' H' R => ∀ s0 H0 A0 cl fp, tE (X.blk s0 H0 scope (compEnvC scope cl A0 X.env) fp) elt σ' H' R)
    (A.has.calm Calm.h) (by rw [A.has.N]; exact n.nd) (by rw [A.has.N]; exact n.at_) (by rw [A.has.sc]; exact hyl) (sw_true (by rw [A.has.sc]; exact hk) (by rw [A.has.sc]; exact hyl) hl ha) hi (by rw [A.has.N, A.has.sc]; exact ok) hsl1 (fun s0 H0 A0 cl fp => ht.pg (blk_has A.has)) (fun s0 H0 A0 cl fp => ⟨fun pins s σ' H' R I h => pts_tIfs.run pins s σ' H' R I (h s0 H0 A0 cl fp)⟩)
    (fun s0 H0 A0 cl fp => ⟨fun pins s σ' H' R I h => pi_tI.run pins s σ' H' R I (h s0 H0 A0 cl fp)⟩) (fun s0 H0 A0 cl fp => ht1.pg (blk_has A.has)) (fun s0 H0 A0 cl fp => ⟨fun pins s σ' H' R I h => pts_tIfs.run pins s σ' H' R I (h s0 H0 A0 cl fp)⟩)
    (fun s0 H0 A0 cl fp => ⟨fun pins s σ' H' R I h => h s0 H0 A0 cl fp pins s I⟩) (hs _) hs1) ?_
  exact lc2_read (Q := fun z μ' => D.nx (ρ.set i (some z)) μ') (Qv := fun v H' => gName i v σ H' (liftD C.K D μ H w).nx) A hsl hw fun hDl M1 S1 B q => by
    obtain ⟨z, μ', w', r, M, S, q⟩ := B.fin (Q := fun z μ' => D.nx (ρ.set i (some z)) μ') hDl M1 S1 q
    exact ⟨_, μ', w', (A.R.stp S).put r i, M, S, q⟩
/-- .. kept as a cell -/
theorem w1_setLc2C [Calm C] {D : DEnds} {scope : Scope} {own : List (Str × Nat)} {t t1 : Tg} {i : Nat} {y : Str} {py spos : Pos} (n : C.Nm i y) (hyl : C.sc.names.lookup y = some .local) (ht : TgOk (C.blk scope) tg t) (ht1 : TgOk (C.blk scope) tg1 t1) (ok : BlkOk C.N C.sc scope own) (hsl : ∀ j ∈ t.slots, j ∈ own.map (·.2)) (hsl1 : ∀ j ∈ t1.slots, j ∈ own.map (·.2))
    (h : WI C tg iter ρ μ E (LcI2 C scope t t1 ifs ifs1 tg1 iter1 elt (own.map (·.2)) t1.slots ρ fun z μ' => ∃ acc, z = .d (.lst acc) ∧ D.nx (ρ.set i (some (.l μ'.length))) (μ' ++ [some (.lst (acc.map XV.d))]))) (hk : C.sc.kind = .function) (hl : (py.line == pos.line) = true) (ha : (scope.names.any fun (n, k) => n == y && (k == .local || k == .cell)) = false)
    (hs : ∀ env x, foldedSetIterable iter env x = pure x := by intro _ _; rfl) (hs1 : ∀ env x, foldedSetIterable iter1 env x = pure x := by intro _ _; rfl) : WS1 C (.Assign [.Name y py] (.ListComp elt [⟨tg, iter, ifs, 0⟩, ⟨tg1, iter1, ifs1, 0⟩] scope pos) spos) ρ μ E D := fun X σ H w A => by
  obtain ⟨wi, hi, hw⟩ := h X σ H w A
  refine tS1_of (ps_setLc2 (i := i) (own := own) (vs1 := t1.slots) (g := t.g X.K) (g1 := t1.g X.K) (wi1 := fun σ' H' R => ∀ s0 H0 A0 cl fp, tI (X.blk s0 H0 scope (compEnvC scope cl A0 X.env) fp) tg1 iter1 σ' H' R)
    (tt := fun σ' H' R => ∀ s0 H0 A0 cl fp, tIfs (X.blk s0 H0 scope (compEnvC scope cl A0 X.env) fp) ifs σ' H' R) (tt1 := fun σ' H' R => ∀ s0 H0 A0 cl fp, tIfs (X.blk s0 H0 scope (compEnvC scope cl A0 X.env) fp) ifs1 σ' H' R) (te := fun σ' H' R => ∀ s0 H0 A0 cl fp, tE (X.blk s0 H0 scope (compEnvC scope cl A0 X.env) fp) elt σ' H' R)
    (A.has.calm Calm.h) (by rw [A.has.N]; exact n.nd) (by rw [A.has.N]; exact n.at_) (by rw [A.has.sc]; exact hyl) (sw_true (by rw [A.has.sc]; exact hk) (by rw [A.has.sc]; exact hyl) hl ha) hi (by rw [A.has.N, A.has.sc]; exact ok) hsl1 (fun s0 H0 A0 cl fp => ht.pg (blk_has A.has)) (fun s0 H0 A0 cl fp => ⟨fun pins s σ' H' R I h => pts_tIfs.run pins s σ' H' R I (h s0 H0 A0 cl fp)⟩)
    (fun s0 H0 A0 cl fp => ⟨fun pins s σ' H' R I h => pi_tI.run pins s σ' H' R I (h s0 H0 A0 cl fp)⟩) (fun s0 H0 A0 cl fp => ht1.pg (blk_has A.has)) (fun s0 H0 A0 cl fp => ⟨fun pins s σ' H' R I h => pts_tIfs.run pins s σ' H' R I (h s0 H0 A0 cl fp)⟩)
    (fun s0 H0 A0 cl fp => ⟨fun pins s σ' H' R I h => h s0 H0 A0 cl fp pins s I⟩) (hs _) hs1) ?_
  exact lc2_read (Q := fun z μ' => ∃ acc, z = .d (.lst acc) ∧ D.nx (ρ.set i (some (.l μ'.length))) (μ' ++ [some (.lst (acc.map XV.d))])) (Qv := fun v H' => gName i v σ H' (liftD C.K D μ H w).nx) A hsl hw fun hDl M1 S1 B q => by
    obtain ⟨_, ea, q⟩ := q
    cases ea
    obtain ⟨z, μ', w', r, M, S, q⟩ := B.finC (Q := fun z μ' => D.nx (ρ.set i (some z)) μ') hDl M1 S1 q
    exact ⟨_, μ', w', (A.R.stp S).put r i, M, S, q⟩
end
/-! ### pure -/
def PIf (C : SC) (ifs : List Expr) (ρ : Env) (μ : Mem) (b : Bool) : Prop := ∀ P : Bool → Mem → Prop, P b μ → WIf C ifs ρ μ P
section
variable {C : SC} {E : EPost} {ρ : Env} {μ : Mem} {tg iter tg1 iter1 elt c : Expr} {ifs ifs1 : List Expr} {pos : Pos}
theorem pif_nil : PIf C [] ρ μ true := fun P q => q
theorem pif_one {b : Bool} (h : PB C c ρ μ noE b) : PIf C [c] ρ μ b := fun P q => h _ q
theorem take_flat {α β : Type} {f : α → List β} {l : List α} {i : Nat} {x : α} (h : l[i]? = some x) : (l.take (i + 1)).flatMap f = (l.take i).flatMap f ++ f x := by
  rw [List.take_succ, h, List.flatMap_append]
  simp
theorem take_map {α β : Type} {f : α → β} {l : List α} {i : Nat} {x : α} (h : l[i]? = some x) : (l.take (i + 1)).map f = (l.take i).map f ++ [f x] := by
  rw [List.take_succ, h, List.map_append]
  rfl
theorem take_filter {α : Type} {f : α → Bool} {l : List α} {i : Nat} {x : α} (h : l[i]? = some x) : (l.take (i + 1)).filter f = (l.take i).filter f ++ if f x then [x] else [] := by
  rw [List.take_succ, h, List.filter_append]
  show _ ++ List.filter f [x] = _
  cases hf : f x <;> simp [List.filter, hf]
theorem take_len_le {α β : Type} {f : α → List β} {l : List α} {i : Nat} {x : α} (h : l[i]? = some x) : ((l.take i).flatMap f).length + (f x).length ≤ (l.flatMap f).length := by
  have h2 : l.flatMap f = (l.take (i + 1)).flatMap f ++ (l.drop (i + 1)).flatMap f := by rw [← List.flatMap_append, List.take_append_drop]
  rw [h2, take_flat h, List.length_append, List.length_append]
  omega
/-- [elt for tg in iter .. for tg1 in iter1 ..] -/
theorem wi_lc2 {scope : Scope} {own : List (Str × Nat)} {t t1 : Tg} {items : List XV} {ys : XV → List XV} {g : XV → XV → DL.D} {f : XV → Bool} {f1 : XV → XV → Bool} (hi : PWk C tg iter ρ μ E items) (hz : (items.flatMap fun x => if f x then ((ys x).filter (f1 x)).map (g x) else []).length ≤ sizeLine)
    (h : ∀ x ∈ items, ∃ ρ', t.put x (wipeE ρ (own.map (·.2))) ρ' ∧ PIf (C.blk scope) ifs ρ' μ (f x) ∧ (f x = true → PWk (C.blk scope) tg1 iter1 ρ' μ noE (ys x) ∧ ∀ y ∈ ys x, ∃ ρ2, t1.put y (wipeE ρ' t1.slots) ρ2 ∧ PIf (C.blk scope) ifs1 ρ2 μ (f1 x y) ∧ (f1 x y = true → PV (C.blk scope) elt ρ2 μ noE (.d (g x y))))) {Q : XV → Mem → Prop} (q : Q (.d (.lst (items.flatMap fun x => if f x then ((ys x).filter (f1 x)).map (g x) else []))) μ) : WI C tg iter ρ μ E (LcI2 C scope t t1 ifs ifs1 tg1 iter1 elt (own.map (·.2)) t1.slots ρ Q) := by
  generalize hF : (fun x => if f x then ((ys x).filter (f1 x)).map (g x) else []) = F at *
  refine hi _ fun G hG => ⟨fun i acc μ' => acc = (items.take i).flatMap F ∧ μ' = μ, ⟨by simp, rfl⟩, fun _ _ _ _ hp => by rw [hp.2]; exact hG, fun i x acc μ' hx hp => ?_, fun acc μ' hp => ?_⟩
  · obtain ⟨rfl, rfl⟩ := hp
    obtain ⟨ρ', h1, h2, h3⟩ := h x (List.mem_of_getElem? hx)
    refine ⟨ρ', h1, h2 _ ⟨fun hf => ?_, fun hf => ⟨?_, rfl⟩⟩⟩
    · obtain ⟨hw, hy⟩ := h3 hf
      have eF : F x = ((ys x).filter (f1 x)).map (g x) := by rw [← hF]; simp [hf]
      refine hw _ fun G1 hG1 => ⟨fun j acc μ9 => acc = (items.take i).flatMap F ++ (((ys x).take j).filter (f1 x)).map (g x) ∧ μ9 = μ', ⟨by simp, rfl⟩, fun _ _ _ _ hp => by rw [hp.2]; exact hG1, fun j y acc μ3 hyj hp => ?_, fun acc μ3 hp => ?_⟩
      · obtain ⟨rfl, rfl⟩ := hp
        obtain ⟨ρ2, k1, k2, k3⟩ := hy y (List.mem_of_getElem? hyj)
        refine ⟨ρ2, k1, k2 _ ⟨fun hf1 => ⟨?_, k3 hf1 _ ⟨g x y, rfl, ?_, rfl⟩⟩, fun hf1 => ⟨?_, rfl⟩⟩⟩
        · have b1 := take_len_le (f := F) hx
          have b2 : (((ys x).take (j + 1)).filter (f1 x)).length ≤ ((ys x).filter (f1 x)).length := by
            have e : ys x = (ys x).take (j + 1) ++ (ys x).drop (j + 1) := (List.take_append_drop _ _).symm
            have := congrArg (fun l => (l.filter (f1 x)).length) e
            simp only [List.filter_append, List.length_append] at this
            omega
          rw [take_filter hyj, if_pos hf1, List.length_append] at b2
          rw [eF, List.length_map] at b1
          rw [List.length_append, List.length_map]
          simp only [List.length_cons, List.length_nil] at b2
          omega
        · rw [take_filter hyj, if_pos hf1, List.map_append, List.append_assoc]
          rfl
        · rw [take_filter hyj, hf1]
          simp
      · obtain ⟨rfl, rfl⟩ := hp
        refine ⟨?_, rfl⟩
        rw [take_flat hx, eF, List.take_length]
    · rw [take_flat hx, ← hF]; simp [hf]
  · obtain ⟨rfl, rfl⟩ := hp
    rw [List.take_length]
    exact q
/-- [elt for tg in iter .. for tg1 in iter1 ..] -/
theorem p_lc2 [Calm C] {scope : Scope} {own : List (Str × Nat)} {t t1 : Tg} {items : List XV} {ys : XV → List XV} {g : XV → XV → DL.D} {f : XV → Bool} {f1 : XV → XV → Bool} (ht : TgOk (C.blk scope) tg t) (ht1 : TgOk (C.blk scope) tg1 t1) (nd : C.N.Nodup) (ok : BlkOk C.N C.sc scope own) (hsl : ∀ j ∈ t.slots, j ∈ own.map (·.2)) (hsl1 : ∀ j ∈ t1.slots, j ∈ own.map (·.2))
    (hi : PWk C tg iter ρ μ E items) (hz : (items.flatMap fun x => if f x then ((ys x).filter (f1 x)).map (g x) else []).length ≤ sizeLine)
    (h : ∀ x ∈ items, ∃ ρ', t.put x (wipeE ρ (own.map (·.2))) ρ' ∧ PIf (C.blk scope) ifs ρ' μ (f x) ∧ (f x = true → PWk (C.blk scope) tg1 iter1 ρ' μ noE (ys x) ∧ ∀ y ∈ ys x, ∃ ρ2, t1.put y (wipeE ρ' t1.slots) ρ2 ∧ PIf (C.blk scope) ifs1 ρ2 μ (f1 x y) ∧ (f1 x y = true → PV (C.blk scope) elt ρ2 μ noE (.d (g x y)))))
    (hs : ∀ env x, foldedSetIterable iter env x = pure x := by intro _ _; rfl) (hs1 : ∀ env x, foldedSetIterable iter1 env x = pure x := by intro _ _; rfl) :
    PV C (.ListComp elt [⟨tg, iter, ifs, 0⟩, ⟨tg1, iter1, ifs1, 0⟩] scope pos) ρ μ E (.d (.lst (items.flatMap fun x => if f x then ((ys x).filter (f1 x)).map (g x) else []))) := fun Q q =>
  we_lc2 ht ht1 nd ok hsl hsl1 (wi_lc2 hi hz h q) hs hs1
/-- name = [.. for .. for ..], pure -/
theorem w1_setLc2P [Calm C] {D : DEnds} {scope : Scope} {own : List (Str × Nat)} {t t1 : Tg} {items : List XV} {ys : XV → List XV} {g : XV → XV → DL.D} {f : XV → Bool} {f1 : XV → XV → Bool} {i : Nat} {y : Str} {py spos : Pos} (n : C.Nm i y) (hyl : C.sc.names.lookup y = some .local) (ht : TgOk (C.blk scope) tg t) (ht1 : TgOk (C.blk scope) tg1 t1) (ok : BlkOk C.N C.sc scope own) (hsl : ∀ j ∈ t.slots, j ∈ own.map (·.2)) (hsl1 : ∀ j ∈ t1.slots, j ∈ own.map (·.2))
    (hi : PWk C tg iter ρ μ E items) (hz : (items.flatMap fun x => if f x then ((ys x).filter (f1 x)).map (g x) else []).length ≤ sizeLine)
    (h : ∀ x ∈ items, ∃ ρ', t.put x (wipeE ρ (own.map (·.2))) ρ' ∧ PIf (C.blk scope) ifs ρ' μ (f x) ∧ (f x = true → PWk (C.blk scope) tg1 iter1 ρ' μ noE (ys x) ∧ ∀ y ∈ ys x, ∃ ρ2, t1.put y (wipeE ρ' t1.slots) ρ2 ∧ PIf (C.blk scope) ifs1 ρ2 μ (f1 x y) ∧ (f1 x y = true → PV (C.blk scope) elt ρ2 μ noE (.d (g x y)))))
    (q : D.nx (ρ.set i (some (.d (.lst (items.flatMap fun x => if f x then ((ys x).filter (f1 x)).map (g x) else []))))) μ) (hk : C.sc.kind = .function) (hl : (py.line == pos.line) = true) (ha : (scope.names.any fun (n, k) => n == y && (k == .local || k == .cell)) = false)
    (hs : ∀ env x, foldedSetIterable iter env x = pure x := by intro _ _; rfl) (hs1 : ∀ env x, foldedSetIterable iter1 env x = pure x := by intro _ _; rfl) : WS1 C (.Assign [.Name y py] (.ListComp elt [⟨tg, iter, ifs, 0⟩, ⟨tg1, iter1, ifs1, 0⟩] scope pos) spos) ρ μ E D :=
  w1_setLc2 n hyl ht ht1 ok hsl hsl1 (wi_lc2 hi hz h q) hk hl ha hs hs1
/-- name = [.. for .. if ..], pure -/
theorem w1_setLcP [Calm C] {c : Expr} {D : DEnds} {scope : Scope} {own : List (Str × Nat)} {t : Tg} {items : List XV} {g : XV → DL.D} {i : Nat} {y : Str} {py spos : Pos} (n : C.Nm i y) (hyl : C.sc.names.lookup y = some .local) (ht : TgOk (C.blk scope) tg t) (ok : BlkOk C.N C.sc scope own) (hsl : ∀ j ∈ t.slots, j ∈ own.map (·.2)) (hi : PWk C tg iter ρ μ E items) (hz : items.length ≤ sizeLine)
    (h : ∀ x ∈ items, ∃ ρ', t.put x (wipeE ρ (own.map (·.2))) ρ' ∧ PV (C.blk scope) elt ρ' μ noE (.d (g x))) (q : D.nx (ρ.set i (some (.d (.lst (items.map g))))) μ) (hk : C.sc.kind = .function) (hl : (py.line == pos.line) = true) (ha : (scope.names.any fun (n, k) => n == y && (k == .local || k == .cell)) = false)
    (hs : ∀ env x, foldedSetIterable iter env x = pure x := by intro _ _; rfl) : WS1 C (.Assign [.Name y py] (.ListComp elt [⟨tg, iter, [], 0⟩] scope pos) spos) ρ μ E D :=
  w1_setLc n hyl ht ok hsl (hi _ fun G hG => (lc_map g hz hG (fun x hx => by obtain ⟨ρ', h1, h2⟩ := h x hx; exact ⟨ρ', h1, h2 _ ⟨rfl, rfl⟩⟩) q)) hk hl ha hs
theorem w1_setLcPf [Calm C] {c : Expr} {D : DEnds} {scope : Scope} {own : List (Str × Nat)} {t : Tg} {items : List XV} {g : XV → DL.D} {f : XV → Bool} {i : Nat} {y : Str} {py spos : Pos} (n : C.Nm i y) (hyl : C.sc.names.lookup y = some .local) (ht : TgOk (C.blk scope) tg t) (ok : BlkOk C.N C.sc scope own) (hsl : ∀ j ∈ t.slots, j ∈ own.map (·.2)) (hi : PWk C tg iter ρ μ E items) (hz : items.length ≤ sizeLine)
    (h : ∀ x ∈ items, ∃ ρ', t.put x (wipeE ρ (own.map (·.2))) ρ' ∧ PB (C.blk scope) c ρ' μ noE (f x) ∧ (f x = true → PV (C.blk scope) elt ρ' μ noE (.d (g x)))) (q : D.nx (ρ.set i (some (.d (.lst ((items.filter f).map g))))) μ) (hk : C.sc.kind = .function) (hl : (py.line == pos.line) = true) (ha : (scope.names.any fun (n, k) => n == y && (k == .local || k == .cell)) = false)
    (hs : ∀ env x, foldedSetIterable iter env x = pure x := by intro _ _; rfl) : WS1 C (.Assign [.Name y py] (.ListComp elt [⟨tg, iter, [c], 0⟩] scope pos) spos) ρ μ E D :=
  w1_setLc n hyl ht ok hsl (hi _ fun G hG => (lc_filter g f hz hG (fun x hx => by obtain ⟨ρ', h1, h2, h3⟩ := h x hx; exact ⟨ρ', h1, h2 _ ⟨rfl, rfl⟩, fun hp => h3 hp _ ⟨rfl, rfl⟩⟩) q)) hk hl ha hs
end
end DL
set_option maxRecDepth 100000
set_option maxHeartbeats 2000000
namespace DL
open PySem L2 PySem.Spec PyProof.Rows PySem.W
/-! ### sorted(list) of data -/
def sortD (ds : List D) : List D := ds.mergeSort (dataLe false D.py)
/-- what can be sorted -/
structure SortOk (ds : List D) : Prop where
  plain : ∀ d ∈ ds, d.plain = true
  alike : AllAlike (ds.map D.py)
  srt : Sortable (ds.map D.py)
  depth : ∀ d ∈ ds, d.py.depth ≤ 8
theorem sort_pairs {α : Type} (le : D → D → Bool) (ps : List (α × D)) : (ps.mergeSort fun a b => le a.2 b.2).map (·.2) = (ps.map (·.2)).mergeSort le :=
  List.map_mergeSort fun a _ b _ => rfl
theorem Reps.zip {K : PySem.W.Frag} {L : Addr → Prop} {H : Hp} : ∀ {ds : List D} {vs : List V}, Reps K L H ds vs → ∀ p ∈ vs.zip ds, Rep K L H p.2 p.1
  | [], _, r => by cases (show _ = [] from r); intro p hp; cases hp
  | d :: ds, _, r => by
    obtain ⟨x, rr, rfl, h1, h2⟩ := r
    intro p hp
    rw [List.zip_cons_cons] at hp
    rcases List.mem_cons.mp hp with e | e
    · rw [e]; exact h1
    · exact Reps.zip h2 p e
theorem Reps.unzip {K : PySem.W.Frag} {L : Addr → Prop} {H : Hp} : ∀ {ps : List (V × D)}, (∀ p ∈ ps, Rep K L H p.2 p.1) → Reps K L H (ps.map (·.2)) (ps.map (·.1))
  | [], _ => rfl
  | p :: ps, h => ⟨p.1, ps.map (·.1), rfl, h p List.mem_cons_self, Reps.unzip fun q hq => h q (List.mem_cons_of_mem _ hq)⟩
theorem each_zip : ∀ {vs : List V} {us : List Value} {ds : List D}, Vals vs us → ds.length = vs.length → EachIs (fun u (b : V × D) => RelV b.1 u) us (vs.zip ds)
  | [], _, _, .nil, _ => .nil
  | v :: vs, u :: us, d :: ds, .cons r rr, hl => .cons r (each_zip rr (by simpa using hl))
  | v :: vs, u :: us, [], .cons r rr, hl => by cases hl
theorem each_vals : ∀ {ps : List (V × D)} {us : List Value}, EachIs (fun u (b : V × D) => RelV b.1 u) us ps → Vals (ps.map (·.1)) us
  | _, _, .nil => .nil
  | _, _, .cons h t => .cons h (each_vals t)
section
variable {X : Cx}
def rSorted (K : PySem.W.Frag) : List V → Hp → VK → Prop := fun xs H Q => ∃ (a : Addr) (vs : List V) (ds : List D) (L : Addr → Prop), xs = [.ref a] ∧ SqL K H a vs ∧ Reps K L H ds vs ∧ SortOk ds ∧
  ∀ (p : Addr) (vs' : List V), H p = none → Reps K L H (sortD ds) vs' → Q (.ref p) (upd H p (.lst vs'))
theorem cr_sorted (hu : X.A.units + 10 < cLine) : CallR X (.builtin "sorted") (rSorted X.K) := by
  intro pins s σ H xs us0 Q I r h
  obtain ⟨a, vs, ds, L, rfl, hs, hr, ok, q⟩ := h
  obtain rfl := Vals.ref1 r
  obtain ⟨its, rv, hl, hz⟩ := I.list hs
  have hlen : ds.length = vs.length := hr.len.symm
  have m2 : (vs.zip ds).map (·.2) = ds := by rw [List.map_snd_zip (by omega)]
  have mem2 : ∀ b ∈ vs.zip ds, b.2 ∈ ds := fun b hb => by rw [← m2]; exact List.mem_map.mpr ⟨b, hb, rfl⟩
  have enc2 : ∀ f : D → PyData, (vs.zip ds).map (fun b => f b.2) = ds.map f := fun f => by rw [← m2, List.map_map]; rw [m2]; rfl
  have bl : (vs.zip ds).length = vs.length := by rw [List.length_zip]; omega
  have ea := each_zip rv hlen
  have hp := Reps.zip hr
  have er : EachIs (fun u (b : V × D) => ∃ as, Reads s.heap u b.2.py as) its (vs.zip ds) := (each_mem ea).mono fun u b ⟨r1, hb⟩ => Dp.reads I _ _ _ (Rep.dp _ _ (ok.plain _ (mem2 b hb)) (hp b hb)) r1
  refine sorted_data (R := fun u (b : V × D) => RelV b.1 u) (enc := fun b : V × D => b.2.py) hl.isList ea er (by rw [enc2 D.py]; exact ok.alike) (by rw [enc2 D.py]; exact ok.srt) (by rw [bl]; exact hz) (fun b hb => by have := ok.depth _ (mem2 b hb); omega) fun out ho eo => ?_
  obtain ⟨ep, he'⟩ := sortedAll_at s.heap its out.toArray
  let ps := (vs.zip ds).mergeSort (dataLe false fun b : V × D => b.2.py)
  have pm := List.mergeSort_perm (vs.zip ds) (dataLe false fun b : V × D => b.2.py)
  have vo : Vals (ps.map (·.1)) out := each_vals eo
  have hlen2 : (ps.map (·.1)).length ≤ sizeLine := by rw [List.length_map, pm.length_eq, bl]; exact hz
  refine ⟨.ref _, upd H (s.heap.objs.size + 1) (.lst (ps.map (·.1))), I.laid (t' := s.toks) (fun _ _ => sortedAll_old) (Nat.le_succ _) ⟨hlen2, _, ep, vo, he'⟩, rfl, q _ _ (I.hok.fresh (Nat.le_succ _)) ?_⟩
  have e2 : ps.map (·.2) = sortD ds := by
    show ((vs.zip ds).mergeSort fun a b => dataLe false D.py a.2 b.2).map (·.2) = _
    rw [sort_pairs, m2]
    rfl
  rw [← e2]
  exact Reps.unzip fun p hp2 => hp p (pm.mem_iff.mp hp2)
end
/-- sorted(list, key=len), texts -/
def sortLen (ls : List (List Nat)) : List (List Nat) := ls.mergeSort fun a b => decide (a.length ≤ b.length)
theorem each_txts : ∀ {ls : List (List Nat)} {us : List Value}, Vals (ls.map fun l => V.str (SX.S l)) us → EachIs (fun u (l : List Nat) => ∃ t, u = Value.str (SX.S l) t) us ls
  | [], _, .nil => .nil
  | _ :: _, _ :: _, .cons r rr => .cons r (each_txts rr)
theorem txts_vals : ∀ {ls : List (List Nat)} {us : List Value}, EachIs (fun u (l : List Nat) => ∃ t, u = Value.str (SX.S l) t) us ls → Vals (ls.map fun l => V.str (SX.S l)) us
  | _, _, .nil => .nil
  | _, _, .cons r rr => .cons r (txts_vals rr)
section
variable {X : Cx} {e : Expr} {te : TE} {p p2 pos : Pos} {kpos : Pos}
def qSortLen (K : PySem.W.Frag) (Q : VK) : V → Hp → Prop := fun v H1 => ∃ (a : Addr) (ls : List (List Nat)), v = .ref a ∧ SqL K H1 a (ls.map fun l => V.str (SX.S l)) ∧ (∀ l ∈ ls, l.length ≤ sizeLine) ∧
  ∀ (p : Addr), H1 p = none → Q (.ref p) (upd H1 p (.lst ((sortLen ls).map fun l => V.str (SX.S l))))
def tSortLen (K : PySem.W.Frag) (te : TE) : TE := fun σ H Q => te σ H (qSortLen K Q)
theorem pe_sortLen (hu : X.A.units + 10 < cLine) (hg : Gl X "sorted") (hm : X.mg "sorted" = none) (hg2 : Gl X "len") (hm2 : X.mg "len" = none) (he : PE X e te)
    (hs : starEach [e] X.env = (false, eval e X.env) :: starEach [] X.env := by rfl) (hpl : (backTo pos (starEach [e] X.env)).any (·.1) = false := by rfl) :
    PE X (.Call (.Name "sorted" p) [e] [⟨some "key", .Name "len" p2, kpos⟩] pos) (tSortLen X.K te) := by
  refine ⟨fun pins s σ H Q I h => ?_⟩
  refine wpAny_Call_Name_kw (ld_blt (u := .builtin "sorted") I hg hm (by decide +kernel) ?_ (by decide) (by decide))
  refine PyProof.Rows.callWith_kw (thn ((pa_cons he pa_nil hs).run pos pins s σ H (fun vs H1 => match vs with | [v] => qSortLen X.K Q v H1 | _ => False) I h) fun us0 s1 ⟨vs, H1, I1, r1, q1⟩ => ?_) (by rw [hs]; rfl) hpl rfl rfl
  cases r1 with
  | nil => exact q1.elim
  | cons r rr => cases rr with
    | cons r2 rr2 => exact q1.elim
    | nil =>
      obtain ⟨a, ls, rfl, hl, hz, q⟩ := q1
      cases r
      show wpAny _ _ (evalAll [do let v ← eval (.Name "len" p2) X.env; standAt pos; pure v]) _ _ _
      refine wpAny_evalAll_cons (wpAny_bind (ld_blt (u := .builtin "len") I1 hg2 hm2 (by decide +kernel) (wpAny_bind (wpAny_standAt (wpAny_pure (wpAny_evalAll_nil ?_)))) (by decide) (by decide)))
      obtain ⟨its, rv, pl, hzz⟩ := I1.list hl
      have ea := each_txts rv
      have hn := line63
      rw [List.length_map] at hzz
      refine sorted_key_data (b := false) (R := fun u (l : List Nat) => ∃ t, u = Value.str (SX.S l) t) (fun l : List Nat => .int (l.length : Int)) pl.isList ea (.of fun b b' => rfl) (.others fun b => ⟨(fun z => nomatch z), fun xs z => nomatch z⟩) hzz (fun x _ => by
        show _ + 2 + 0 < _
        omega) (PyProof.Rows.ksk_s1 _ _) (fun x => PyProof.Rows.ksk_l1 _ _) (fun x => PyProof.Rows.ksk_t4 _ _) (fun v l hv hlm h tk kp => ?_) fun out c h' tk kp n0 hp ho eo => ?_
      · obtain ⟨t, rfl⟩ := hv
        have hlz := hz l hlm
        have hsl : (SX.S l).length = l.length := by simp [SX.S, Str.length]
        refine len_str (by rw [hsl]; omega) ⟨h, tk + 1 + 1, rfl, fun b o e => e, ?_⟩
        rw [hsl]
        exact .int _ _
      · have el : (ls.mergeSort (dataLe false fun l : List Nat => PyData.int (l.length : Int))) = sortLen ls := by
          rw [dataLe_int]
          unfold sortLen
          congr 1
          funext a b
          exact decide_eq_decide.mpr Int.ofNat_le
        rw [el] at eo
        have hlen : ((sortLen ls).map fun l => V.str (SX.S l)).length ≤ sizeLine := by
          rw [List.length_map]
          unfold sortLen
          rw [List.length_mergeSort]
          exact hzz
        exact ⟨.ref _, upd H1 (s1.heap.objs.size + 1) (.lst ((sortLen ls).map fun l => V.str (SX.S l))), I1.laid (t' := tk) kp (Nat.le_succ _) ⟨hlen, out, c, txts_vals eo, hp⟩, rfl, q _ (I1.hok.fresh (Nat.le_succ _))⟩
end
/-! ### in a def -/
/-- each once, rising -/
def riseT (ls : List (List Nat)) : List (List Nat) := (ls.eraseDups).mergeSort fun a b : List Nat => decide (a ≤ b)
theorem nodup_eraseDups {α : Type} [BEq α] [LawfulBEq α] : ∀ {n : Nat} {l : List α}, l.length ≤ n → l.eraseDups.Nodup
  | 0, [], _ => List.nodup_nil
  | 0, _ :: _, h => by simp at h
  | n + 1, [], _ => List.nodup_nil
  | n + 1, a :: l, h => by
    rw [List.eraseDups_cons]
    refine List.nodup_cons.mpr ⟨fun z => ?_, nodup_eraseDups (n := n) (Nat.le_trans (List.length_filter_le _ _) (by simpa using h))⟩
    have := List.mem_eraseDups.mp z
    simp at this
theorem riseT_lt (ls : List (List Nat)) : (riseT ls).Pairwise (· < ·) :=
  pair_lt sortedT ((List.mergeSort_perm _ _).nodup_iff.mpr (nodup_eraseDups (Nat.le_refl _)))
theorem riseT_mem {ls : List (List Nat)} {l : List Nat} : l ∈ riseT ls ↔ l ∈ ls := by
  unfold riseT
  rw [(List.mergeSort_perm _ _).mem_iff, List.mem_eraseDups]
theorem rise_riseT {ls ms : List (List Nat)} (h : ms.Pairwise (· < ·)) (m : ∀ l, l ∈ ms ↔ l ∈ ls) : ms = riseT ls :=
  rise_uniq (lt := (· < ·)) (fun a b h1 h2 => List.lt_asymm h1 h2) h (riseT_lt ls) fun l => (m l).trans riseT_mem.symm
section
variable {C : SC} {E : EPost} {ρ : Env} {μ : Mem} {e : Expr} {Q : XV → Mem → Prop} {p p2 p3 pos pos2 : Pos} {kpos : Pos}
/-- sorted(x), x a list of data -/
theorem we_sorted (B : C.mg "sorted" = none) (g1 : C.Glob "sorted") (h : WE C e ρ μ E fun x μ1 => ∃ ds, x = .d (.lst ds) ∧ SortOk ds ∧ Q (.d (.lst (sortD ds))) μ1)
    (he : ∀ env, starEach [e] env = (false, eval e env) :: starEach [] env := by intro _; rfl) : WE C (.Call (.Name "sorted" p) [e] [] pos) ρ μ E Q := fun X σ H w A => by
  have hg : ∀ x, C.Glob x → Gl X x := fun x hx => by show X.env.scope.names.lookup x = _; rw [A.has.sc]; exact hx
  have hm : ∀ x, C.mg x = none → X.mg x = none := fun x hx => by rw [A.has.mg]; exact hx
  refine tE_of (pe_callB (cr_sorted (room_u A.has)) (hg _ g1) (hm _ B) (by decide +kernel) (pa_cons pe_tE pa_nil (he _)) (by decide) (by decide) (he _) rfl) ?_
  refine h.go A fun v H1 x μ1 w1 r1 A1 S1 ⟨ds, ex, ok, q⟩ => ?_
  subst ex
  obtain ⟨a, xs, rfl, nl, e1, rr⟩ := r1
  refine ⟨a, xs, ds, Live μ1 w1, rfl, SqL.of e1, by rw [A.has.K]; exact rr, ok, fun p vs' hp r' => ?_⟩
  refine lift.from S1 (lift.new A1.M hp (x := .lst (sortD ds)) (fun nl => ⟨p, vs', rfl, nl, upd_same, ?_⟩) q)
  rw [A.has.K] at r'
  exact Reps.mono (fun a u e nl => ⟨upd_grow hp a u e, nl⟩) _ _ r'
theorem reps_txts_eq {K : PySem.W.Frag} {L : Addr → Prop} {H : Hp} : ∀ {ls : List (List Nat)} {xs : List V}, Reps K L H (ls.map D.txt) xs → xs = ls.map fun l => V.str (SX.S l)
  | [], _, r => r
  | l :: ls, _, r => by
    obtain ⟨x, rr, rfl, h1, h2⟩ := r
    rw [show x = V.str (SX.S l) from h1, reps_txts_eq h2]
    rfl
theorem reps_of_txtsV {K : PySem.W.Frag} {L : Addr → Prop} {H : Hp} : ∀ {ls : List (List Nat)}, Reps K L H (ls.map D.txt) (ls.map fun l => V.str (SX.S l))
  | [] => rfl
  | l :: ls => ⟨_, _, rfl, rfl, reps_of_txtsV⟩
/-- sorted(x, key=len), x a list of texts -/
theorem we_sortLen (B : Blts C.mg) (g1 : C.Glob "sorted") (g2 : C.Glob "len") (h : WE C e ρ μ E fun x μ1 => ∃ ls : List (List Nat), x = .d (.lst (ls.map D.txt)) ∧ (∀ l ∈ ls, l.length ≤ sizeLine) ∧ Q (.d (.lst ((sortLen ls).map D.txt))) μ1)
    (he : ∀ env, starEach [e] env = (false, eval e env) :: starEach [] env := by intro _; rfl) (hpl : ∀ env, (backTo pos (starEach [e] env)).any (·.1) = false := by intro _; rfl) : WE C (.Call (.Name "sorted" p) [e] [⟨some "key", .Name "len" p2, kpos⟩] pos) ρ μ E Q := fun X σ H w A => by
  have hg : ∀ x, C.Glob x → Gl X x := fun x hx => by show X.env.scope.names.lookup x = _; rw [A.has.sc]; exact hx
  have hm : ∀ x, C.mg x = none → X.mg x = none := fun x hx => by rw [A.has.mg]; exact hx
  refine tE_of (pe_sortLen (room_u A.has) (hg _ g1) (hm _ B.sorted) (hg _ g2) (hm _ B.len) pe_tE (he _) (hpl _)) ?_
  refine h.go A fun v H1 x μ1 w1 r1 A1 S1 ⟨ls, ex, hz, q⟩ => ?_
  subst ex
  obtain ⟨a, xs, rfl, nl, e1, rr⟩ := r1
  rw [reps_txts_eq rr] at e1
  refine ⟨a, ls, rfl, SqL.of e1, hz, fun p hp => ?_⟩
  exact lift.from S1 (lift.new A1.M hp (x := .lst ((sortLen ls).map D.txt)) (fun nl => ⟨p, _, rfl, nl, upd_same, reps_of_txtsV⟩) q)
/-- sorted(set(x)), x a list of texts -/
theorem we_sortSetL [Calm C] (B : Blts C.mg) (g1 : C.Glob "sorted") (g2 : C.Glob "set") (h : WE C e ρ μ E fun x μ1 => ∃ ls : List (List Nat), x = .d (.lst (ls.map D.txt)) ∧ ls.length + 1 < scanBound ∧ Q (.d (.lst ((riseT ls).map D.txt))) μ1)
    (he : ∀ env, starEach [e] env = (false, eval e env) :: starEach [] env := by intro _; rfl) (he2 : ∀ env, starEach [Expr.Call (.Name "set" p2) [e] [] pos2] env = (false, eval (.Call (.Name "set" p2) [e] [] pos2) env) :: starEach [] env := by intro _; rfl) :
    WE C (.Call (.Name "sorted" p) [.Call (.Name "set" p2) [e] [] pos2] [] pos) ρ μ E Q := fun X σ H w A => by
  have hg : ∀ x, C.Glob x → Gl X x := fun x hx => by show X.env.scope.names.lookup x = _; rw [A.has.sc]; exact hx
  have hm : ∀ x, C.mg x = none → X.mg x = none := fun x hx => by rw [A.has.mg]; exact hx
  refine tE_of (pe_callB (cr_sortS (A.has.calm Calm.h) (room_u A.has)) (hg _ g1) (hm _ B.sorted) (by decide +kernel) (pa_cons (pe_callTy (cr_setL (A.has.calm Calm.h)) (hg _ g2) (hm _ B.set) (by decide +kernel) (pa_cons pe_tE pa_nil (he _)) (by decide) (by decide) (he _) rfl) pa_nil (he2 _)) (by decide) (by decide) (he2 _) rfl) ?_
  refine h.go A fun v H1 x μ1 w1 r1 A1 S1 ⟨ls, ex, hz, q⟩ => ?_
  subst ex
  obtain ⟨a, xs, rfl, nl, e1, rr⟩ := r1
  rw [reps_txts_eq rr] at e1
  refine ⟨a, ls.map SX.S, rfl, SqL.of (by rw [List.map_map]; exact e1), by rw [List.length_map]; exact hz, fun p1 c hp1 hc => ?_⟩
  refine ⟨p1, ls, c, rfl, ?_, ?_, ?_⟩
  · rw [upd_same, List.map_map]
    rfl
  · rw [List.length_map] at hc
    have hs : scanBound ≤ sizeLine := by decide
    omega
  · intro ms hms hmem hlen p2 hp2
    have em := rise_riseT hms hmem
    subst em
    have hp2' : H1 p2 = none := by
      rcases Nat.decEq p2 p1 with n | n
      · rw [upd_ne n] at hp2; exact hp2
      · rw [n, upd_same] at hp2; cases hp2
    refine lift.from S1 ?_
    have kg : ∀ a u, H1 a = some u → upd H1 p1 (SetKO X.w p1 (memK ((ls.map SX.S).map Sum.inr)) c) a = some u := upd_grow hp1
    refine lift.from (Stp.grow (w := w1) (μ := μ1) kg) ?_
    refine lift.new (A1.M.grow kg) hp2 (x := .lst ((riseT ls).map D.txt)) (fun nl => ⟨p2, _, rfl, nl, upd_same, ?_⟩) q
    exact Reps.of_txts
/-! pure -/
theorem p_sorted {ds : List D} (B : C.mg "sorted" = none) (g1 : C.Glob "sorted") (h : PV C e ρ μ E (.d (.lst ds))) (ok : SortOk ds) (he : ∀ env, starEach [e] env = (false, eval e env) :: starEach [] env := by intro _; rfl) : PV C (.Call (.Name "sorted" p) [e] [] pos) ρ μ E (.d (.lst (sortD ds))) :=
  fun Q q => we_sorted B g1 (h _ ⟨ds, rfl, ok, q⟩) he
theorem p_sortLen {ls : List (List Nat)} (B : Blts C.mg) (g1 : C.Glob "sorted") (g2 : C.Glob "len") (h : PV C e ρ μ E (.d (.lst (ls.map D.txt)))) (hz : ∀ l ∈ ls, l.length ≤ sizeLine)
    (he : ∀ env, starEach [e] env = (false, eval e env) :: starEach [] env := by intro _; rfl) (hpl : ∀ env, (backTo pos (starEach [e] env)).any (·.1) = false := by intro _; rfl) : PV C (.Call (.Name "sorted" p) [e] [⟨some "key", .Name "len" p2, kpos⟩] pos) ρ μ E (.d (.lst ((sortLen ls).map D.txt))) :=
  fun Q q => we_sortLen B g1 g2 (h _ ⟨ls, rfl, hz, q⟩) he hpl
theorem p_sortSetL [Calm C] {ls : List (List Nat)} (B : Blts C.mg) (g1 : C.Glob "sorted") (g2 : C.Glob "set") (h : PV C e ρ μ E (.d (.lst (ls.map D.txt)))) (hz : ls.length + 1 < scanBound)
    (he : ∀ env, starEach [e] env = (false, eval e env) :: starEach [] env := by intro _; rfl) (he2 : ∀ env, starEach [Expr.Call (.Name "set" p2) [e] [] pos2] env = (false, eval (.Call (.Name "set" p2) [e] [] pos2) env) :: starEach [] env := by intro _; rfl) :
    PV C (.Call (.Name "sorted" p) [.Call (.Name "set" p2) [e] [] pos2] [] pos) ρ μ E (.d (.lst ((riseT ls).map D.txt))) :=
  fun Q q => we_sortSetL B g1 g2 (h _ ⟨ls, rfl, hz, q⟩) he he2
end
end DL
set_option maxRecDepth 100000
set_option maxHeartbeats 2000000
/-! DL26: dicts with keys ints and texts. -/
namespace DL
open PySem L2 PySem.Spec PyProof.Rows
/-! ### tables of pairs -/
section
variable {α β : Type}
def vz (ps : List (Key × α)) (k : Key) : Option α := (ps.find? fun p => decide (p.1 = k)).map (·.2)
def pz (ps : List (Key × α)) (k : Key) (x : α) : List (Key × α) := if (ps.any fun p => decide (p.1 = k)) = true then ps.map (fun p => if p.1 = k then (p.1, x) else p) else ps ++ [(k, x)]
def dz (ps : List (Key × α)) (k : Key) : List (Key × α) := ps.filter fun p => decide (p.1 ≠ k)
theorem vz_pos {p : Key × α} {r : List (Key × α)} {k : Key} (e : p.1 = k) : vz (p :: r) k = some p.2 := by simp [vz, List.find?_cons, e]
theorem vz_neg {p : Key × α} {r : List (Key × α)} {k : Key} (e : ¬ p.1 = k) : vz (p :: r) k = vz r k := by simp [vz, List.find?_cons, e]
theorem vz_map (f : α → β) (k : Key) : ∀ ps : List (Key × α), vz (ps.map fun p => (p.1, f p.2)) k = (vz ps k).map f
  | [] => rfl
  | p :: r => by
    rw [List.map_cons]
    by_cases e : p.1 = k
    · rw [vz_pos e, vz_pos (p := (p.1, f p.2)) e]; rfl
    · rw [vz_neg e, vz_neg (p := (p.1, f p.2)) e]; exact vz_map f k r
/-- two tables, key by key -/
abbrev PZ (R : α → β → Prop) : List (Key × α) → List (Key × β) → Prop := Paired fun p q => p.1 = q.1 ∧ R p.2 q.2
theorem PZ.of {R : α → β → Prop} : ∀ {ps : List (Key × α)} {qs : List (Key × β)}, qs.map (·.1) = ps.map (·.1) → Paired R (ps.map (·.2)) (qs.map (·.2)) → PZ R ps qs
  | [], [], _, _ => .nil
  | [], _ :: _, e, _ => by cases e
  | _ :: _, [], e, _ => by cases e
  | p :: ps, q :: qs, e, h => by
    rw [List.map_cons, List.map_cons] at e h
    injection e with e1 e2
    cases h with
    | cons h1 h2 => exact .cons ⟨e1.symm, h1⟩ (PZ.of e2 h2)
theorem PZ.fst {R : α → β → Prop} : ∀ {ps : List (Key × α)} {qs : List (Key × β)}, PZ R ps qs → qs.map (·.1) = ps.map (·.1)
  | _, _, .nil => rfl
  | _, _, .cons h t => by rw [List.map_cons, List.map_cons, h.1, PZ.fst t]
theorem PZ.snd {R : α → β → Prop} : ∀ {ps : List (Key × α)} {qs : List (Key × β)}, PZ R ps qs → Paired R (ps.map (·.2)) (qs.map (·.2))
  | _, _, .nil => .nil
  | _, _, .cons h t => .cons h.2 (PZ.snd t)
theorem PZ.mono {R R' : α → β → Prop} (f : ∀ x y, R x y → R' x y) : ∀ {ps : List (Key × α)} {qs : List (Key × β)}, PZ R ps qs → PZ R' ps qs
  | _, _, .nil => .nil
  | _, _, .cons h t => .cons ⟨h.1, f _ _ h.2⟩ (PZ.mono f t)
theorem PZ.val {R : α → V → Prop} (k : Key) : ∀ {ps : List (Key × α)} {qs : List (Key × V)}, PZ R ps qs → (∃ x v, vz ps k = some x ∧ valV qs k = some v ∧ R x v) ∨ (vz ps k = none ∧ valV qs k = none)
  | _, _, .nil => .inr ⟨rfl, rfl⟩
  | p :: ps, q :: qs, .cons h t => by
    by_cases e : p.1 = k
    · exact .inl ⟨p.2, q.2, vz_pos e, valV_pos (h.1 ▸ e), h.2⟩
    · rw [vz_neg e, valV_neg (fun z => e (h.1.trans z))]
      exact PZ.val k t
theorem PZ.any {R : α → V → Prop} (k : Key) : ∀ {ps : List (Key × α)} {qs : List (Key × V)}, PZ R ps qs → (ps.any fun p => decide (p.1 = k)) = qs.any fun q => decide (q.1 = k)
  | _, _, .nil => rfl
  | p :: ps, q :: qs, .cons h t => by rw [List.any_cons, List.any_cons, PZ.any k t, h.1]
theorem PZ.map_put {R : α → V → Prop} {k : Key} {x : α} {v : V} (r : R x v) : ∀ {ps : List (Key × α)} {qs : List (Key × V)}, PZ R ps qs → PZ R (ps.map fun p => if p.1 = k then (p.1, x) else p) (qs.map fun q => if q.1 = k then (q.1, v) else q)
  | _, _, .nil => .nil
  | p :: ps, q :: qs, .cons h t => by
    rw [List.map_cons, List.map_cons]
    refine .cons ?_ (PZ.map_put r t)
    by_cases e : p.1 = k
    · rw [if_pos e, if_pos (h.1 ▸ e)]; exact ⟨h.1, r⟩
    · rw [if_neg e, if_neg (fun z => e (h.1.trans z))]; exact h
theorem PZ.put {R : α → V → Prop} {k : Key} {x : α} {v : V} (r : R x v) {ps : List (Key × α)} {qs : List (Key × V)} (h : PZ R ps qs) : PZ R (pz ps k x) (putK qs k v) := by
  unfold pz putK
  rw [PZ.any k h]
  split
  · exact PZ.map_put r h
  · exact Paired.snoc (R := fun (p : Key × α) (q : Key × V) => p.1 = q.1 ∧ R p.2 q.2) ⟨rfl, r⟩ h
theorem PZ.drop {R : α → V → Prop} {k : Key} : ∀ {ps : List (Key × α)} {qs : List (Key × V)}, PZ R ps qs → PZ R (dz ps k) (dropK qs k)
  | _, _, .nil => .nil
  | p :: ps, q :: qs, .cons h t => by
    unfold dz dropK
    rw [List.filter_cons, List.filter_cons]
    by_cases e : p.1 = k
    · rw [if_neg (by simp [e]), if_neg (by simp [h.1 ▸ e])]; exact PZ.drop t
    · have e2 : ¬ q.1 = k := fun z => e (h.1.trans z)
      rw [if_pos (by simp [e]), if_pos (by simp [e2])]; exact .cons h (PZ.drop t)
theorem PZ.length {R : α → β → Prop} {ps : List (Key × α)} {qs : List (Key × β)} (h : PZ R ps qs) : ps.length = qs.length := Paired.length h
theorem length_pz (ps : List (Key × α)) (k : Key) (x : α) : (pz ps k x).length ≤ ps.length + 1 := by
  unfold pz
  split
  · rw [List.length_map]; omega
  · rw [List.length_append]; simp
end
/-- a dict of data; a cell that is one -/
def D.dc (ps : List (Key × DL.D)) : DL.D := .dct (ps.map (·.1)) (ps.map (·.2))
def MO.dc (ps : List (Key × XV)) : MO := .dct (ps.map (·.1)) (ps.map (·.2))
def keyD : Key → DL.D
  | .inl i => .int i
  | .inr s => .txt s.cps.toList
theorem keyD_rep {K : PySem.W.Frag} {L : Addr → Prop} {H : Hp} {k : Key} {v : V} (r : Rep K L H (keyD k) v) : v = kV k := by
  cases k with
  | inl i => exact r
  | inr s => rw [show v = V.str (SX.S s.cps.toList) from r]; rfl
theorem rep_keyD {K : PySem.W.Frag} {L : Addr → Prop} {H : Hp} (k : Key) : Rep K L H (keyD k) (kV k) := by
  cases k with
  | inl i => rfl
  | inr s => show V.str s = V.str (SX.S s.cps.toList); rfl
section
variable {K : PySem.W.Frag} {μ : Mem} {H : Hp} {w : IA}
theorem dc_at {ps : List (Key × DL.D)} {v : V} (r : RepX K μ H w (.d (D.dc ps)) v) : ∃ a o kvs, v = .ref a ∧ ¬ Live μ w a ∧ H a = some (.frz o (.dK kvs)) ∧ PZ (Rep K (Live μ w) H) ps kvs := by
  obtain ⟨a, o, kvs, e, nl, ha, ek, rr⟩ := r
  refine ⟨a, o, kvs, e, nl, ha, PZ.of ek ?_⟩
  have : ∀ {ds : List DL.D} {vs : List V}, Reps K (Live μ w) H ds vs → Paired (Rep K (Live μ w) H) ds vs := fun {ds} => by
    induction ds with
    | nil => intro vs h; rw [show vs = [] from h]; exact .nil
    | cons d ds ih => intro vs h; obtain ⟨x, r, rfl, h1, h2⟩ := h; exact .cons h1 (ih h2)
  exact this rr
theorem reps_of_paired {L : Addr → Prop} : ∀ {ds : List DL.D} {vs : List V}, Paired (Rep K L H) ds vs → Reps K L H ds vs
  | _, _, .nil => rfl
  | _, _, .cons h t => ⟨_, _, rfl, h, reps_of_paired t⟩
theorem dc_of {ps : List (Key × DL.D)} {a : Addr} {o : Obj} {kvs : List (Key × V)} (nl : ¬ Live μ w a) (e : H a = some (.frz o (.dK kvs))) (h : PZ (Rep K (Live μ w) H) ps kvs) : RepX K μ H w (.d (D.dc ps)) (.ref a) :=
  ⟨a, o, kvs, rfl, nl, e, h.fst, reps_of_paired h.snd⟩
theorem cell_at {n : Nat} {ps : List (Key × XV)} {a : Addr} (M : MOk K μ H w) (hm : μ[n]? = some (some (MO.dc ps))) (ha : w.ι[n]? = some a) : ∃ kvs, H a = some (.dK kvs) ∧ PZ (RepX K μ H w) ps kvs := by
  obtain ⟨kvs, e, ek, rr⟩ := M.holds n _ a hm ha
  exact ⟨kvs, e, PZ.of ek rr⟩
theorem holds_dc {ps : List (Key × XV)} {a : Addr} {kvs : List (Key × V)} (e : H a = some (.dK kvs)) (h : PZ (RepX K μ H w) ps kvs) : Holds K μ H w (MO.dc ps) a := ⟨kvs, e, h.fst, h.snd⟩
end
/-! ### a cell dies and is data -/
section
variable {X : Cx} {e : Expr}
theorem tE_lock {σ : L2.St} {H : Hp} {Q Q' : VK} (h : tE X e σ H Q) (k : ∀ v H', Q v H' → ∃ d u, H' d = some u ∧ Mut (some u) ∧ ∀ od, Q' v (upd H' d (.frz od u))) : tE X e σ H Q' := fun pins s I =>
  thn (h pins s I) fun _ _ ⟨v, H', I', r, q⟩ => by
    obtain ⟨d, u, hd, mu, f⟩ := k v H' q
    obtain ⟨od, I2⟩ := I'.lock hd mu
    exact ⟨v, _, I2, r, f od⟩
end
theorem not_live_set {μ : Mem} {H : Hp} {w : IA} {K : PySem.W.Frag} {n : Nat} {m0 : MO} {a : Addr} (M : MOk K μ H w) (hn : μ[n]? = some (some m0)) (ha : w.ι[n]? = some a) : ¬ Live (μ.set n none) w a := by
  rintro (f | ⟨k, m, e1, e2⟩)
  · exact M.nF n m0 a hn ha f
  · by_cases hk : n = k
    · subst hk
      rw [List.getElem?_set_self (List.getElem?_eq_some_iff.mp hn).1] at e1
      cases e1
    · rw [List.getElem?_set_ne hk] at e1
      exact hk (M.inj n k m0 m a hn e1 ha e2)
section
variable {C : SC} {E : EPost} {ρ : Env} {μ : Mem} {e o i f : Expr} {Q : XV → Mem → Prop} {p pos apos cpos : Pos}
theorem xs_reps {K : PySem.W.Frag} {H : Hp} {w : IA} {n : Nat} {μ : Mem} {H' : Hp} (kp : ∀ b u, H b = some u → ¬ Live μ w b → H' b = some u ∧ ¬ Live (μ.set n none) w b) : ∀ {ds : List DL.D} {vs : List V}, RepXs K μ H w (ds.map XV.d) vs → Reps K (Live (μ.set n none) w) H' ds vs
  | [], _, .nil => rfl
  | d :: ds, _, .cons h t => ⟨_, _, rfl, Rep.mono kp _ _ h, xs_reps kp t⟩
/-- a list that was a cell is data from now on -/
theorem we_dieL (h : WE C e ρ μ E fun x μ1 => ∃ n ds, x = .l n ∧ μ1[n]? = some (some (.lst (ds.map XV.d))) ∧ Q (.d (.lst ds)) (μ1.set n none)) : WE C e ρ μ E Q := fun X σ H w A =>
  tE_mono (h X σ H w A) fun v H' ⟨x, μ1, w1, r, M, S, n, ds, ex, hm, q⟩ => by
    subst ex
    obtain ⟨a, ha, rfl⟩ := r
    obtain ⟨vs, e1, rx⟩ := M.holds n _ a hm ha
    have k : ∀ b o, b ≠ a → H' b = some o → H' b = some o := fun _ _ _ e => e
    have S2 : Stp μ1 H' w1 (μ1.set n none) H' w1 := Stp.set M hm ha k ⟨_, e1⟩
    exact ⟨.d (.lst ds), μ1.set n none, w1, ⟨a, vs, rfl, not_live_set M hm ha, e1, xs_reps S2.keep rx⟩, M.set hm ha k (fun m z => nomatch z) ⟨_, e1⟩, S.trans S2, q⟩
/-- .. a dict -/
theorem we_dieD (h : WE C e ρ μ E fun x μ1 => ∃ n ps, x = .l n ∧ μ1[n]? = some (some (MO.dc (ps.map fun p => (p.1, XV.d p.2)))) ∧ Q (.d (D.dc ps)) (μ1.set n none)) : WE C e ρ μ E Q := fun X σ H w A =>
  tE_lock (h X σ H w A) fun v H' ⟨x, μ1, w1, r, M, S, n, ps, ex, hm, q⟩ => by
    subst ex
    obtain ⟨a, ha, rfl⟩ := r
    obtain ⟨kvs, e1, ek, rx⟩ := M.holds n _ a hm ha
    refine ⟨a, .dK kvs, e1, trivial, fun od => ?_⟩
    have k : ∀ b o, b ≠ a → H' b = some o → upd H' a (.frz od (.dK kvs)) b = some o := fun b o hb e => by rw [upd_ne hb]; exact e
    have S2 : Stp μ1 H' w1 (μ1.set n none) (upd H' a (.frz od (.dK kvs))) w1 := Stp.set M hm ha k
    rw [List.map_map] at ek rx
    have rx : RepXs C.K μ1 H' w1 ((ps.map (·.2)).map XV.d) (kvs.map (·.2)) := by rw [List.map_map]; exact rx
    exact ⟨.d (D.dc ps), μ1.set n none, w1, ⟨a, od, kvs, rfl, not_live_set M hm ha, upd_same, ek, xs_reps S2.keep rx⟩, M.set hm ha k (fun m z => nomatch z), S.trans S2, q⟩
/-- {} -/
theorem we_dct0 (q : Q (.l μ.length) (μ ++ [some (MO.dc [])])) : WE C (.Dict [] [] pos) ρ μ E Q := fun X σ H w A =>
  tE_of pe_dnewK fun p hp => by
    have hP : (w.push p).ι[μ.length]? = some p := by
      show (w.ι ++ [p])[μ.length]? = some p
      rw [← A.M.len]
      exact List.getElem?_concat_length
    exact ⟨.l μ.length, μ ++ [some (MO.dc [])], w.push p, ⟨p, hP, rfl⟩, A.M.push hp (upd_grow hp) ⟨[], upd_same, rfl, .nil⟩, Stp.push A.M hp (upd_grow hp), q⟩
end
end DL
set_option maxRecDepth 100000
set_option maxHeartbeats 2000000
/-! DL27: dicts: [], in, []=, get, pop, clear, setdefault, len, list, dict. -/
namespace DL
open PySem L2 PySem.Spec PyProof.Rows
/-- x is a dict here, with these pairs -/
inductive DAt (μ : Mem) : XV → List (Key × XV) → Prop where
  | d (ps : List (Key × DL.D)) : DAt μ (.d (D.dc ps)) (ps.map fun p => (p.1, XV.d p.2))
  | l {n : Nat} {ps : List (Key × XV)} : μ[n]? = some (some (MO.dc ps)) → DAt μ (.l n) ps
section
variable {K : PySem.W.Frag} {μ : Mem} {H : Hp} {w : IA}
theorem PZ.toX {ps : List (Key × DL.D)} {kvs : List (Key × V)} (h : PZ (Rep K (Live μ w) H) ps kvs) : PZ (RepX K μ H w) (ps.map fun p => (p.1, XV.d p.2)) kvs := by
  induction ps generalizing kvs with
  | nil => cases h; exact .nil
  | cons p ps ih => cases h with
    | cons h t => exact .cons ⟨h.1, h.2⟩ (ih t)
theorem DAt.rd {x : XV} {ps : List (Key × XV)} (h : DAt μ x ps) {v : V} (r : RepX K μ H w x v) (M : MOk K μ H w) : ∃ a kvs, v = .ref a ∧ Rd H a (.dK kvs) ∧ PZ (RepX K μ H w) ps kvs := by
  cases h with
  | d ps =>
    obtain ⟨a, o, kvs, rfl, nl, e, z⟩ := dc_at r
    exact ⟨a, kvs, rfl, .inr ⟨o, e⟩, z.toX⟩
  | l hm =>
    obtain ⟨a, ha, rfl⟩ := r
    obtain ⟨kvs, e, z⟩ := cell_at M hm ha
    exact ⟨a, kvs, rfl, .inl e, z⟩
end
section
variable {X : Cx}
theorem cS_lock {f : Value} {xs : List V} {H : Hp} {Q Q' : VK} (h : cS X f xs H Q) (k : ∀ v H', Q v H' → ∃ d u, H' d = some u ∧ Mut (some u) ∧ ∀ od, Q' v (upd H' d (.frz od u))) : cS X f xs H Q' := fun pins s σ us I r =>
  thn (h pins s σ us I r) fun _ _ ⟨v, H', I', r, q⟩ => by
    obtain ⟨d, u, hd, mu, f⟩ := k v H' q
    obtain ⟨od, I2⟩ := I'.lock hd mu
    exact ⟨v, _, I2, r, f od⟩
def rDIn : R2 := fun y x H Q => ∃ a o, x = .ref a ∧ DGet H a y o ∧ Q (.bl o.isSome) H
def rDNotIn : R2 := fun y x H Q => ∃ a o, x = .ref a ∧ DGet H a y o ∧ Q (.bl (!o.isSome)) H
theorem op_din (hu : X.A.units + 1 < cLine) : OpR X (compareOp .In) rDIn := by
  intro pins s σ H y x iv u Q I ry rx h
  obtain ⟨a, ov, rfl, g, q⟩ := h
  obtain rfl : u = Value.ref a := rx
  exact d_in hu I g ry fun s3 I3 => ⟨.bl ov.isSome, H, I3, rfl, q⟩
theorem op_dnin (hu : X.A.units + 1 < cLine) : OpR X (compareOp .NotIn) rDNotIn := by
  intro pins s σ H y x iv u Q I ry rx h
  obtain ⟨a, ov, rfl, g, q⟩ := h
  obtain rfl : u = Value.ref a := rx
  exact d_notIn hu I g ry fun s3 I3 => ⟨.bl (!ov.isSome), H, I3, rfl, q⟩
theorem cr_lenD : CallR X (.builtin "len") (fun xs H Q => ∃ a kvs, xs = [V.ref a] ∧ Rd H a (.dK kvs) ∧ Q (.int kvs.length) H) := by
  intro pins s σ H xs us Q I r h
  obtain ⟨a, kvs, rfl, ha, q⟩ := h
  obtain ⟨u, rfl, ru⟩ := vals1 r
  cases ru
  exact d_len I ha fun t s' I' => ⟨.int kvs.length, H, I', ⟨t, rfl⟩, q⟩
end
section
variable {C : SC} {E : EPost} {ρ : Env} {μ : Mem} {e o i f value : Expr} {Q : XV → Mem → Prop} {p pos pos' apos cpos : Pos} {x : XV} {ps : List (Key × XV)} {k : Key}
theorem hu1 {X : Cx} (h : C.Has X) : X.A.units + 1 < cLine := by have := h.u64; omega
/-- d[k] -/
theorem we_dget (h : WE C o ρ μ E fun x μ1 => WE C i ρ μ1 E fun y μ2 => ∃ ps k z, DAt μ2 x ps ∧ y = .d (keyD k) ∧ vz ps k = some z ∧ Q z μ2) (hs : NoSl i := by exact fun _ _ => rfl) : WE C (.Subscript o i pos) ρ μ E Q := fun X σ H w A =>
  tE_of (pe_dget (hu1 A.has) pe_tE pe_tE hs) (h.go A fun v1 H1 x μ1 w1 r1 A1 S1 q1 => q1.go A1 fun v2 H2 y μ2 w2 r2 A2 S2 ⟨ps, k, z, da, ey, hz, q⟩ => by
    subst ey
    obtain ⟨a, kvs, rfl, rd, pz⟩ := da.rd (r1.stp S2) A2.M
    rcases pz.val k with ⟨x', v', e1, e2, r'⟩ | ⟨e1, _⟩
    · rw [hz] at e1
      cases e1
      exact ⟨a, v', rfl, .inl ⟨kvs, k, rd, keyD_rep r2, e2.symm⟩, z, μ2, w2, r', A2.M, S1.trans S2, q⟩
    · rw [hz] at e1; cases e1)
theorem go_in_dct (da : DAt μ x ps) (q : Q (.d (.bl (vz ps k).isSome)) μ) : Go2 C (compareOp .In) (.d (keyD k)) x μ Q := fun X hX H w vx vy M rx ry => by
  obtain ⟨a, kvs, rfl, rd, pz⟩ := da.rd ry M
  refine rS_of (op_din (hu1 hX)) ⟨a, valV kvs k, rfl, .inl ⟨kvs, k, rd, keyD_rep rx, rfl⟩, lift.now M (x := .d (.bl (vz ps k).isSome)) ?_ q⟩
  rcases pz.val k with ⟨x', v', e1, e2, r'⟩ | ⟨e1, e2⟩ <;> rw [e1, e2] <;> rfl
theorem go_nin_dct (da : DAt μ x ps) (q : Q (.d (.bl (!(vz ps k).isSome))) μ) : Go2 C (compareOp .NotIn) (.d (keyD k)) x μ Q := fun X hX H w vx vy M rx ry => by
  obtain ⟨a, kvs, rfl, rd, pz⟩ := da.rd ry M
  refine rS_of (op_dnin (hu1 hX)) ⟨a, valV kvs k, rfl, .inl ⟨kvs, k, rd, keyD_rep rx, rfl⟩, lift.now M (x := .d (.bl (!(vz ps k).isSome))) ?_ q⟩
  rcases pz.val k with ⟨x', v', e1, e2, r'⟩ | ⟨e1, e2⟩ <;> rw [e1, e2] <;> rfl
/-- a cell that is a dict is written -/
theorem lift.setD {K : PySem.W.Frag} {H : Hp} {w : IA} {n : Nat} {m0 : MO} {a : Addr} {ps : List (Key × XV)} {kvs : List (Key × V)} (M : MOk K μ H w) (hm : μ[n]? = some (some m0)) (ha : w.ι[n]? = some a) (r : PZ (RepX K μ H w) ps kvs) {y : XV} {v : V} (ry : RepX K μ H w y v)
    (q : Q y (μ.set n (some (MO.dc ps)))) : lift K Q μ H w v (upd H a (.dK kvs)) := by
  have k : ∀ b o, b ≠ a → H b = some o → upd H a (.dK kvs) b = some o := fun b o hb e => by rw [upd_ne hb]; exact e
  have S := Stp.set (mo := some (MO.dc ps)) M hm ha k
  exact ⟨y, _, w, ry.stp S, MOk.set M hm ha k fun m e => by cases e; exact ⟨kvs, upd_same, r.fst, RepXs.stp S r.snd⟩, S, q⟩
/-- d[k] = v -/
theorem w1_dput {D : DEnds} (h : WE C value ρ μ E fun z μ1 => WE C o ρ μ1 E fun x μ2 => WE C i ρ μ2 E fun y μ3 => ∃ n ps k, x = .l n ∧ y = .d (keyD k) ∧ μ3[n]? = some (some (MO.dc ps)) ∧ ps.length < sizeLine ∧ D.nx ρ (μ3.set n (some (MO.dc (pz ps k z)))))
    (hs : ∀ env, swapsWith value (some (.Subscript o i pos')) pos.line env = pure false := by intro _; rfl) : WS1 C (.Assign [.Subscript o i pos'] value pos) ρ μ E D := fun X σ H w A =>
  tS1_of (ps_dput (hu1 A.has) pe_tE pe_tE pe_tE (hs _)) (h.go A fun v1 H1 z μ1 w1 r1 A1 S1 q1 => q1.go A1 fun v2 H2 x μ2 w2 r2 A2 S2 q2 => q2.go A2 fun v3 H3 y μ3 w3 r3 A3 S3 ⟨n, ps, k, ex, ey, hm, hl, q⟩ => by
    subst ex ey
    obtain ⟨a, ha, rfl⟩ := r2.stp S3
    obtain ⟨kvs, e, zz⟩ := cell_at A3.M hm ha
    have rz : RepX C.K μ3 H3 w3 z v1 := (r1.stp S2).stp S3
    have kk : ∀ b o, b ≠ a → H3 b = some o → upd H3 a (.dK (putK kvs k v1)) b = some o := fun b o hb e => by rw [upd_ne hb]; exact e
    have S := Stp.set (mo := some (MO.dc (pz ps k z))) A3.M hm ha kk
    have zp := PZ.put rz zz (k := k)
    refine ⟨a, _, rfl, .inl ⟨kvs, k, e, keyD_rep r3, by rw [← zz.length]; exact hl, rfl⟩, ρ, _, w3, A3.R.stp S, MOk.set A3.M hm ha kk fun m e => by cases e; exact ⟨_, upd_same, zp.fst, RepXs.stp S zp.snd⟩, ((S1.trans S2).trans S3).trans S, q⟩)
theorem isD_of {H : Hp} {a : Addr} {kvs : List (Key × V)} (e : Rd H a (.dK kvs)) : IsD H a := .inl ⟨kvs, e⟩
/-- d.get(k, z) -/
theorem we_dget2 (h : WE C o ρ μ E fun x μ1 => (∃ ps, DAt μ1 x ps) ∧ WE C e ρ μ1 E fun y μ2 => WE C f ρ μ2 E fun z μ3 => ∃ ps k, DAt μ3 x ps ∧ y = .d (keyD k) ∧ Q ((vz ps k).getD z) μ3)
    (m : ∀ X : Cx, M2 X o "get" apos e f cpos := by exact fun _ => ⟨rfl, rfl, rfl, rfl⟩) : WE C (.Call (.Attribute o "get" apos) [e, f] [] cpos) ρ μ E Q := fun X σ H w A =>
  tE_of (pe_dget2 (hu1 A.has) pe_tE pe_tE pe_tE (m X)) (h.go A fun v1 H1 x μ1 w1 r1 A1 S1 ⟨⟨ps1, da1⟩, q1⟩ => by
    obtain ⟨a, kvs1, rfl, rd1, _⟩ := da1.rd r1 A1.M
    refine ⟨a, rfl, isD_of rd1, q1.go A1 fun v2 H2 y μ2 w2 r2 A2 S2 q2 => q2.go A2 fun v3 H3 z μ3 w3 r3 A3 S3 ⟨ps, k, da, ey, q⟩ => ?_⟩
    subst ey
    obtain ⟨a', kvs, ea, rd, pz⟩ := da.rd ((r1.stp S2).stp S3) A3.M
    cases ea
    refine ⟨valV kvs k, .inl ⟨kvs, k, rd, keyD_rep (r2.stp S3), rfl⟩, _, μ3, w3, ?_, A3.M, (S1.trans S2).trans S3, q⟩
    rcases pz.val k with ⟨x', v', e1, e2, r'⟩ | ⟨e1, e2⟩
    · rw [e1, e2]; exact r'
    · rw [e1, e2]; exact r3)
/-- d.get(k) -/
theorem we_dget1 (h : WE C o ρ μ E fun x μ1 => (∃ ps, DAt μ1 x ps) ∧ WE C e ρ μ1 E fun y μ2 => ∃ ps k, DAt μ2 x ps ∧ y = .d (keyD k) ∧ Q ((vz ps k).getD (.d .non)) μ2)
    (m : ∀ X : Cx, M1 X o "get" apos e cpos := by exact fun _ => ⟨rfl, rfl, rfl, rfl⟩) : WE C (.Call (.Attribute o "get" apos) [e] [] cpos) ρ μ E Q := fun X σ H w A =>
  tE_of (pe_dget1 (hu1 A.has) pe_tE pe_tE (m X)) (h.go A fun v1 H1 x μ1 w1 r1 A1 S1 ⟨⟨ps1, da1⟩, q1⟩ => by
    obtain ⟨a, kvs1, rfl, rd1, _⟩ := da1.rd r1 A1.M
    refine ⟨a, rfl, isD_of rd1, q1.go A1 fun v2 H2 y μ2 w2 r2 A2 S2 ⟨ps, k, da, ey, q⟩ => ?_⟩
    subst ey
    obtain ⟨a', kvs, ea, rd, pz⟩ := da.rd (r1.stp S2) A2.M
    cases ea
    refine ⟨valV kvs k, .inl ⟨kvs, k, rd, keyD_rep r2, rfl⟩, _, μ2, w2, ?_, A2.M, S1.trans S2, q⟩
    rcases pz.val k with ⟨x', v', e1, e2, r'⟩ | ⟨e1, e2⟩
    · rw [e1, e2]; exact r'
    · rw [e1, e2]; rfl)
/-- d.pop(k, z) -/
theorem we_dpop2 (h : WE C o ρ μ E fun x μ1 => (∃ ps, DAt μ1 x ps) ∧ WE C e ρ μ1 E fun y μ2 => WE C f ρ μ2 E fun z μ3 => ∃ n ps k, x = .l n ∧ μ3[n]? = some (some (MO.dc ps)) ∧ y = .d (keyD k) ∧ (∀ u, vz ps k = some u → Q u (μ3.set n (some (MO.dc (dz ps k))))) ∧ (vz ps k = none → Q z μ3))
    (m : ∀ X : Cx, M2 X o "pop" apos e f cpos := by exact fun _ => ⟨rfl, rfl, rfl, rfl⟩) : WE C (.Call (.Attribute o "pop" apos) [e, f] [] cpos) ρ μ E Q := fun X σ H w A =>
  tE_of (pe_dpop2 pe_tE pe_tE pe_tE (m X)) (h.go A fun v1 H1 x μ1 w1 r1 A1 S1 ⟨⟨ps1, da1⟩, q1⟩ => by
    obtain ⟨a, kvs1, rfl, rd1, _⟩ := da1.rd r1 A1.M
    refine ⟨a, rfl, isD_of rd1, q1.go A1 fun v2 H2 y μ2 w2 r2 A2 S2 q2 => q2.go A2 fun v3 H3 z μ3 w3 r3 A3 S3 ⟨n, ps, k, ex, hm, ey, q, q'⟩ => ?_⟩
    subst ex ey
    obtain ⟨a', ha, ea⟩ := (r1.stp S2).stp S3
    cases ea
    obtain ⟨kvs, e, zz⟩ := cell_at A3.M hm ha
    refine ⟨kvs, k, e, keyD_rep (r2.stp S3), fun v hv => ?_, fun hv => ?_⟩
    · rcases zz.val k with ⟨x', v', e1, e2, r'⟩ | ⟨e1, e2⟩
      · rw [hv] at e2
        cases e2
        exact lift.from ((S1.trans S2).trans S3) (lift.setD A3.M hm ha zz.drop r' (q _ e1))
      · rw [hv] at e2; cases e2
    · rcases zz.val k with ⟨x', v', e1, e2, r'⟩ | ⟨e1, e2⟩
      · rw [hv] at e2; cases e2
      · exact ⟨z, μ3, w3, r3, A3.M, (S1.trans S2).trans S3, q' e1⟩)
/-- d.setdefault(k, z) -/
theorem we_dsetd (h : WE C o ρ μ E fun x μ1 => (∃ ps, DAt μ1 x ps) ∧ WE C e ρ μ1 E fun y μ2 => WE C f ρ μ2 E fun z μ3 => ∃ n ps k, x = .l n ∧ μ3[n]? = some (some (MO.dc ps)) ∧ y = .d (keyD k) ∧ ps.length < sizeLine ∧ (∀ u, vz ps k = some u → Q u μ3) ∧ (vz ps k = none → Q z (μ3.set n (some (MO.dc (pz ps k z))))))
    (m : ∀ X : Cx, M2 X o "setdefault" apos e f cpos := by exact fun _ => ⟨rfl, rfl, rfl, rfl⟩) : WE C (.Call (.Attribute o "setdefault" apos) [e, f] [] cpos) ρ μ E Q := fun X σ H w A =>
  tE_of (pe_dsetd pe_tE pe_tE pe_tE (m X)) (h.go A fun v1 H1 x μ1 w1 r1 A1 S1 ⟨⟨ps1, da1⟩, q1⟩ => by
    obtain ⟨a, kvs1, rfl, rd1, _⟩ := da1.rd r1 A1.M
    refine ⟨a, rfl, isD_of rd1, q1.go A1 fun v2 H2 y μ2 w2 r2 A2 S2 q2 => q2.go A2 fun v3 H3 z μ3 w3 r3 A3 S3 ⟨n, ps, k, ex, hm, ey, hl, q, q'⟩ => ?_⟩
    subst ex ey
    obtain ⟨a', ha, ea⟩ := (r1.stp S2).stp S3
    cases ea
    obtain ⟨kvs, e, zz⟩ := cell_at A3.M hm ha
    refine ⟨kvs, k, e, keyD_rep (r2.stp S3), by rw [← zz.length]; exact hl, fun v hv => ?_, fun hv => ?_⟩
    · rcases zz.val k with ⟨x', v', e1, e2, r'⟩ | ⟨e1, e2⟩
      · rw [hv] at e2
        cases e2
        exact ⟨x', μ3, w3, r', A3.M, (S1.trans S2).trans S3, q _ e1⟩
      · rw [hv] at e2; cases e2
    · rcases zz.val k with ⟨x', v', e1, e2, r'⟩ | ⟨e1, e2⟩
      · rw [hv] at e2; cases e2
      · exact lift.from ((S1.trans S2).trans S3) (lift.setD A3.M hm ha (zz.put r3) r3 (q' e1)))
/-- d.clear() -/
theorem we_dclear (h : WE C o ρ μ E fun x μ1 => ∃ n ps, x = .l n ∧ μ1[n]? = some (some (MO.dc ps)) ∧ Q (.d .non) (μ1.set n (some (MO.dc []))))
    (hbase : ∀ env, attributeBase o "clear" env (eval o env) = eval o env := by intro _; rfl) (hline : (apos.endLine == cpos.line) = true := by rfl) : WE C (.Call (.Attribute o "clear" apos) [] [] cpos) ρ μ E Q := fun X σ H w A =>
  tE_of (pe_dclear pe_tE (hbase _) hline) (h.go A fun v1 H1 x μ1 w1 r1 A1 S1 ⟨n, ps, ex, hm, q⟩ => by
    subst ex
    obtain ⟨a, ha, rfl⟩ := r1
    obtain ⟨kvs, e, zz⟩ := cell_at A1.M hm ha
    exact ⟨.inr (.inr (.inl ⟨rfl, .inl ⟨kvs, e⟩⟩)), a, kvs, rfl, rfl, e, lift.from S1 (lift.setD (y := .d .non) A1.M hm ha .nil rfl q)⟩)
theorem gc_len_dct (da : DAt μ x ps) (q : Q (.d (.int (ps.length : Int))) μ) : GoC C (.builtin "len") [x] μ Q := fun X hX H w vs M rs => by
  obtain ⟨v, rfl, r⟩ := rs.one
  obtain ⟨a, kvs, rfl, rd, pz⟩ := da.rd r M
  exact cS_of cr_lenD ⟨a, kvs, rfl, rd, lift.now M (x := .d (.int _)) (by rw [pz.length]; rfl) q⟩
theorem reps_keys {K : PySem.W.Frag} {L : Addr → Prop} {H : Hp} : ∀ {ks : List Key}, Reps K L H (ks.map keyD) (ks.map kV)
  | [] => rfl
  | k :: ks => ⟨_, _, rfl, rep_keyD k, reps_keys⟩
/-- list(d) -/
theorem gc_list_dct [Calm C] (da : DAt μ x ps) (q : Q (.d (.lst (ps.map fun p => keyD p.1))) μ) : GoC C (.type "list") [x] μ Q := fun X hX H w vs M rs => by
  obtain ⟨v, rfl, r⟩ := rs.one
  obtain ⟨a, kvs, rfl, rd, pz⟩ := da.rd r M
  have e1 : (kvs.map fun kv => kV kv.1) = (ps.map (·.1)).map kV := by rw [← pz.fst, List.map_map]; rfl
  have e2 : (ps.map fun p => keyD p.1) = (ps.map (·.1)).map keyD := by rw [List.map_map]; rfl
  refine cS_of (call_listD (hX.calm Calm.h)) ⟨a, kvs, rfl, rd, fun l hl => ?_⟩
  rw [e1]
  exact lift.new M hl (x := .lst (ps.map fun p => keyD p.1)) (fun nl => ⟨l, _, rfl, nl, upd_same, by rw [e2]; exact reps_keys⟩) q
/-- a new dict, data from now on -/
theorem lift.newD {K : PySem.W.Frag} {H : Hp} {w : IA} (M : MOk K μ H w) {p : Addr} {od : Obj} {ps : List (Key × DL.D)} {kvs : List (Key × V)} (hp : H p = none) (z : PZ (Rep K (Live μ w) H) ps kvs) (q : Q (.d (D.dc ps)) μ) : lift K Q μ H w (.ref p) (upd (upd H p (.dK kvs)) p (.frz od (.dK kvs))) := by
  rw [upd_upd]
  refine lift.new M hp (x := D.dc ps) (fun nl => dc_of nl upd_same (z.mono fun x v r => Rep.mono (fun a u e nl => ⟨upd_grow hp a u e, nl⟩) _ _ r)) q
theorem PZ.ofX {K : PySem.W.Frag} {H : Hp} {w : IA} : ∀ {ps : List (Key × DL.D)} {kvs : List (Key × V)}, PZ (RepX K μ H w) (ps.map fun p => (p.1, XV.d p.2)) kvs → PZ (Rep K (Live μ w) H) ps kvs
  | [], _, .nil => .nil
  | p :: ps, _, .cons h t => .cons ⟨h.1, h.2⟩ (PZ.ofX t)
/-- dict(d): data; a cell -/
theorem gc_dict_dct {ps : List (Key × DL.D)} (da : DAt μ x (ps.map fun p => (p.1, XV.d p.2))) (q : Q (.d (D.dc ps)) μ) : GoC C (.type "dict") [x] μ Q := fun X hX H w vs M rs => by
  obtain ⟨v, rfl, r⟩ := rs.one
  obtain ⟨a, kvs, rfl, rd, pz⟩ := da.rd r M
  refine cS_lock (cS_of call_dictD (Q := fun v H' => ∃ p, H p = none ∧ v = .ref p ∧ H' = upd H p (.dK kvs)) ⟨a, kvs, rfl, rd, fun p hp => ⟨p, hp, rfl, rfl⟩⟩) fun v H' ⟨p, hp, ev, eh⟩ => ?_
  subst ev eh
  exact ⟨p, .dK kvs, upd_same, trivial, fun od => lift.newD M hp pz.ofX q⟩
theorem lift.cellD {K : PySem.W.Frag} {H : Hp} {w : IA} (M : MOk K μ H w) {p : Addr} {ps : List (Key × XV)} {kvs : List (Key × V)} (hp : H p = none) (r : PZ (RepX K μ H w) ps kvs) (q : Q (.l μ.length) (μ ++ [some (MO.dc ps)])) : lift K Q μ H w (.ref p) (upd H p (.dK kvs)) := by
  have S : Stp μ H w (μ ++ [some (MO.dc ps)]) (upd H p (.dK kvs)) (w.push p) := Stp.push M hp (upd_grow hp)
  refine ⟨.l μ.length, _, w.push p, ⟨p, ?_, rfl⟩, MOk.push (m := MO.dc ps) M hp (upd_grow hp) ⟨kvs, upd_same, r.fst, RepXs.stp S r.snd⟩, S, q⟩
  show (w.ι ++ [p])[μ.length]? = some p
  rw [← M.len, List.getElem?_append_right (Nat.le_refl _)]
  simp
theorem gc_dict_dctC (da : DAt μ x ps) (q : Q (.l μ.length) (μ ++ [some (MO.dc ps)])) : GoC C (.type "dict") [x] μ Q := fun X hX H w vs M rs => by
  obtain ⟨v, rfl, r⟩ := rs.one
  obtain ⟨a, kvs, rfl, rd, pz⟩ := da.rd r M
  exact cS_of call_dictD ⟨a, kvs, rfl, rd, fun p hp => lift.cellD M hp pz q⟩
/-- {} as data -/
theorem p_dct0 : PV C (.Dict [] [] pos) ρ μ E (.d (D.dc [])) := fun Q q X σ H w A =>
  tE_lock (tE_of pe_dnewK (Q := fun v H' => ∃ p, H p = none ∧ v = .ref p ∧ H' = upd H p (.dK [])) fun p hp => ⟨p, hp, rfl, rfl⟩) fun v H' ⟨p, hp, ev, eh⟩ => by
    subst ev eh
    exact ⟨p, .dK [], upd_same, trivial, fun od => lift.newD A.M hp .nil q⟩
end
end DL
set_option maxRecDepth 100000
set_option maxHeartbeats 2000000
/-! DL28: walks over dicts, sorted(d), list(d.values()), == of dicts. -/
namespace DL
open PySem L2 PySem.Spec PyProof.Rows PySem.W
section
variable {K : PySem.W.Frag} {μ : Mem} {H : Hp} {w : IA}
theorem PZ.get {α β : Type} {R : α → β → Prop} : ∀ {ps : List (Key × α)} {qs : List (Key × β)} {i : Nat} {p : Key × α}, PZ R ps qs → ps[i]? = some p → ∃ q, qs[i]? = some q ∧ p.1 = q.1 ∧ R p.2 q.2
  | p :: ps, q :: qs, 0, p', .cons h _, e => by cases e; exact ⟨q, rfl, h⟩
  | _ :: ps, _ :: qs, i + 1, p', .cons _ t, e => @PZ.get α β R ps qs i p' t (by simpa using e)
/-- what stays of a data dict -/
theorem dc_kp {ps : List (Key × DL.D)} {a : Addr} {o : Obj} {kvs : List (Key × V)} {μ' : Mem} {H' : Hp} {w' : IA} (kp : Kp μ H w μ' H' w') (nl : ¬ Live μ w a) (e : H a = some (.frz o (.dK kvs))) (z : PZ (Rep K (Live μ w) H) ps kvs) :
    H' a = some (.frz o (.dK kvs)) ∧ PZ (Rep K (Live μ' w') H') ps kvs := ⟨(kp.keep a _ e nl).1, z.mono fun x v r => Rep.mono kp.keep _ _ r⟩
theorem dit_keys {ps : List (Key × DL.D)} {a : Addr} {o : Obj} {kvs : List (Key × V)} (nl : ¬ Live μ w a) (e : H a = some (.frz o (.dK kvs))) (z : PZ (Rep K (Live μ w) H) ps kvs) : DIt K (Itk a o kvs) (ps.map fun p => XV.d (keyD p.1)) (fun _ => True) μ H w := by
  intro μ' H' w' kp M _
  obtain ⟨e', z'⟩ := dc_kp kp nl e z
  refine ⟨fun i x hx => ?_, ⟨e', by rw [List.length_map, z.length]; exact Nat.le_refl _⟩⟩
  rw [List.getElem?_map] at hx
  obtain ⟨p, hp, rfl⟩ := Option.map_eq_some_iff.mp hx
  obtain ⟨q, hq, e1, _⟩ := z'.get hp
  refine ⟨⟨e', (List.getElem?_eq_some_iff.mp hq).1⟩, fun v H'' y => ?_⟩
  obtain ⟨rfl, k, v', hk, rfl⟩ := y
  rw [hq] at hk
  cases hk
  exact ⟨fun _ _ h => h, by rw [e1]; exact rep_keyD _⟩
theorem dit_vals {ps : List (Key × DL.D)} {a : Addr} {o : Obj} {kvs : List (Key × V)} (nl : ¬ Live μ w a) (e : H a = some (.frz o (.dK kvs))) (z : PZ (Rep K (Live μ w) H) ps kvs) : DIt K (Itd a o kvs) (ps.map fun p => XV.d p.2) (fun _ => True) μ H w := by
  intro μ' H' w' kp M _
  obtain ⟨e', z'⟩ := dc_kp kp nl e z
  refine ⟨fun i x hx => ?_, ⟨e', by rw [List.length_map, z.length]; exact Nat.le_refl _⟩⟩
  rw [List.getElem?_map] at hx
  obtain ⟨p, hp, rfl⟩ := Option.map_eq_some_iff.mp hx
  obtain ⟨q, hq, e1, r1⟩ := z'.get hp
  refine ⟨⟨e', (List.getElem?_eq_some_iff.mp hq).1⟩, fun v H'' y => ?_⟩
  obtain ⟨rfl, k, hk⟩ := y
  rw [hq] at hk
  cases hk
  exact ⟨fun _ _ h => h, r1⟩
theorem dit_items {ps : List (Key × DL.D)} {a : Addr} {o : Obj} {kvs : List (Key × V)} (nl : ¬ Live μ w a) (e : H a = some (.frz o (.dK kvs))) (z : PZ (Rep K (Live μ w) H) ps kvs) : DIt K (Iti a o kvs) (ps.map fun p => XV.d (.tup [keyD p.1, p.2])) (fun _ => True) μ H w := by
  intro μ' H' w' kp M _
  obtain ⟨e', z'⟩ := dc_kp kp nl e z
  refine ⟨fun i x hx => ?_, ⟨e', by rw [List.length_map, z.length]; exact Nat.le_refl _⟩⟩
  rw [List.getElem?_map] at hx
  obtain ⟨p, hp, rfl⟩ := Option.map_eq_some_iff.mp hx
  obtain ⟨q, hq, e1, r1⟩ := z'.get hp
  refine ⟨⟨e', (List.getElem?_eq_some_iff.mp hq).1⟩, fun v H'' y => ?_⟩
  obtain ⟨T, k, v', hk, rfl, hT, rfl⟩ := y
  rw [hq] at hk
  cases hk
  have up : ∀ b u, H' b = some u → upd H' T (.tup [kV k, v']) b = some u := fun b u h => by
    rw [upd_ne (fun z => by rw [z, hT] at h; cases h)]
    exact h
  have nT : ¬ Live μ' w' T := fun z => M.no_live hT z
  exact ⟨up, ⟨T, [kV k, v'], rfl, nT, upd_same, ⟨_, _, rfl, by rw [e1]; exact rep_keyD _, ⟨_, _, rfl, Rep.mono (fun b u h n => ⟨up b u h, n⟩) _ _ r1, rfl⟩⟩⟩⟩
end
section
variable {C : SC} {E : EPost} {ρ : Env} {μ : Mem} {e tg : Expr} {Q : XV → Mem → Prop} {p pos apos cpos tpos : Pos} {R : List XV → (Mem → Prop) → Mem → Prop}
/-- for k in d -/
theorem wi_dctK (h : WE C e ρ μ E fun x μ1 => ∃ ps, x = .d (D.dc ps) ∧ R (ps.map fun p => XV.d (keyD p.1)) (fun _ => True) μ1) : WI C tg e ρ μ E R := fun X σ H w A =>
  ⟨_, pi_keys pe_tE, fun P k => h.go A fun v H1 x μ1 w1 r1 A1 S1 ⟨ps, ex, q⟩ => by
    subst ex
    obtain ⟨a, o, kvs, rfl, nl, e, z⟩ := dc_at r1
    exact ⟨a, o, rfl, .inl ⟨kvs, e, k _ _ _ _ _ _ A1 S1 (dit_keys nl e z) trivial q⟩⟩⟩
theorem wi_dctV (h : WE C e ρ μ E fun x μ1 => ∃ ps, x = .d (D.dc ps) ∧ R (ps.map fun p => XV.d p.2) (fun _ => True) μ1)
    (hbase : ∀ env, attributeBase e "values" env (eval e env) = eval e env := by intro _; rfl) (hline : (apos.endLine == cpos.line) = true := by rfl) : WI C tg (.Call (.Attribute e "values" apos) [] [] cpos) ρ μ E R := fun X σ H w A =>
  ⟨_, pi_values pe_tE (hbase _) hline, fun P k => h.go A fun v H1 x μ1 w1 r1 A1 S1 ⟨ps, ex, q⟩ => by
    subst ex
    obtain ⟨a, o, kvs, rfl, nl, e, z⟩ := dc_at r1
    exact ⟨a, o, kvs, rfl, e, k _ _ _ _ _ _ A1 S1 (dit_vals nl e z) trivial q⟩⟩
theorem wi_dctI {elts : List Expr} {kk : Nat} (h : WE C e ρ μ E fun x μ1 => ∃ ps, x = .d (D.dc ps) ∧ R (ps.map fun p => XV.d (.tup [keyD p.1, p.2])) (fun _ => True) μ1)
    (hbase : ∀ env, attributeBase e "items" env (eval e env) = eval e env := by intro _; rfl) (hline : (apos.endLine == cpos.line) = true := by rfl) : WI C (.Tuple elts kk tpos) (.Call (.Attribute e "items" apos) [] [] cpos) ρ μ E R := fun X σ H w A =>
  ⟨_, pi_items pe_tE (hbase _) hline, fun P k => h.go A fun v H1 x μ1 w1 r1 A1 S1 ⟨ps, ex, q⟩ => by
    subst ex
    obtain ⟨a, o, kvs, rfl, nl, e, z⟩ := dc_at r1
    exact ⟨a, o, kvs, rfl, e, k _ _ _ _ _ _ A1 S1 (dit_items nl e z) trivial q⟩⟩
theorem pw_dctK {ps : List (Key × DL.D)} (h : PV C e ρ μ E (.d (D.dc ps))) : PWk C tg e ρ μ E (ps.map fun p => XV.d (keyD p.1)) := fun R q => wi_dctK (h _ ⟨ps, rfl, q _ trivial⟩)
theorem pw_dctV {ps : List (Key × DL.D)} (h : PV C e ρ μ E (.d (D.dc ps))) (hbase : ∀ env, attributeBase e "values" env (eval e env) = eval e env := by intro _; rfl) (hline : (apos.endLine == cpos.line) = true := by rfl) : PWk C tg (.Call (.Attribute e "values" apos) [] [] cpos) ρ μ E (ps.map fun p => XV.d p.2) := fun R q => wi_dctV (h _ ⟨ps, rfl, q _ trivial⟩) hbase hline
theorem pw_dctI {ps : List (Key × DL.D)} {elts : List Expr} {kk : Nat} (h : PV C e ρ μ E (.d (D.dc ps))) (hbase : ∀ env, attributeBase e "items" env (eval e env) = eval e env := by intro _; rfl) (hline : (apos.endLine == cpos.line) = true := by rfl) : PWk C (.Tuple elts kk tpos) (.Call (.Attribute e "items" apos) [] [] cpos) ρ μ E (ps.map fun p => XV.d (.tup [keyD p.1, p.2])) := fun R q => wi_dctI (h _ ⟨ps, rfl, q _ trivial⟩) hbase hline
end
/-! ### sorted(d) -/
section
variable {X : Cx}
theorem each_keysI : ∀ {us : List Value} {ks : List Key}, us.length = ks.length → (∀ (i : Nat) (v : Value), us[i]? = some v → ∃ k, ks[i]? = some k ∧ keyIs k v = true) → EachIs (fun v k => keyIs k v = true) us ks
  | [], [], _, _ => .nil
  | u :: us, k :: ks, hl, h => by
    obtain ⟨k', e1, e2⟩ := h 0 u rfl
    cases (show some k = some k' from e1)
    exact .cons e2 (each_keysI (by simpa using hl) fun i v e => h (i + 1) v (by simpa using e))
  | [], _ :: _, hl, _ => by cases hl
  | _ :: _, [], hl, _ => by cases hl
theorem reads_key {h : Heap} {k : Key} {v : Value} (e : keyIs k v = true) : Reads h v (keyD k).py [] := by
  obtain ⟨i, u, rfl, rfl⟩ | ⟨x, u, rfl, rfl⟩ := keyIs_shape e
  · unfold keyD D.py; exact .int _ _
  · unfold keyD D.py; exact .str _ _
theorem vals_keys : ∀ {us : List Value} {ks : List Key}, EachIs (fun v k => keyIs k v = true) us ks → Vals (ks.map kV) us
  | _, _, .nil => .nil
  | _, _, .cons h t => .cons (relV_key h) (vals_keys t)
def rSortedD : List V → Hp → VK → Prop := fun xs H Q => ∃ (a : Addr) (kvs : List (Key × V)), xs = [.ref a] ∧ Rd H a (.dK kvs) ∧ AllAlike ((kvs.map (·.1)).map fun k => (keyD k).py) ∧
  ∀ p, H p = none → Q (.ref p) (upd H p (.lst (((kvs.map (·.1)).mergeSort (dataLe false fun k => (keyD k).py)).map kV)))
theorem cr_sortedD (hc : X.calm = true) (hu : X.A.units + 10 < cLine) : CallR X (.builtin "sorted") rSortedD := by
  intro pins s σ H xs us0 Q I r h
  obtain ⟨a, kvs, rfl, hd, hal, q⟩ := h
  rw [Vals.ref1 r]
  obtain ⟨z, lo, vs, rel, dd⟩ := dk_rd I.hok hd
  obtain ⟨ep, hat⟩ := dd.dictAt
  have hkeys : kvs.map (·.1) = vs.map (·.1) := rel.keys
  rw [hkeys] at q hal
  have hl : vs.length = kvs.length := rel.length.symm
  refine Calls.call_function_entry kind_sorted plain_sorted entry_sorted (args_sorted1 _) ?_
  unfold Builtin.«sorted»
  refine wpAny_bind (m := checkCount "sorted" 1 1 _) (wpAny_pure ?_)
  refine wpAny_bind (PySem.W.kdu_collect (A := X.A.in1) (PySem.W.kdl_dict (knd := mixKind X.prog X.w) (kvs := vs) (ep := ep) lo) (I.ok.hd hc) hat (by rw [hl]; exact z) fun h' tk acc hk hacc => ?_)
  have hal2 : acc.toList.length = (vs.map (·.1)).length := by rw [Array.length_toList, hacc.1, List.length_map]
  have hE : EachIs (fun v k => keyIs k v = true) acc.toList (vs.map (·.1)) := each_keysI hal2 fun i v e => by
    obtain ⟨k, x, e1, e2⟩ := hacc.2 i v (by rw [← Array.getElem?_toList]; exact e)
    exact ⟨k, by rw [List.getElem?_map, e1]; rfl, e2⟩
  have I1 : L2.Inv X pins σ H { s with heap := h', toks := tk } := I.kept hk
  refine wpAny_bind (wpAny_newList ?_ (by rw [hal2, List.length_map, hl]; exact z))
  have hoL : (h'.push (seqObj "list" acc.toList.toArray 0)).get? h'.objs.size = some (seqObj "list" acc.toList.toArray 0) := Heap.get?_push_size _ rfl
  show wpAny _ _ _ _ _ { s with heap := h'.push (seqObj "list" acc.toList.toArray 0), toks := tk }
  refine wpAny_bind (wpAny_holding (list_sort_data (s := { s with heap := h'.push (seqObj "list" acc.toList.toArray 0), toks := tk }) (enc := fun k => (keyD k).py) hoL hE (hE.mono fun v b q => ⟨[], reads_key q, by simp⟩) hal (.others fun b => by
    cases b with
    | inl i => unfold keyD D.py; exact ⟨(fun e => nomatch e), fun xs e => nomatch e⟩
    | inr x => unfold keyD D.py; exact ⟨(fun e => nomatch e), fun xs e => nomatch e⟩) (by rw [List.length_map, hl]; exact z) (fun b _ => by
    have : (keyD b).py.depth = 0 := by cases b <;> (unfold keyD D.py; simp [PyData.depth])
    rw [this]; show X.A.units + 1 + 1 + 0 < _; omega) fun out hlo ho => ?_))
  obtain ⟨c, hcc⟩ := sortedHeap_at (vs := acc.toList) (out := out.toArray) hoL
  have vo := vals_keys ho
  have hlen : (((vs.map (·.1)).mergeSort (dataLe false fun k => (keyD k).py)).map kV).length ≤ sizeLine := by
    rw [List.length_map, List.length_mergeSort, List.length_map, hl]; exact z
  refine wpAny_pure ⟨_, rfl, .ref h'.objs.size, upd H h'.objs.size (.lst (((vs.map (·.1)).mergeSort (dataLe false fun k => (keyD k).py)).map kV)), I1.laid (t' := tk) (fun b u e => ?_) (Nat.le_refl _) ⟨hlen, out, c, vo, hcc⟩, rfl, q _ (I1.hok.fresh (Nat.le_refl _))⟩
  have lt : b < h'.objs.size := Heap.lt_size e
  rw [sortedHeap_old (Nat.ne_of_lt lt) (by rw [size_push']; exact Nat.lt_succ_of_lt lt)]
  exact Heap.get?_push_of_some _ e
end
section
variable {C : SC} {E : EPost} {ρ : Env} {μ : Mem} {e tg : Expr} {Q : XV → Mem → Prop} {p pos apos cpos tpos : Pos}
def sortK (ks : List Key) : List Key := ks.mergeSort (dataLe false fun k => (keyD k).py)
/-- sorted(d): its keys -/
theorem gc_sortedD [Calm C] {x : XV} {ps : List (Key × XV)} (hr : C.room = C.room) (da : DAt μ x ps) (hal : AllAlike ((ps.map (·.1)).map fun k => (keyD k).py)) (q : Q (.d (.lst ((sortK (ps.map (·.1))).map keyD))) μ) : GoC C (.builtin "sorted") [x] μ Q := fun X hX H w vs M rs => by
  obtain ⟨v, rfl, r⟩ := rs.one
  obtain ⟨a, kvs, rfl, rd, pz⟩ := da.rd r M
  refine cS_of (cr_sortedD (hX.calm Calm.h) (room_u hX)) ⟨a, kvs, rfl, rd, by rw [pz.fst]; exact hal, fun p hp => ?_⟩
  rw [pz.fst]
  exact lift.new M hp (x := .lst ((sortK (ps.map (·.1))).map keyD)) (fun nl => ⟨p, _, rfl, nl, upd_same, reps_keys⟩) q
end
/-! ### list(d.values()), list(d.items()) -/
section
variable {X : Cx} {e : Expr} {te : TE} {p pos apos cpos : Pos}
def qListV (Q : VK) : V → Hp → Prop := fun x H => ∃ (d : Addr) (kvs : List (Key × V)), x = .ref d ∧ Rd H d (.dK kvs) ∧ ∀ p, H p = none → Q (.ref p) (upd H p (.lst (kvs.map (·.2))))
def tListV (te : TE) : TE := fun σ H Q => te σ H (qListV Q)
theorem vals_at : ∀ {kvs : List (Key × V)} {vs : List (Key × Value)} {us : List Value}, KV kvs vs → us.length = vs.length → (∀ (j : Nat) (v : Value), us[j]? = some v → ∃ k, vs[j]? = some (k, v)) → Vals (kvs.map (·.2)) us
  | [], [], [], .nil, _, _ => .nil
  | [], [], _ :: _, .nil, hl, _ => by cases hl
  | kv :: kvs, q :: vs, [], .cons _ _, hl, _ => by cases hl
  | kv :: kvs, q :: vs, u :: us, .cons h t, hl, f => by
    obtain ⟨k, e⟩ := f 0 u rfl
    cases (show some q = some (k, u) from e)
    exact .cons h.2 (vals_at t (by simpa using hl) fun j v e => f (j + 1) v (by simpa using e))
theorem pe_listV (hc : X.calm = true) (he : PE X e te) (hg : Gl X "list") (hm : X.mg "list" = none) (hv : bootBuiltins "list" = some (.type "list")) (hbase : attributeBase e "values" X.env (eval e X.env) = eval e X.env := by rfl) (hline : (apos.endLine == cpos.line) = true := by rfl)
    (hs : starEach [.Call (.Attribute e "values" apos) [] [] cpos] X.env = (false, eval (.Call (.Attribute e "values" apos) [] [] cpos) X.env) :: starEach [] X.env := by rfl) :
    PE X (.Call (.Name "list" p) [.Call (.Attribute e "values" apos) [] [] cpos] [] pos) (tListV te) := by
  refine ⟨fun pins s σ H Q I hq => ?_⟩
  refine wpAny_Call_Name_kw (ld_blt I hg hm hv ?_)
  refine PyProof.Rows.callWith_type1 ?_ hs rfl
  rw [hs]
  show wpAny _ _ (spliced ((false, eval (.Call (.Attribute e "values" apos) [] [] cpos) X.env) :: backTo pos (starEach [] X.env))) _ _ s
  refine Calls.spliced_cons ?_
  refine wpAny_Call_method (T := "dict") (id := "dict.values") hbase rfl hline PySem.F.plainAttrs_dict PySem.F.slot_dict_values PySem.F.type_dict_values (thn (he.run pins s σ H _ I hq) fun u s1 ⟨x, H1, I1, rx, d, kvs, ex, hd, q⟩ => ?_)
  subst ex
  obtain rfl : u = Value.ref d := rx
  obtain ⟨hz, hs0, vs, kv, hdo⟩ := dk_rd I1.hok hd
  obtain ⟨ep, hat⟩ := hdo.dictAt
  have lk : kvs.length = vs.length := Paired.length kv
  have I2 : L2.Inv X pins σ H1 { s1 with heap := s1.heap.push { cls := .type "dict_values", data := .fields #[.ref d] } } := I1.kept (t' := s1.toks) fun b ob q => Heap.get?_push_of_some _ q
  refine ⟨hdo.typeIs, hdo.mapOf.noDict, ?_⟩
  show wpAny _ _ (callWith cpos (.builtin "dict.values") [.ref d] [] []) _ X.xe s1
  refine method_meetsIn PySem.F.slot_dict_values PySem.F.entry_dict_values rfl (PySem.evalArgs_none ⟨rfl, hdo.typeIs, PySem.F.args_dict_values_1 _, _, meets_dict_values (mixKind X.prog X.w) d hs0, ⟨vs, hdo⟩, ?_⟩)
  refine Calls.spliced_nil ?_
  refine PySem.W.kdl_call (PySem.W.kdl_values (r := s1.heap.objs.size) (d := d) (knd := mixKind X.prog X.w) (kvs := vs) (ep := ep)) (I1.ok.hd hc) ⟨⟨_, Heap.get?_push_size _ rfl, rfl, rfl⟩, hat.push _⟩ (by omega) fun h' tk acc c hk hS hacc => ?_
  have hvv : Vals (kvs.map (·.2)) acc.toList := vals_at kv (by rw [Array.length_toList]; exact hacc.1) fun j v e => hacc.2 j v (by rw [← Array.getElem?_toList]; exact e)
  have hlen : (kvs.map (·.2)).length ≤ sizeLine := by rw [List.length_map]; exact hz
  exact ⟨.ref _, _, I2.laid (t' := tk) (o := .lst (kvs.map (·.2))) hk (Nat.le_refl _) ⟨hlen, acc.toList, c, hvv, by rw [Array.toArray_toList]; exact hS⟩, rfl, q _ (I2.hok.fresh (Nat.le_refl _))⟩
end
section
variable {C : SC} {E : EPost} {ρ : Env} {μ : Mem} {e tg : Expr} {Q : XV → Mem → Prop} {p pos apos cpos tpos : Pos}
/-- list(d.values()), d of data -/
theorem we_listV [Calm C] (B : Blts C.mg) (g1 : C.Glob "list") (h : WE C e ρ μ E fun x μ1 => ∃ ps : List (Key × DL.D), DAt μ1 x (ps.map fun p => (p.1, XV.d p.2)) ∧ Q (.d (.lst (ps.map (·.2)))) μ1)
    (hbase : ∀ env, attributeBase e "values" env (eval e env) = eval e env := by intro _; rfl) (hline : (apos.endLine == cpos.line) = true := by rfl)
    (hs : ∀ env, starEach [Expr.Call (.Attribute e "values" apos) [] [] cpos] env = (false, eval (.Call (.Attribute e "values" apos) [] [] cpos) env) :: starEach [] env := by intro _; rfl) :
    WE C (.Call (.Name "list" p) [.Call (.Attribute e "values" apos) [] [] cpos] [] pos) ρ μ E Q := fun X σ H w A => by
  have hg : ∀ x, C.Glob x → Gl X x := fun x hx => by show X.env.scope.names.lookup x = _; rw [A.has.sc]; exact hx
  have hm : ∀ x, C.mg x = none → X.mg x = none := fun x hx => by rw [A.has.mg]; exact hx
  refine tE_of (pe_listV (A.has.calm Calm.h) pe_tE (hg _ g1) (hm _ B.list) (by decide +kernel) (hbase _) hline (hs _)) ?_
  refine h.go A fun v H1 x μ1 w1 r1 A1 S1 ⟨ps, da, q⟩ => ?_
  obtain ⟨a, kvs, rfl, rd, pz⟩ := da.rd r1 A1.M
  refine ⟨a, kvs, rfl, rd, fun p hp => ?_⟩
  have rr : Reps C.K (Live μ1 w1) H1 (ps.map (·.2)) (kvs.map (·.2)) := reps_of_paired (PZ.ofX pz).snd
  exact lift.from S1 (lift.new A1.M hp (x := .lst (ps.map (·.2))) (fun nl => ⟨p, _, rfl, nl, upd_same, rr.grow hp⟩) q)
end
/-! ### == of dicts of data -/
def eqRows (qs : List (Key × DL.D)) (ps : List (Key × DL.D)) : Bool := ps.all fun p => match vz qs p.1 with | none => false | some y => PyData.eqv p.2.py y.py
def dctEq (ps qs : List (Key × DL.D)) : Bool := decide (ps.length = qs.length) && eqRows qs ps
section
variable {X : Cx}
/-- dicts whose values are data -/
def rEqDD (K : PySem.W.Frag) (b : Bool) : R2 := fun x y H Q => ∃ (a c : Addr) (ks ls : List (Key × V)) (L : Addr → Prop) (ps qs : List (Key × DL.D)), x = .ref a ∧ y = .ref c ∧ Rd H a (.dK ks) ∧ Rd H c (.dK ls) ∧ PZ (Rep K L H) ps ks ∧ PZ (Rep K L H) qs ls ∧
  (∀ p ∈ ps, p.2.okEq) ∧ (∀ p ∈ qs, p.2.okEq) ∧ Q (.bl (if b then dctEq ps qs else !dctEq ps qs)) H
theorem hits_of {pins : List (Addr × Obj)} {σ : L2.St} {H : Hp} {s : Shared} {A : Around} {L : Addr → Prop} (I : L2.Inv X pins σ H s) (hu : A.in1.units + 64 < cLine) {qs : List (Key × DL.D)} {ls : List (Key × V)} {vb : List (Key × Value)} (zq : PZ (Rep X.K L H) qs ls) (rb : KV ls vb) (oq : ∀ p ∈ qs, p.2.okEq) :
    ∀ {ps : List (Key × DL.D)} {ks : List (Key × V)} {va : List (Key × Value)}, PZ (Rep X.K L H) ps ks → KV ks va → (∀ p ∈ ps, p.2.okEq) → KeqHits A.in1 s vb va (eqRows qs ps)
  | [], [], [], .nil, .nil, _ => .nil
  | p :: ps, k :: ks, q :: va, .cons h t, .cons f g, ok => by
    obtain ⟨kk, vv⟩ := q
    have e1 : p.1 = kk := h.1.trans f.1
    have ih := hits_of I hu zq rb oq t g fun p hp => ok p (List.mem_cons_of_mem _ hp)
    have rv := rb.val kk
    show KeqHits A.in1 s vb ((kk, vv) :: va) ((match vz qs p.1 with | none => false | some y => PyData.eqv p.2.py y.py) && eqRows qs ps)
    rcases zq.val kk with ⟨d, v, e2, e3, r⟩ | ⟨e2, e3⟩
    · rw [e3] at rv
      obtain ⟨y, hy, ry⟩ := rv.some_of
      rw [e1, e2]
      have md : d.okEq := by
        unfold vz at e2
        obtain ⟨pp, hpp, rfl⟩ := Option.map_eq_some_iff.mp e2
        exact oq pp (List.mem_of_find?_eq_some hpp)
      have mp := ok p List.mem_cons_self
      obtain ⟨as, ra⟩ := Dp.reads I _ _ _ (Rep.dp _ _ mp.1 h.2) f.2
      obtain ⟨bs, rb2⟩ := Dp.reads I _ _ _ (Rep.dp _ _ md.1 r) ry
      exact .hit hy (keq_at ra rb2 mp.shaped md.shaped hu) ih
    · rw [e3] at rv
      have hn : valueAt vb kk = none := RelO.none_of rv
      rw [e1, e2]
      exact .miss hn
theorem op_eqDD (hu : X.A.units + 66 < cLine) : OpR X (compareOp .Eq) (rEqDD X.K true) := by
  intro pins s σ H x y v u Q I rx ry h
  obtain ⟨a, c, ks, ls, L, ps, qs, rfl, rfl, ea, eb, zp, zq, op, oq, q⟩ := h
  obtain rfl : v = Value.ref a := rx
  obtain rfl : u = Value.ref c := ry
  obtain ⟨_, ya, va, ra, da⟩ := dk_rd I.hok ea
  obtain ⟨_, yb, vb, rb, db⟩ := dk_rd I.hok eb
  have h1 : va.length = ps.length := by rw [← ra.length, ← zp.length]
  have h2 : vb.length = qs.length := by rw [← rb.length, ← zq.length]
  refine keq_eq (knd := mixKind X.prog X.w) (r := eqRows qs ps) ya yb da db (by omega) (fun _ => hits_of (A := X.A) I (by show X.A.units + 1 + 64 < _; omega) zq rb oq zp ra op) (fin_bl I q ?_)
  rw [h1, h2]
  unfold dctEq
  simp [Bool.beq_eq_decide_eq]
theorem op_neDD (hu : X.A.units + 66 < cLine) : OpR X (compareOp .NotEq) (rEqDD X.K false) := by
  intro pins s σ H x y v u Q I rx ry h
  obtain ⟨a, c, ks, ls, L, ps, qs, rfl, rfl, ea, eb, zp, zq, op, oq, q⟩ := h
  obtain rfl : v = Value.ref a := rx
  obtain rfl : u = Value.ref c := ry
  obtain ⟨_, ya, va, ra, da⟩ := dk_rd I.hok ea
  obtain ⟨_, yb, vb, rb, db⟩ := dk_rd I.hok eb
  have h1 : va.length = ps.length := by rw [← ra.length, ← zp.length]
  have h2 : vb.length = qs.length := by rw [← rb.length, ← zq.length]
  refine keq_ne (knd := mixKind X.prog X.w) (r := eqRows qs ps) ya yb da db (by omega) (fun _ => hits_of (A := X.A) I (by show X.A.units + 1 + 64 < _; omega) zq rb oq zp ra op) (fin_bl I q ?_)
  rw [h1, h2]
  unfold dctEq
  simp [Bool.beq_eq_decide_eq]
end
section
variable {C : SC} {μ : Mem} {Q : XV → Mem → Prop} {x y : XV} {ps qs : List (Key × DL.D)}
theorem room66 {C : SC} {X : Cx} (h : C.Has X) : X.A.units + 66 < cLine := by have := h.un; omega
theorem go_eq_dct (dx : DAt μ x (ps.map fun p => (p.1, XV.d p.2))) (dy : DAt μ y (qs.map fun p => (p.1, XV.d p.2))) (op : ∀ p ∈ ps, p.2.okEq) (oq : ∀ p ∈ qs, p.2.okEq) (q : Q (.d (.bl (dctEq ps qs))) μ) : Go2 C (compareOp .Eq) x y μ Q := fun X hX H w vx vy M rx ry => by
  obtain ⟨a, ks, rfl, ra, za⟩ := dx.rd rx M
  obtain ⟨c, ls, rfl, rb, zb⟩ := dy.rd ry M
  exact rS_of (op_eqDD (room66 hX)) ⟨a, c, ks, ls, Live μ w, ps, qs, rfl, rfl, ra, rb, by rw [hX.K]; exact PZ.ofX za, by rw [hX.K]; exact PZ.ofX zb, op, oq, lift.now M (x := .d (.bl _)) rfl q⟩
theorem go_ne_dct (dx : DAt μ x (ps.map fun p => (p.1, XV.d p.2))) (dy : DAt μ y (qs.map fun p => (p.1, XV.d p.2))) (op : ∀ p ∈ ps, p.2.okEq) (oq : ∀ p ∈ qs, p.2.okEq) (q : Q (.d (.bl (!dctEq ps qs))) μ) : Go2 C (compareOp .NotEq) x y μ Q := fun X hX H w vx vy M rx ry => by
  obtain ⟨a, ks, rfl, ra, za⟩ := dx.rd rx M
  obtain ⟨c, ls, rfl, rb, zb⟩ := dy.rd ry M
  exact rS_of (op_neDD (room66 hX)) ⟨a, c, ks, ls, Live μ w, ps, qs, rfl, rfl, ra, rb, by rw [hX.K]; exact PZ.ofX za, by rw [hX.K]; exact PZ.ofX zb, op, oq, lift.now M (x := .d (.bl _)) rfl q⟩
end
end DL
set_option maxRecDepth 100000
set_option maxHeartbeats 2000000
/-! DL29: dict comprehensions, displays; pure rules for dicts. -/
namespace DL
open PySem L2 PySem.Spec PyProof.Rows
/-- the dict that a comprehension makes, on the way -/
structure AccD (K : PySem.W.Frag) (μ1 : Mem) (H1 : Hp) (w1 : IA) (Dl : Addr) (μ' : Mem) (H' : Hp) (w' : IA) (acc : List (Key × D)) (kvs : List (Key × V)) : Prop where
  M : MOk K μ' H' w'
  kp : Kp μ1 H1 w1 μ' H' w'
  F : ∀ a, w'.F a ↔ (w1.F a ∨ a = Dl)
  frm : ∀ a o, w1.F a → H1 a = some o → H' a = some o
  D : H' Dl = some (.dK kvs)
  R : PZ (Rep K (Live μ' w') H') acc kvs
  there : ∀ a o, H1 a = some o → ∃ o', H' a = some o'
  new : ∀ (n : Nat) a, w1.ι.length ≤ n → w'.ι[n]? = some a → H1 a = none
section
variable {K : PySem.W.Frag} {μ1 μ' μ2 : Mem} {H1 H' H2 : Hp} {w1 w' w2 : IA} {Dl : Addr} {acc : List (Key × DL.D)} {xs : List (Key × V)}
theorem AccD.start {o0 : HO} (M : MOk K μ1 H1 w1) (hDl : H1 Dl = none) : AccD K μ1 H1 w1 Dl μ1 (upd H1 Dl (.dK [])) (w1.hide Dl) [] [] := by
  have nDl : ∀ {a : Addr}, Live μ1 w1 a → a ≠ Dl := fun l e => M.no_live hDl (e ▸ l)
  have M' := M.grow (upd_grow (o := .dK []) hDl)
  have S' : Kp μ1 H1 w1 μ1 (upd H1 Dl (.dK [])) (w1.hide Dl) := ⟨fun b o hb nl => ⟨upd_grow hDl b o hb, fun q => (live_hide.mp q).elim nl fun e => ne_of_none hb hDl e⟩, fun _ _ h => h⟩
  refine ⟨⟨M'.len, M'.inj, fun n m a e1 e2 => ?_, fun n m a e1 e2 f => ?_, fun a f => ?_⟩, S', fun a => Iff.rfl, fun a o f h => upd_grow hDl a o h, upd_same, .nil, fun a o h => ⟨o, upd_grow hDl a o h⟩, fun _ _ h e => (past h e).elim⟩
  · exact Holds.kp S' (M.holds n m a e1 e2) fun o e => upd_grow hDl _ _ e
  · rcases f with f | f
    · exact M.nF n m a e1 e2 f
    · exact nDl (.inr ⟨n, m, e1, e2⟩) f
  · rcases f with f | rfl
    · obtain ⟨o, ho⟩ := M.fr a f
      exact ⟨o, upd_grow hDl a o ho⟩
    · exact ⟨_, upd_same⟩
theorem AccD.step (A : AccD K μ1 H1 w1 Dl μ' H' w' acc xs) (S : Stp μ' H' w' μ2 H2 w2) (M2 : MOk K μ2 H2 w2) : AccD K μ1 H1 w1 Dl μ2 H2 w2 acc xs :=
  have fDl : w'.F Dl := (A.F Dl).mpr (.inr rfl)
  ⟨M2, A.kp.trans S.kp, fun a => by rw [S.sF]; exact A.F a, fun a o f h => S.frm a o ((A.F a).mpr (.inl f)) (A.frm a o f h), S.frm Dl _ fDl A.D, A.R.mono fun x v r => Rep.mono S.keep _ _ r, fun a o h => by
    obtain ⟨o1, h1⟩ := A.there a o h
    exact S.there a o1 h1, fun n a hn e => by
    by_cases hl : n < w'.ι.length
    · have e1 : w'.ι[n]? = some w'.ι[n] := List.getElem?_eq_getElem hl
      have e2 := S.num n _ e1
      rw [e] at e2
      exact A.new n a hn (by rw [e1]; exact e2.symm)
    · exact none_of A.there (S.new n a (by omega) e)⟩
theorem AccD.put (A : AccD K μ1 H1 w1 Dl μ' H' w' acc xs) (hDl : H1 Dl = none) {k : Key} {d : DL.D} {u : V} (r : Rep K (Live μ' w') H' d u) : AccD K μ1 H1 w1 Dl μ' (upd H' Dl (.dK (putK xs k u))) w' (pz acc k d) (putK xs k u) := by
  have fDl : w'.F Dl := (A.F Dl).mpr (.inr rfl)
  have kpU : Kp μ' H' w' μ' (upd H' Dl (.dK (putK xs k u))) w' := ⟨fun a o h nl => ⟨by rw [upd_ne (fun e => nl (by rw [e]; exact .inl fDl))]; exact h, nl⟩, fun _ _ h => h⟩
  refine ⟨⟨A.M.len, A.M.inj, fun n mm a e1 e2 => ?_, A.M.nF, fun a f => ?_⟩, A.kp.trans kpU, A.F, fun a o f h => ?_, upd_same, PZ.put (Rep.mono kpU.keep _ _ r) (A.R.mono fun x v r => Rep.mono kpU.keep _ _ r), fun a o h => ?_, A.new⟩
  · have h := A.M.holds n mm a e1 e2
    have na : a ≠ Dl := fun e => A.M.nF n mm a e1 e2 (e ▸ fDl)
    exact Holds.kp kpU h fun o e => by rw [upd_ne na]; exact e
  · by_cases ea : a = Dl
    · subst ea; exact ⟨_, upd_same⟩
    · obtain ⟨o, ho⟩ := A.M.fr a f
      exact ⟨o, by rw [upd_ne ea]; exact ho⟩
  · have na : a ≠ Dl := ne_of_none h hDl
    rw [upd_ne na]
    exact A.frm a o f h
  · by_cases ea : a = Dl
    · subst ea; exact ⟨_, upd_same⟩
    · obtain ⟨o', ho⟩ := A.there a o h
      exact ⟨o', by rw [upd_ne ea]; exact ho⟩
theorem AccD.fin {μ : Mem} {H : Hp} {w : IA} {Q : XV → Mem → Prop} {od : Obj} (A : AccD K μ1 H1 w1 Dl μ' H' w' acc xs) (hDl : H1 Dl = none) (M1 : MOk K μ1 H1 w1) (S1 : Stp μ H w μ1 H1 w1) (q : Q (.d (D.dc acc)) μ') : lift K Q μ H w (.ref Dl) (upd H' Dl (.frz od (.dK xs))) := by
  have fDl : w'.F Dl := (A.F Dl).mpr (.inr rfl)
  have sub : ∀ {a : Addr}, Live μ' ⟨w'.ι, w1.F⟩ a → Live μ' w' a := fun l => by
    rcases l with f | c
    · exact .inl ((A.F _).mpr (.inl f))
    · exact .inr c
  have nDl : ∀ a, ¬ Live μ' w' a → a ≠ Dl := fun a nl e => nl (by rw [e]; exact .inl fDl)
  have kpU : Kp μ' H' w' μ' (upd H' Dl (.frz od (.dK xs))) ⟨w'.ι, w1.F⟩ := ⟨fun a o h nl => ⟨by rw [upd_ne (nDl a nl)]; exact h, fun q => nl (sub q)⟩, fun _ _ h => h⟩
  have nl : ¬ Live μ' ⟨w'.ι, w1.F⟩ Dl := fun l => by
    rcases l with f | ⟨n, m, e1, e2⟩
    · obtain ⟨o, ho⟩ := M1.fr Dl f
      rw [hDl] at ho
      cases ho
    · exact A.M.nF n m Dl e1 e2 fDl
  refine ⟨.d (D.dc _), μ', ⟨w'.ι, w1.F⟩, dc_of nl upd_same (A.R.mono fun x v r => Rep.mono kpU.keep _ _ r), ?_, S1.trans ⟨fun a o h nl => ?_, A.kp.num, rfl, fun a o f h => ?_, fun a o h => ?_, A.new⟩, q⟩
  · refine ⟨A.M.len, A.M.inj, fun n m a e1 e2 => ?_, fun n m a e1 e2 f => A.M.nF n m a e1 e2 ((A.F a).mpr (.inl f)), fun a f => ?_⟩
    · have h := A.M.holds n m a e1 e2
      have na : a ≠ Dl := fun e => A.M.nF n m a e1 e2 (e ▸ fDl)
      exact Holds.kp kpU h fun o e => by rw [upd_ne na]; exact e
    · obtain ⟨o, ho⟩ := A.M.fr a ((A.F a).mpr (.inl f))
      by_cases ea : a = Dl
      · subst ea; exact ⟨_, upd_same⟩
      · exact ⟨o, by rw [upd_ne ea]; exact ho⟩
  · obtain ⟨h1, h2⟩ := A.kp.keep a o h nl
    exact ⟨by rw [upd_ne (nDl a h2)]; exact h1, fun q => h2 (sub q)⟩
  · have na : a ≠ Dl := ne_of_none h hDl
    rw [upd_ne na]
    exact A.frm a o f h
  · by_cases ea : a = Dl
    · subst ea; exact ⟨_, upd_same⟩
    · obtain ⟨o', ho⟩ := A.there a o h
      exact ⟨o', by rw [upd_ne ea]; exact ho⟩
end
/-- what a dict comprehension asks of its walk -/
def DcI (C : SC) (scope : Scope) (t : Tg) (ifs : List Expr) (kx vx : Expr) (vs : List Nat) (ρ : Env) (Q : XV → Mem → Prop) : List XV → (Mem → Prop) → Mem → Prop := fun items G μ1 =>
  items.length ≤ sizeLine ∧ ∃ P : Nat → List (Key × D) → Mem → Prop, P 0 [] μ1 ∧ (∀ i acc μ', i ≤ items.length → P i acc μ' → G μ') ∧
    (∀ (i : Nat) x acc μ', items[i]? = some x → P i acc μ' → ∃ ρ', t.put x (wipeE ρ vs) ρ' ∧ WIf (C.blk scope) ifs ρ' μ' fun k μ2 => (k = true → WE (C.blk scope) kx ρ' μ2 noE fun y μ3 => WE (C.blk scope) vx ρ' μ3 noE fun z μ4 => ∃ kk d, y = .d (keyD kk) ∧ z = .d d ∧ acc.length ≤ i ∧ P (i + 1) (pz acc kk d) μ4) ∧ (k = false → P (i + 1) acc μ2)) ∧
    (∀ acc μ', P items.length acc μ' → Q (.d (D.dc acc)) μ')
section
variable {C : SC} {E : EPost} {ρ : Env} {μ : Mem} {Q : XV → Mem → Prop} {tg iter kx vx c : Expr} {ifs : List Expr} {pos : Pos}
/-- a dict comprehension has made its dict -/
def DcEnd (K : PySem.W.Frag) (μ : Mem) (H : Hp) (w : IA) (Q : XV → Mem → Prop) : VK := fun v H' => ∃ (Dl : Addr) (μ1 : Mem) (H1 : Hp) (w1 : IA) (μ' : Mem) (w' : IA) (acc : List (Key × D)) (kvs : List (Key × V)), v = .ref Dl ∧ H1 Dl = none ∧ MOk K μ1 H1 w1 ∧ Stp μ H w μ1 H1 w1 ∧ AccD K μ1 H1 w1 Dl μ' H' w' acc kvs ∧ Q (.d (D.dc acc)) μ'
theorem dc_read {σ : L2.St} {H : Hp} {w : IA} {X : Cx} {scope : Scope} {own : List (Str × Nat)} {t : Tg} {wi : TI} {Qv : VK} (A : At C X E ρ μ σ H w) (hsl : ∀ j ∈ t.slots, j ∈ own.map (·.2))
    (hw : ∀ P : It → Hp → Prop, (∀ J H1 items G μ1 w1, At C X E ρ μ1 σ H1 w1 → Stp μ H w μ1 H1 w1 → DIt C.K J items G μ1 H1 w1 → G μ1 → DcI C scope t ifs kx vx (own.map (·.2)) ρ Q items G μ1 → P J H1) → wi σ H P) (hq : ∀ v H', DcEnd C.K μ H w Q v H' → Qv v H') :
    tDc wi (t.g X.K) (fun σ' H' R => ∀ s0 H0 A0 cl fp, tIfs (X.blk s0 H0 scope (compEnvC scope cl A0 X.env) fp) ifs σ' H' R) (fun σ' H' R => ∀ s0 H0 A0 cl fp, tE (X.blk s0 H0 scope (compEnvC scope cl A0 X.env) fp) kx σ' H' R) (fun σ' H' R => ∀ s0 H0 A0 cl fp, tE (X.blk s0 H0 scope (compEnvC scope cl A0 X.env) fp) vx σ' H' R) (own.map (·.2)) σ H Qv := by
  refine hw _ fun J H1 items G μ1 w1 A1 S1 dit g0 ⟨hz, P, p0, pG, pS, pD⟩ Dl hDl => ?_
  generalize hvs : own.map (·.2) = vs at *
  let Pv : Nat → Hp → Prop := fun i H' => ∃ acc xs μ' w', AccD C.K μ1 H1 w1 Dl μ' H' w' acc xs ∧ P i acc μ'
  refine ⟨fun i m H' => m = items.length - i ∧ i ≤ items.length ∧ Pv i H', ⟨items.length, by simp, Nat.zero_le _, [], [], μ1, _, AccD.start (o0 := .dK []) A1.M hDl, p0⟩, ?_⟩
  rintro i m H' ⟨rfl, hil, acc, xs, μ', w', B, p'⟩
  obtain ⟨dgo, dstop⟩ := dit μ' H' w' B.kp B.M (pG i acc μ' hil p')
  by_cases hlt : i < items.length
  · obtain ⟨x, hx⟩ : ∃ x, items[i]? = some x := ⟨items[i], List.getElem?_eq_getElem hlt⟩
    obtain ⟨go, yl⟩ := dgo i x hx
    refine .inr ⟨go, Pv (i + 1), fun H2 q => ⟨items.length - (i + 1), by omega, rfl, hlt, q⟩, fun v H2 y => ?_⟩
    obtain ⟨gr, rx⟩ := yl v H2 y
    have B2 : AccD C.K μ1 H1 w1 Dl μ' H2 w' acc xs := B.step (Stp.grow gr) (B.M.grow gr)
    obtain ⟨ρ', hput, hif⟩ := pS i x acc μ' hx p'
    have Rw : ROk C.K μ' H2 w' (wipeE ρ vs) (wipe σ vs) := (A1.R.kp B2.kp).wipe vs
    rw [A.has.K]
    refine Tg.go2 hput rx Rw fun σ3 R3 l3 e3 => ?_
    have wEq : wipe σ3 vs = wipe σ vs := by
      refine (wipe_eq (σ' := wipe σ vs) l3 fun k hk => e3 k fun hm => hk (hsl k hm)).trans (wipe_eq (wipe_length _ _) fun k hk => wipe_at hk)
    refine ⟨wEq, fun s0 H0 A0 cl fp => ?_⟩
    have AB : ∀ {s0 H0 A0 cl fp}, At (C.blk scope) (X.blk s0 H0 scope (compEnvC scope cl A0 X.env) fp) noE ρ' μ' σ3 H2 w' := fun {s0 H0 A0 cl fp} => ⟨blk_has A.has, B2.M, R3, takes_no⟩
    refine WIf.go hif AB fun b H3 μ3 w3 M3 S3 q => ?_
    have B3 := B2.step S3 M3
    cases b with
    | false => exact iteF ⟨acc, xs, μ3, w3, B3, q.2 rfl⟩
    | true =>
      refine iteT fun s0 H0 A0 cl fp => ?_
      have A3 : At (C.blk scope) (X.blk s0 H0 scope (compEnvC scope cl A0 X.env) fp) noE ρ' μ3 σ3 H3 w3 := AB.step S3 M3
      refine (q.1 rfl).go A3 fun u H4 y μ4 w4 r4 A4 S4 q4 => ?_
      have B4 := B3.step S4 A4.M
      intro s0 H0 A0 cl fp
      have A4' : At (C.blk scope) (X.blk s0 H0 scope (compEnvC scope cl A0 X.env) fp) noE ρ' μ4 σ3 H4 w4 := ⟨blk_has A.has, A4.M, A4.R, takes_no⟩
      refine q4.go A4' fun u2 H5 z μ5 w5 r5 A5 S5 ⟨kk, d, ey, ez, hl, pd⟩ => ?_
      subst ey ez
      have B5 := B4.step S5 A5.M
      refine ⟨xs, kk, keyD_rep r4, B5.D, ?_, pz acc kk d, putK xs kk u2, μ5, w5, B5.put hDl r5, pd⟩
      rw [← B5.R.length]
      omega
  · have e : i = items.length := by omega
    subst e
    exact .inl ⟨dstop, hq _ _ ⟨Dl, μ1, H1, w1, μ', w', acc, xs, rfl, hDl, A1.M, S1, B, pD acc μ' p'⟩⟩
theorem we_dc [Calm C] {scope : Scope} {own : List (Str × Nat)} {t : Tg} (ht : TgOk (C.blk scope) tg t) (nd : C.N.Nodup) (ok : BlkOk C.N C.sc scope own) (hsl : ∀ j ∈ t.slots, j ∈ own.map (·.2))
    (h : WI C tg iter ρ μ E (DcI C scope t ifs kx vx (own.map (·.2)) ρ Q)) (hs : ∀ env x, foldedSetIterable iter env x = pure x := by intro _ _; rfl) :
    WE C (.DictComp kx vx [⟨tg, iter, ifs, 0⟩] scope pos) ρ μ E Q := fun X σ H w A => by
  obtain ⟨wi, hi, hw⟩ := h X σ H w A
  refine tE_lock (tE_of (pe_dc (own := own) (g := t.g X.K) (tt := fun σ' H' R => ∀ s0 H0 A0 cl fp, tIfs (X.blk s0 H0 scope (compEnvC scope cl A0 X.env) fp) ifs σ' H' R)
    (tk := fun σ' H' R => ∀ s0 H0 A0 cl fp, tE (X.blk s0 H0 scope (compEnvC scope cl A0 X.env) fp) kx σ' H' R) (tv := fun σ' H' R => ∀ s0 H0 A0 cl fp, tE (X.blk s0 H0 scope (compEnvC scope cl A0 X.env) fp) vx σ' H' R)
    (A.has.calm Calm.h) (by rw [A.has.N]; exact nd) hi (by rw [A.has.N, A.has.sc]; exact ok) (fun s0 H0 A0 cl fp => ht.pg (blk_has A.has)) (fun s0 H0 A0 cl fp => ⟨fun pins s σ' H' R I h => pts_tIfs.run pins s σ' H' R I (h s0 H0 A0 cl fp)⟩)
    (fun s0 H0 A0 cl fp => ⟨fun pins s σ' H' R I h => h s0 H0 A0 cl fp pins s I⟩) (fun s0 H0 A0 cl fp => ⟨fun pins s σ' H' R I h => h s0 H0 A0 cl fp pins s I⟩) (hs _))
    (Q := DcEnd C.K μ H w Q) (dc_read A hsl hw fun v H' q => q)) fun v H' ⟨Dl, μ1, H1, w1, μ', w', acc, kvs, ev, hDl, M1, S1, B, q⟩ => by
      subst ev
      exact ⟨Dl, .dK kvs, B.D, trivial, fun od => B.fin hDl M1 S1 q⟩
end
section
variable {X : Cx}
theorem tS1_lock {st : Stmt} {σ : L2.St} {H : Hp} {D : Ends} {nx : L2.St → Hp → Prop} (h : tS1 X st { D with nx := nx } σ H) (k : ∀ σ' H', nx σ' H' → ∃ d u, H' d = some u ∧ Mut (some u) ∧ ∀ od, D.nx σ' (upd H' d (.frz od u))) : tS1 X st D σ H := fun pins s I =>
  thn (h pins s I) fun f s1 q => by
    cases f with
    | next =>
      obtain ⟨σ', H', I', q⟩ := q
      obtain ⟨d, u, hd, mu, f⟩ := k σ' H' q
      obtain ⟨od, I2⟩ := I'.lock hd mu
      exact ⟨σ', _, I2, f od⟩
    | ret u => exact q
    | brk => exact q
    | cont => exact q
theorem sw_trueD {kx vx : Expr} {gs : List Comprehension} {scope : Scope} {pos py : Pos} {y : Str} {l : Nat} {env : PySem.Env} (hk : env.scope.kind = .function) (hy : env.scope.names.lookup y = some .local) (hl : (py.line == pos.line) = true)
    (ha : (scope.names.any fun (n, k) => n == y && (k == .local || k == .cell)) = false) : swapsWith (.DictComp kx vx gs scope pos) (some (.Name y py)) l env = pure true := by
  have ky : env.kindOf y = some .local := hy
  have hb : env.blockKind = .function := by unfold Env.blockKind; rw [hk]; rfl
  unfold swapsWith
  simp only [hb, ky, ha, Expr.pos, hl]
  rfl
theorem ps_setDc {i : Nat} {y : Str} {py : Pos} {kx vx tg iter : Expr} {ifs : List Expr} {scope : Scope} {own : List (Str × Nat)} {pos spos : Pos} {wi : TI} {g : TG} {tt : TT} {tk tv : TE} (hc : X.calm = true) (hN : X.N.Nodup) (hy : X.N[i]? = some y) (hyl : X.env.scope.names.lookup y = some .local)
    (hsw : swapsWith (.DictComp kx vx [⟨tg, iter, ifs, 0⟩] scope pos) (some (.Name y py)) spos.line X.env = pure true) (hi : PI X tg iter wi) (ok : BlkOk X.N X.env.scope scope own)
    (hg : ∀ (s : Shared) (H : Hp) (C : Addr) (cl : List (Str × Addr)) (fp : List Addr), PG (X.blk s H scope (compEnvC scope cl C X.env) fp) tg g) (ht : ∀ (s : Shared) (H : Hp) (C : Addr) (cl : List (Str × Addr)) (fp : List Addr), PTs (X.blk s H scope (compEnvC scope cl C X.env) fp) ifs tt)
    (hkx : ∀ (s : Shared) (H : Hp) (C : Addr) (cl : List (Str × Addr)) (fp : List Addr), PE (X.blk s H scope (compEnvC scope cl C X.env) fp) kx tk)
    (hvx : ∀ (s : Shared) (H : Hp) (C : Addr) (cl : List (Str × Addr)) (fp : List Addr), PE (X.blk s H scope (compEnvC scope cl C X.env) fp) vx tv) (hs : ∀ x, foldedSetIterable iter X.env x = pure x) :
    PS X (.Assign [.Name y py] (.DictComp kx vx [⟨tg, iter, ifs, 0⟩] scope pos) spos) (tAsg (tDc wi g tt tk tv (own.map (·.2))) (gName i)) := by
  refine ⟨fun pins s σ H D I hq => ?_⟩
  rw [exec_Assign_Name_used _ _ _ _ hsw]
  refine wpAny_bind (wpAny_standAt (wpAny_bind ?_))
  show wpAny _ X.A (do let _ ← comprehension (.DictComp kx vx [⟨tg, iter, ifs, 0⟩] scope pos) scope X.env (firstIterPos [⟨tg, iter, ifs, 0⟩] pos) newDict false (eval iter X.env) (some (assign (.Name y py) X.env))) _ _ s
  have hq' : tDc wi g tt tk tv (own.map (·.2)) σ H (fun x H1 => gName i x σ H1 D.nx) := hq
  refine wpAny_bind (thn (dc_core (Qf := fun _ s' => SP X pins D .next s') hc hN I hi ok hg ht hkx hvx hs hq' fun L C0 s9 m0 H9 I9 q9 hn9 f9 => ?_) fun _ s9 hq9 => wpAny_pure (wpAny_pure hq9))
  show wpAny _ _ (assign (.Name y py) X.env (.ref L)) _ _ _
  refine wpAny_assign_Name (store_ok2 (v := V.ref L) I9 hN hy (.inl hyl) rfl (fun s2 I2 ⟨a9, sb9, ha9⟩ => ?_) (.inr hyl))
  obtain ⟨f0, f1, f2, f3, f4, f5⟩ := f9
  have haC : C0 ≠ a9 := by
    rcases ha9 with z | z
    · rw [z]; exact f1
    · exact fun e => f4 y a9 z e.symm
  exact ⟨m0, hn9.sameBut sb9 haC, fun h3 sb3 => ⟨_, H9, I2.turned (t' := s2.toks) (fun b o hb e => (sb3.2 b hb).trans e) f0 f1 f3 f4 f5, q9⟩⟩
end
section
variable {C : SC} {E : EPost} {ρ : Env} {μ : Mem} {Q : XV → Mem → Prop} {tg iter kx vx c : Expr} {ifs : List Expr} {pos : Pos}
/-- name = {k: v for ..} on one line -/
theorem w1_setDc [Calm C] {D0 : DEnds} {scope : Scope} {own : List (Str × Nat)} {t : Tg} {i : Nat} {y : Str} {py spos : Pos} (n : C.Nm i y) (hyl : C.sc.names.lookup y = some .local) (ht : TgOk (C.blk scope) tg t) (ok : BlkOk C.N C.sc scope own) (hsl : ∀ j ∈ t.slots, j ∈ own.map (·.2))
    (h : WI C tg iter ρ μ E (DcI C scope t ifs kx vx (own.map (·.2)) ρ fun z μ' => D0.nx (ρ.set i (some z)) μ')) (hk : C.sc.kind = .function) (hl : (py.line == pos.line) = true) (ha : (scope.names.any fun (n, k) => n == y && (k == .local || k == .cell)) = false)
    (hs : ∀ env x, foldedSetIterable iter env x = pure x := by intro _ _; rfl) : WS1 C (.Assign [.Name y py] (.DictComp kx vx [⟨tg, iter, ifs, 0⟩] scope pos) spos) ρ μ E D0 := fun X σ H w A => by
  obtain ⟨wi, hi, hw⟩ := h X σ H w A
  refine tS1_lock (nx := fun σ' H' => ∃ v, DcEnd C.K μ H w (fun z μ' => D0.nx (ρ.set i (some z)) μ') v H' ∧ σ' = σ.set i (some v)) (tS1_of (ps_setDc (i := i) (own := own) (g := t.g X.K) (tt := fun σ' H' R => ∀ s0 H0 A0 cl fp, tIfs (X.blk s0 H0 scope (compEnvC scope cl A0 X.env) fp) ifs σ' H' R)
    (tk := fun σ' H' R => ∀ s0 H0 A0 cl fp, tE (X.blk s0 H0 scope (compEnvC scope cl A0 X.env) fp) kx σ' H' R) (tv := fun σ' H' R => ∀ s0 H0 A0 cl fp, tE (X.blk s0 H0 scope (compEnvC scope cl A0 X.env) fp) vx σ' H' R)
    (A.has.calm Calm.h) (by rw [A.has.N]; exact n.nd) (by rw [A.has.N]; exact n.at_) (by rw [A.has.sc]; exact hyl) (sw_trueD (by rw [A.has.sc]; exact hk) (by rw [A.has.sc]; exact hyl) hl ha) hi (by rw [A.has.N, A.has.sc]; exact ok) (fun s0 H0 A0 cl fp => ht.pg (blk_has A.has)) (fun s0 H0 A0 cl fp => ⟨fun pins s σ' H' R I h => pts_tIfs.run pins s σ' H' R I (h s0 H0 A0 cl fp)⟩)
    (fun s0 H0 A0 cl fp => ⟨fun pins s σ' H' R I h => h s0 H0 A0 cl fp pins s I⟩) (fun s0 H0 A0 cl fp => ⟨fun pins s σ' H' R I h => h s0 H0 A0 cl fp pins s I⟩) (hs _))
    (dc_read A hsl hw fun v H' q => ⟨v, q, rfl⟩)) fun σ' H' ⟨v, ⟨Dl, μ1, H1, w1, μ', w', acc, kvs, ev, hDl, M1, S1, B, q⟩, es⟩ => ?_
  subst ev es
  refine ⟨Dl, .dK kvs, B.D, trivial, fun od => ?_⟩
  obtain ⟨z, μ2, w2, r, M, S, q⟩ := B.fin (od := od) (Q := fun z μ' => D0.nx (ρ.set i (some z)) μ') hDl M1 S1 q
  exact ⟨_, μ2, w2, (A.R.stp S).put r i, M, S, q⟩
/-- {k: v for tg in iter [if c]} -/
theorem wi_dcW {scope : Scope} {own : List (Str × Nat)} {t : Tg} {items : List XV} {kf : XV → Key} {g : XV → D} {f : XV → Bool} (hi : PWk C tg iter ρ μ E items) (hz : items.length ≤ sizeLine)
    (h : ∀ x ∈ items, ∃ ρ', t.put x (wipeE ρ (own.map (·.2))) ρ' ∧ PIf (C.blk scope) ifs ρ' μ (f x) ∧ (f x = true → PV (C.blk scope) kx ρ' μ noE (.d (keyD (kf x))) ∧ PV (C.blk scope) vx ρ' μ noE (.d (g x)))) {Q : XV → Mem → Prop} (q : Q (.d (D.dc ((items.filter f).foldl (fun acc x => pz acc (kf x) (g x)) []))) μ) : WI C tg iter ρ μ E (DcI C scope t ifs kx vx (own.map (·.2)) ρ Q) := by
  refine hi _ fun G hG => ⟨hz, fun i acc μ' => acc = ((items.take i).filter f).foldl (fun acc x => pz acc (kf x) (g x)) [] ∧ acc.length ≤ i ∧ μ' = μ, ⟨by simp, by simp, rfl⟩, fun _ _ _ _ hp => by rw [hp.2.2]; exact hG, fun i x acc μ' hx hp => ?_, fun acc μ' hp => ?_⟩
  · obtain ⟨ea, hl, rfl⟩ := hp
    obtain ⟨ρ', h1, h2, h3⟩ := h x (List.mem_of_getElem? hx)
    refine ⟨ρ', h1, h2 _ ⟨fun hf => ?_, fun hf => ⟨?_, by omega, rfl⟩⟩⟩
    · obtain ⟨k1, k2⟩ := h3 hf
      refine k1 _ (k2 _ ⟨kf x, g x, rfl, rfl, hl, ?_, Nat.le_trans (length_pz _ _ _) (by omega), rfl⟩)
      rw [take_filter hx, if_pos hf, List.foldl_append, ← ea]
      rfl
    · rw [take_filter hx, hf, ea]
      simp
  · obtain ⟨rfl, _, rfl⟩ := hp
    rw [List.take_length]
    exact q
/-- {k: v for tg in iter [if c]} -/
theorem p_dcW [Calm C] {scope : Scope} {own : List (Str × Nat)} {t : Tg} {items : List XV} {kf : XV → Key} {g : XV → D} {f : XV → Bool} (ht : TgOk (C.blk scope) tg t) (nd : C.N.Nodup) (ok : BlkOk C.N C.sc scope own) (hsl : ∀ j ∈ t.slots, j ∈ own.map (·.2)) (hi : PWk C tg iter ρ μ E items) (hz : items.length ≤ sizeLine)
    (h : ∀ x ∈ items, ∃ ρ', t.put x (wipeE ρ (own.map (·.2))) ρ' ∧ PIf (C.blk scope) ifs ρ' μ (f x) ∧ (f x = true → PV (C.blk scope) kx ρ' μ noE (.d (keyD (kf x))) ∧ PV (C.blk scope) vx ρ' μ noE (.d (g x)))) (hs : ∀ env x, foldedSetIterable iter env x = pure x := by intro _ _; rfl) :
    PV C (.DictComp kx vx [⟨tg, iter, ifs, 0⟩] scope pos) ρ μ E (.d (D.dc ((items.filter f).foldl (fun acc x => pz acc (kf x) (g x)) []))) := fun Q q =>
  we_dc ht nd ok hsl (wi_dcW hi hz h q) hs
theorem w1_setDcP [Calm C] {D0 : DEnds} {scope : Scope} {own : List (Str × Nat)} {t : Tg} {items : List XV} {kf : XV → Key} {g : XV → D} {f : XV → Bool} {i : Nat} {y : Str} {py spos : Pos} (n : C.Nm i y) (hyl : C.sc.names.lookup y = some .local) (ht : TgOk (C.blk scope) tg t) (ok : BlkOk C.N C.sc scope own) (hsl : ∀ j ∈ t.slots, j ∈ own.map (·.2)) (hi : PWk C tg iter ρ μ E items) (hz : items.length ≤ sizeLine)
    (h : ∀ x ∈ items, ∃ ρ', t.put x (wipeE ρ (own.map (·.2))) ρ' ∧ PIf (C.blk scope) ifs ρ' μ (f x) ∧ (f x = true → PV (C.blk scope) kx ρ' μ noE (.d (keyD (kf x))) ∧ PV (C.blk scope) vx ρ' μ noE (.d (g x))))
    (q : D0.nx (ρ.set i (some (.d (D.dc ((items.filter f).foldl (fun acc x => pz acc (kf x) (g x)) []))))) μ) (hk : C.sc.kind = .function) (hl : (py.line == pos.line) = true) (ha : (scope.names.any fun (n, k) => n == y && (k == .local || k == .cell)) = false)
    (hs : ∀ env x, foldedSetIterable iter env x = pure x := by intro _ _; rfl) : WS1 C (.Assign [.Name y py] (.DictComp kx vx [⟨tg, iter, ifs, 0⟩] scope pos) spos) ρ μ E D0 :=
  w1_setDc n hyl ht ok hsl (wi_dcW hi hz h q) hk hl ha hs
end
/-! ### keys that differ -/
theorem pz_new {α : Type} {ps : List (Key × α)} {k : Key} {x : α} (h : k ∉ ps.map (·.1)) : pz ps k x = ps ++ [(k, x)] := by
  unfold pz
  rw [if_neg]
  rw [List.any_eq_true]
  rintro ⟨p, hp, e⟩
  exact h (List.mem_map.mpr ⟨p, hp, of_decide_eq_true e⟩)
theorem fold_pz {α β : Type} (kf : β → Key) (g : β → α) : ∀ (l : List β) (ps : List (Key × α)), (ps.map (·.1) ++ l.map kf).Nodup → l.foldl (fun acc x => pz acc (kf x) (g x)) ps = ps ++ l.map fun x => (kf x, g x)
  | [], ps, _ => by simp
  | x :: l, ps, h => by
    have hn : kf x ∉ ps.map (·.1) := fun m => by
      rw [List.nodup_append] at h
      exact h.2.2 _ m _ (by simp) rfl
    rw [List.foldl_cons, pz_new hn, fold_pz kf g l (ps ++ [(kf x, g x)]) (by
      rw [List.map_append, List.append_assoc]
      simpa using h), List.append_assoc]
    rfl
theorem fold_pz0 {α β : Type} {kf : β → Key} {g : β → α} {l : List β} (h : (l.map kf).Nodup) : l.foldl (fun acc x => pz acc (kf x) (g x)) [] = l.map fun x => (kf x, g x) := by
  rw [fold_pz kf g l [] (by simpa using h)]
  rfl
/-! ### pure -/
section
variable {C : SC} {E : EPost} {ρ : Env} {μ : Mem} {a b e o i f : Expr} {p p2 pos apos cpos : Pos} {x : XV} {ps : List (Key × XV)} {k : Key}
theorem p_dget {z : XV} (ho : PV C o ρ μ E x) (da : DAt μ x ps) (hi : PV C i ρ μ E (.d (keyD k))) (hz : vz ps k = some z) (hs : NoSl i := by exact fun _ _ => rfl) : PV C (.Subscript o i pos) ρ μ E z := fun Q q =>
  we_dget (ho _ (hi _ ⟨ps, k, z, da, rfl, hz, q⟩)) hs
theorem o_inD (da : DAt μ x ps) : OpB C .In (.d (keyD k)) x μ (vz ps k).isSome := fun Q q => go_in_dct da q
theorem o_ninD (da : DAt μ x ps) : OpB C .NotIn (.d (keyD k)) x μ (!(vz ps k).isSome) := fun Q q => go_nin_dct da q
theorem p_dget2 {z : XV} (ho : PV C o ρ μ E x) (da : DAt μ x ps) (he : PV C e ρ μ E (.d (keyD k))) (hf : PV C f ρ μ E z) (m : ∀ X : Cx, M2 X o "get" apos e f cpos := by exact fun _ => ⟨rfl, rfl, rfl, rfl⟩) : PV C (.Call (.Attribute o "get" apos) [e, f] [] cpos) ρ μ E ((vz ps k).getD z) := fun Q q =>
  we_dget2 (ho _ ⟨⟨ps, da⟩, he _ (hf _ ⟨ps, k, da, rfl, q⟩)⟩) m
theorem p_lenDct (hlen : C.mg "len" = none) (hg : C.Glob "len") (h : PV C e ρ μ E x) (da : DAt μ x ps) (he : ∀ env, starEach [e] env = (false, eval e env) :: starEach [] env := by intro _; rfl) : PV C (.Call (.Name "len" p) [e] [] pos) ρ μ E (.d (.int (ps.length : Int))) := fun Q q =>
  we_callB hg hlen (by decide +kernel) (.inl ⟨_, rfl⟩) (pa_cs h pa_nl he _ (gc_len_dct da q)) (by decide) (by decide) he
theorem p_listDct [Calm C] (B : Blts C.mg) (hg : C.Glob "list") (h : PV C e ρ μ E x) (da : DAt μ x ps) (he : ∀ env, starEach [e] env = (false, eval e env) :: starEach [] env := by intro _; rfl) : PV C (.Call (.Name "list" p) [e] [] pos) ρ μ E (.d (.lst (ps.map fun p => keyD p.1))) := fun Q q =>
  we_callB hg B.list bt_list (.inr ⟨_, rfl⟩) (pa_cs h pa_nl he _ (gc_list_dct da q)) (by decide) (by decide) he
theorem p_sortedDct [Calm C] (B : Blts C.mg) (hg : C.Glob "sorted") (h : PV C e ρ μ E x) (da : DAt μ x ps) (hal : PySem.W.AllAlike ((ps.map (·.1)).map fun k => (keyD k).py)) (he : ∀ env, starEach [e] env = (false, eval e env) :: starEach [] env := by intro _; rfl) : PV C (.Call (.Name "sorted" p) [e] [] pos) ρ μ E (.d (.lst ((sortK (ps.map (·.1))).map keyD))) := fun Q q =>
  we_callB hg B.sorted bt_sorted (.inl ⟨_, rfl⟩) (pa_cs h pa_nl he _ (gc_sortedD rfl da hal q)) (by decide) (by decide) he
theorem p_dictDct {ps : List (Key × D)} (B : Blts C.mg) (hg : C.Glob "dict") (h : PV C e ρ μ E x) (da : DAt μ x (ps.map fun p => (p.1, XV.d p.2))) (he : ∀ env, starEach [e] env = (false, eval e env) :: starEach [] env := by intro _; rfl) : PV C (.Call (.Name "dict" p) [e] [] pos) ρ μ E (.d (D.dc ps)) := fun Q q =>
  we_callB hg B.dict (by decide +kernel) (.inr ⟨_, rfl⟩) (pa_cs h pa_nl he _ (gc_dict_dct da q)) (by decide) (by decide) he
theorem p_listVDct [Calm C] {ps : List (Key × D)} (B : Blts C.mg) (hg : C.Glob "list") (h : PV C e ρ μ E x) (da : DAt μ x (ps.map fun p => (p.1, XV.d p.2)))
    (hbase : ∀ env, attributeBase e "values" env (eval e env) = eval e env := by intro _; rfl) (hline : (apos.endLine == cpos.line) = true := by rfl)
    (hs : ∀ env, starEach [Expr.Call (.Attribute e "values" apos) [] [] cpos] env = (false, eval (.Call (.Attribute e "values" apos) [] [] cpos) env) :: starEach [] env := by intro _; rfl) :
    PV C (.Call (.Name "list" p) [.Call (.Attribute e "values" apos) [] [] cpos] [] pos) ρ μ E (.d (.lst (ps.map (·.2)))) := fun Q q => we_listV B hg (h _ ⟨ps, da, q⟩) hbase hline hs
theorem o_eqDct {y : XV} {ps qs : List (Key × D)} (dx : DAt μ x (ps.map fun p => (p.1, XV.d p.2))) (dy : DAt μ y (qs.map fun p => (p.1, XV.d p.2))) (op : ∀ p ∈ ps, p.2.okEq) (oq : ∀ p ∈ qs, p.2.okEq) : OpB C .Eq x y μ (dctEq ps qs) := fun Q q => go_eq_dct dx dy op oq q
theorem o_neDct {y : XV} {ps qs : List (Key × D)} (dx : DAt μ x (ps.map fun p => (p.1, XV.d p.2))) (dy : DAt μ y (qs.map fun p => (p.1, XV.d p.2))) (op : ∀ p ∈ ps, p.2.okEq) (oq : ∀ p ∈ qs, p.2.okEq) : OpB C .NotEq x y μ (!dctEq ps qs) := fun Q q => go_ne_dct dx dy op oq q
end
end DL
set_option maxRecDepth 100000
set_option maxHeartbeats 2000000
/-! DL30: list(text); == of lists of texts; things of any kind. -/
namespace DL
open PySem L2 PySem.Spec PyProof.Rows
section
variable {X : Cx}
theorem ones_at : ∀ {us : List Value} {l : List Nat}, us.length = l.length → (∀ (j : Nat) (v : Value), us[j]? = some v → ∃ (c : Nat) (t : Tok), l[j]? = some c ∧ v = Value.str ⟨#[c]⟩ t) → Vals (l.map fun c => V.str ⟨#[c]⟩) us
  | [], [], _, _ => .nil
  | u :: us, c :: l, hl, h => by
    obtain ⟨c', t, e1, rfl⟩ := h 0 u rfl
    cases (show some c = some c' from e1)
    exact .cons ⟨t, rfl⟩ (ones_at (by simpa using hl) fun j v e => h (j + 1) v (by simpa using e))
  | [], _ :: _, hl, _ => by cases hl
  | _ :: _, [], hl, _ => by cases hl
theorem cr_listT (hc : X.calm = true) : CallR X (.type "list") (fun xs H Q => ∃ (l : List Nat), xs = [.str (SX.S l)] ∧ l.length ≤ sizeLine ∧ ∀ p, H p = none → Q (.ref p) (upd H p (.lst (l.map fun c => V.str ⟨#[c]⟩)))) := by
  intro pins s σ H xs us Q I r h
  obtain ⟨l, rfl, hz, q⟩ := h
  obtain ⟨u, rfl, t, rfl⟩ := vals1 r
  have hs : (SX.S l).cps.size = l.length := by simp [SX.S]
  refine call_list_str (I.ok.hd hc) (SX.S l) t (hn := by rw [hs]; exact hz) fun h' tk acc c hk hS hacc => ?_
  have hv : Vals (l.map fun c => V.str ⟨#[c]⟩) acc.toList := ones_at (by rw [Array.length_toList, hacc.1, hs]) fun j v e => by
    obtain ⟨c, u, e1, e2⟩ := hacc.2 j v (by rw [← Array.getElem?_toList]; exact e)
    exact ⟨c, u, by rw [← e1]; simp [SX.S], e2⟩
  exact ⟨.ref s.heap.objs.size, _, I.laid (t' := tk) (o := .lst (l.map fun c => V.str ⟨#[c]⟩)) hk (Nat.le_refl _) ⟨by rw [List.length_map]; exact hz, acc.toList, c, hv, by rw [Array.toArray_toList]; exact hS⟩, rfl, q _ (I.hok.fresh (Nat.le_refl _))⟩
end
section
variable {C : SC} {E : EPost} {ρ : Env} {μ : Mem} {e : Expr} {Q : XV → Mem → Prop} {p pos : Pos}
theorem gc_list_txt [Calm C] {l : List Nat} (hz : l.length ≤ sizeLine) (q : Q (.d (.lst (l.map fun c => .txt [c]))) μ) : GoC C (.type "list") [.d (.txt l)] μ Q := fun X hX H w vs M rs => by
  obtain ⟨v, rfl, r⟩ := rs.one
  rw [show v = V.str (SX.S l) from r]
  exact cS_of (cr_listT (hX.calm Calm.h)) ⟨l, rfl, hz, fun p hp => lift.new M hp (x := .lst (l.map fun c => .txt [c])) (fun nl => ⟨p, _, rfl, nl, upd_same, reps_txt⟩) q⟩
theorem gc_list_txtC [Calm C] {l : List Nat} (hz : l.length ≤ sizeLine) (q : Q (.l μ.length) (μ ++ [some (.lst (l.map fun c => XV.d (.txt [c])))])) : GoC C (.type "list") [.d (.txt l)] μ Q := fun X hX H w vs M rs => by
  obtain ⟨v, rfl, r⟩ := rs.one
  rw [show v = V.str (SX.S l) from r]
  refine cS_of (cr_listT (hX.calm Calm.h)) ⟨l, rfl, hz, fun p hp => lift.cell M hp ?_ q⟩
  have e : (l.map fun c => XV.d (.txt [c])) = (l.map fun c => D.txt [c]).map XV.d := by rw [List.map_map]; rfl
  rw [e]
  exact Reps.xs reps_txt
theorem p_listT [Calm C] {l : List Nat} (B : Blts C.mg) (hg : C.Glob "list") (h : PV C e ρ μ E (.d (.txt l))) (hz : l.length ≤ sizeLine) (he : ∀ env, starEach [e] env = (false, eval e env) :: starEach [] env := by intro _; rfl) : PV C (.Call (.Name "list" p) [e] [] pos) ρ μ E (.d (.lst (l.map fun c => .txt [c]))) :=
  p_blt hg B.list bt_list (.inr ⟨_, rfl⟩) (pa_cs h pa_nl he) (fun _ q => gc_list_txt hz q) (by decide) (by decide) he
/-- list(x), a cell -/
theorem we_listTC [Calm C] (B : Blts C.mg) (hg : C.Glob "list") (h : WE C e ρ μ E fun x μ1 => ∃ l : List Nat, x = .d (.txt l) ∧ l.length ≤ sizeLine ∧ Q (.l μ1.length) (μ1 ++ [some (.lst (l.map fun c => XV.d (.txt [c])))])) (he : ∀ env, starEach [e] env = (false, eval e env) :: starEach [] env := by intro _; rfl) : WE C (.Call (.Name "list" p) [e] [] pos) ρ μ E Q :=
  we_callB hg B.list bt_list (.inr ⟨_, rfl⟩) (wa_cons (h.cont fun x μ1 ⟨l, ex, hz, q⟩ => by subst ex; exact wa_nil (gc_list_txtC hz q)) he) (by decide) (by decide) he
theorem we_listLC (B : Blts C.mg) (hg : C.Glob "list") (h : WE C e ρ μ E fun x μ1 => ∃ ds : List D, x = .d (.lst ds) ∧ Q (.l μ1.length) (μ1 ++ [some (.lst (ds.map XV.d))])) (he : ∀ env, starEach [e] env = (false, eval e env) :: starEach [] env := by intro _; rfl) : WE C (.Call (.Name "list" p) [e] [] pos) ρ μ E Q :=
  we_callB hg B.list bt_list (.inr ⟨_, rfl⟩) (wa_cons (h.cont fun x μ1 ⟨ds, ex, q⟩ => by subst ex; exact wa_nil (gc_list_lstC q)) he) (by decide) (by decide) he
end
/-! ### texts -/
def uni (l : List Nat) : Bool := l.all (· < 1114112)
theorem uni_iff {l : List Nat} : uni l = true ↔ ∀ c ∈ l, c < 1114112 := by unfold uni; rw [List.all_eq_true]; simp
theorem plain_txts : ∀ {ls : List (List Nat)}, (∀ l ∈ ls, uni l = true) → D.plains (ls.map D.txt) = true
  | [], _ => by simp [D.plains]
  | l :: ls, h => by
    rw [List.map_cons]
    unfold D.plains D.plain
    rw [Bool.and_eq_true]
    exact ⟨h l List.mem_cons_self, plain_txts fun l hl => h l (List.mem_cons_of_mem _ hl)⟩
theorem depth_txts : ∀ {ls : List (List Nat)}, PyData.depthAll (D.pys (ls.map D.txt)) = 0
  | [] => by simp [D.pys, PyData.depthAll]
  | l :: ls => by
    rw [List.map_cons]
    unfold D.pys D.py
    rw [PyData.depthAll, depth_txts (ls := ls)]
    simp [PyData.depth]
theorem okEq_txts {ls : List (List Nat)} (h : ∀ l ∈ ls, uni l = true) : (D.lst (ls.map D.txt)).okEq := by
  refine ⟨?_, ?_⟩
  · unfold D.plain; exact plain_txts h
  · unfold D.py; rw [PyData.depth, depth_txts]; decide
theorem okEq_txt {l : List Nat} (h : uni l = true) : (D.txt l).okEq := by
  refine ⟨?_, ?_⟩
  · unfold D.plain; exact h
  · unfold D.py; simp [PyData.depth]
theorem S_beq (a b : List Nat) : (SX.S a == SX.S b) = decide (a = b) := by
  have := dec_S a b
  by_cases h : a = b
  · subst h; simp
  · rw [decide_eq_false h]
    exact beq_eq_false_iff_ne.mpr fun e => h (SX.S_inj e)
theorem eqvAll_txts : ∀ {ls ms : List (List Nat)}, PyData.eqvAll (D.pys (ls.map D.txt)) (D.pys (ms.map D.txt)) = decide (ls = ms)
  | [], [] => by simp [D.pys, PyData.eqvAll]
  | [], _ :: _ => by simp [D.pys, PyData.eqvAll]
  | _ :: _, [] => by simp [D.pys, PyData.eqvAll]
  | l :: ls, m :: ms => by
    rw [List.map_cons, List.map_cons]
    unfold D.pys D.py
    rw [PyData.eqvAll, eqvAll_txts, PyData.eqv, S_beq]
    by_cases h1 : l = m <;> by_cases h2 : ls = ms <;> simp [h1, h2]
theorem eqv_txts {ls ms : List (List Nat)} : PyData.eqv (D.lst (ls.map D.txt)).py (D.lst (ms.map D.txt)).py = decide (ls = ms) := by
  unfold D.py
  rw [PyData.eqv, eqvAll_txts]
section
variable {C : SC} {μ : Mem}
theorem o_eqTs {ls ms : List (List Nat)} (h1 : ∀ l ∈ ls, uni l = true) (h2 : ∀ l ∈ ms, uni l = true) : OpB C .Eq (.d (.lst (ls.map D.txt))) (.d (.lst (ms.map D.txt))) μ (decide (ls = ms)) := fun Q q => go_eq_d (okEq_txts h1) (okEq_txts h2) (by rw [eqv_txts]; exact q)
theorem o_neTs {ls ms : List (List Nat)} (h1 : ∀ l ∈ ls, uni l = true) (h2 : ∀ l ∈ ms, uni l = true) : OpB C .NotEq (.d (.lst (ls.map D.txt))) (.d (.lst (ms.map D.txt))) μ (!decide (ls = ms)) := fun Q q => go_ne_d (okEq_txts h1) (okEq_txts h2) (by rw [eqv_txts]; exact q)
theorem allD_txts : ∀ {ls : List (List Nat)}, allD (ls.map fun l => XV.d (.txt l)) = some (ls.map D.txt)
  | [] => rfl
  | l :: ls => by
    show (allD (ls.map fun l => XV.d (.txt l))).map _ = _
    rw [allD_txts]
    rfl
end
/-! ### things of any kind -/
inductive Kind where
  | non | bl | int | txt | lst | tup | dct
  deriving DecidableEq
def D.kind : D → Option Kind
  | .non => some .non
  | .bl _ => some .bl
  | .int _ => some .int
  | .txt _ => some .txt
  | .lst _ => some .lst
  | .tup _ => some .tup
  | .dct _ _ => some .dct
  | _ => none
def Kind.ty : Kind → String
  | .non => "NoneType"
  | .bl => "bool"
  | .int => "int"
  | .txt => "str"
  | .lst => "list"
  | .tup => "tuple"
  | .dct => "dict"
theorem kind_ty {K : PySem.W.Frag} {d : D} {k : Kind} (h : d.kind = some k) : TyD2 K (.d d) (.type k.ty) := by
  cases d <;> cases h <;> first | exact .non | exact .bl _ | exact .int _ | exact .txt _ | exact .lst _ | exact .tup _ | exact .dct _ _
/-- isinstance by kind -/
def Kind.isStr (k : Kind) : Bool := decide (k = .txt)
def Kind.isInt (k : Kind) : Bool := decide (k = .int) || decide (k = .bl)
def Kind.isBool (k : Kind) : Bool := decide (k = .bl)
def Kind.isDict (k : Kind) : Bool := decide (k = .dct)
def Kind.isList (k : Kind) : Bool := decide (k = .lst)
def Kind.isTuple (k : Kind) : Bool := decide (k = .tup)
theorem kb_str (k : Kind) : kitB k.ty "str" = some k.isStr := by cases k <;> decide +kernel
theorem kb_int (k : Kind) : kitB k.ty "int" = some k.isInt := by cases k <;> decide +kernel
theorem kb_bool (k : Kind) : kitB k.ty "bool" = some k.isBool := by cases k <;> decide +kernel
theorem kb_dict (k : Kind) : kitB k.ty "dict" = some k.isDict := by cases k <;> decide +kernel
theorem kb_list (k : Kind) : kitB k.ty "list" = some k.isList := by cases k <;> decide +kernel
theorem kb_tuple (k : Kind) : kitB k.ty "tuple" = some k.isTuple := by cases k <;> decide +kernel
section
variable {C : SC} {E : EPost} {ρ : Env} {μ : Mem} {e : Expr} {p p2 pos : Pos} {d : D} {k : Kind}
theorem p_isStr (B : Blts C.mg) (hg : C.Glob "isinstance") (hg2 : C.Glob "str") (hk : d.kind = some k) (h : PV C e ρ μ E (.d d)) (he : ∀ env, starEach [e, .Name "str" p2] env = (false, eval e env) :: starEach [.Name "str" p2] env := by intro _; rfl) : PV C (.Call (.Name "isinstance" p) [e, .Name "str" p2] [] pos) ρ μ E (.d (.bl k.isStr)) :=
  p_isi B hg h hg2 B.str bt_str (kind_ty hk) (kit1 (kb_str k)) (by decide) (by decide) he
theorem p_isInt (B : Blts C.mg) (hg : C.Glob "isinstance") (hg2 : C.Glob "int") (hk : d.kind = some k) (h : PV C e ρ μ E (.d d)) (he : ∀ env, starEach [e, .Name "int" p2] env = (false, eval e env) :: starEach [.Name "int" p2] env := by intro _; rfl) : PV C (.Call (.Name "isinstance" p) [e, .Name "int" p2] [] pos) ρ μ E (.d (.bl k.isInt)) :=
  p_isi B hg h hg2 B.int bt_int (kind_ty hk) (kit1 (kb_int k)) (by decide) (by decide) he
theorem p_isBool (B : Blts C.mg) (hg : C.Glob "isinstance") (hg2 : C.Glob "bool") (hk : d.kind = some k) (h : PV C e ρ μ E (.d d)) (he : ∀ env, starEach [e, .Name "bool" p2] env = (false, eval e env) :: starEach [.Name "bool" p2] env := by intro _; rfl) : PV C (.Call (.Name "isinstance" p) [e, .Name "bool" p2] [] pos) ρ μ E (.d (.bl k.isBool)) :=
  p_isi B hg h hg2 B.bool bt_bool (kind_ty hk) (kit1 (kb_bool k)) (by decide) (by decide) he
theorem p_isDict (B : Blts C.mg) (hg : C.Glob "isinstance") (hg2 : C.Glob "dict") (hk : d.kind = some k) (h : PV C e ρ μ E (.d d)) (he : ∀ env, starEach [e, .Name "dict" p2] env = (false, eval e env) :: starEach [.Name "dict" p2] env := by intro _; rfl) : PV C (.Call (.Name "isinstance" p) [e, .Name "dict" p2] [] pos) ρ μ E (.d (.bl k.isDict)) :=
  p_isi B hg h hg2 B.dict bt_dict (kind_ty hk) (kit1 (kb_dict k)) (by decide) (by decide) he
theorem p_isList (B : Blts C.mg) (hg : C.Glob "isinstance") (hg2 : C.Glob "list") (hk : d.kind = some k) (h : PV C e ρ μ E (.d d)) (he : ∀ env, starEach [e, .Name "list" p2] env = (false, eval e env) :: starEach [.Name "list" p2] env := by intro _; rfl) : PV C (.Call (.Name "isinstance" p) [e, .Name "list" p2] [] pos) ρ μ E (.d (.bl k.isList)) :=
  p_isi B hg h hg2 B.list bt_list (kind_ty hk) (kit1 (kb_list k)) (by decide) (by decide) he
theorem p_isTuple (B : Blts C.mg) (hg : C.Glob "isinstance") (hg2 : C.Glob "tuple") (hk : d.kind = some k) (h : PV C e ρ μ E (.d d)) (he : ∀ env, starEach [e, .Name "tuple" p2] env = (false, eval e env) :: starEach [.Name "tuple" p2] env := by intro _; rfl) : PV C (.Call (.Name "isinstance" p) [e, .Name "tuple" p2] [] pos) ρ μ E (.d (.bl k.isTuple)) :=
  p_isi B hg h hg2 B.tuple bt_tuple (kind_ty hk) (kit1 (kb_tuple k)) (by decide) (by decide) he
end
end DL
set_option maxRecDepth 100000
set_option maxHeartbeats 2000000
/-! DL31: signs and words, as plain lists. -/
namespace DL
open PySem L2 PySem.Spec PyProof.Rows
def small : List Nat := [97, 98, 99, 100, 101, 102, 103, 104, 105, 106, 107, 108, 109, 110, 111, 112, 113, 114, 115, 116, 117, 118, 119, 120, 121, 122]
section
variable {C : SC}
def insN (c : Nat) : List Nat → List Nat
  | [] => [c]
  | d :: r => if c < d then c :: d :: r else if c = d then d :: r else d :: insN c r
def riseN : List Nat → List Nat
  | [] => []
  | c :: l => insN c (riseN l)
theorem insN_mem {c x : Nat} : ∀ {l : List Nat}, x ∈ insN c l ↔ x = c ∨ x ∈ l
  | [] => by simp [insN]
  | d :: r => by
    unfold insN
    split
    · simp
    · split
      · rename_i h
        subst h
        simp
      · rw [List.mem_cons, insN_mem, List.mem_cons]
        exact ⟨fun h => h.elim (fun e => .inr (.inl e)) fun h => h.elim .inl fun h => .inr (.inr h), fun h => h.elim (fun e => .inr (.inl e)) fun h => h.elim .inl fun h => .inr (.inr h)⟩
theorem insN_rise {c : Nat} : ∀ {l : List Nat}, l.Pairwise (· < ·) → (insN c l).Pairwise (· < ·)
  | [], _ => List.pairwise_singleton _ _
  | d :: r, h => by
    obtain ⟨h1, h2⟩ := List.pairwise_cons.mp h
    unfold insN
    split
    · rename_i hc
      exact List.pairwise_cons.mpr ⟨fun x hx => (List.mem_cons.mp hx).elim (fun e => e ▸ hc) fun e => Nat.lt_trans hc (h1 x e), h⟩
    · split
      · exact h
      · exact List.pairwise_cons.mpr ⟨fun x hx => (insN_mem.mp hx).elim (fun e => by omega) (h1 x), insN_rise h2⟩
theorem riseN_mem {x : Nat} : ∀ {l : List Nat}, x ∈ riseN l ↔ x ∈ l
  | [] => Iff.rfl
  | c :: l => by rw [riseN, insN_mem, riseN_mem, List.mem_cons]
theorem riseN_rise : ∀ {l : List Nat}, (riseN l).Pairwise (· < ·)
  | [] => List.Pairwise.nil
  | _ :: _ => insN_rise riseN_rise
theorem riseN_eq {l cs : List Nat} (h : cs.Pairwise (· < ·)) (m : ∀ c, c ∈ cs ↔ c ∈ l) : cs = riseN l :=
  rise_uniq (fun a b h1 h2 => by omega) h riseN_rise fun c => (m c).trans riseN_mem.symm
theorem insN_len {c : Nat} : ∀ {l : List Nat}, (insN c l).length ≤ l.length + 1
  | [] => Nat.le_refl _
  | d :: r => by
    have := @insN_len c r
    unfold insN
    split
    · simp
    · split <;> simp
      omega
theorem riseN_len : ∀ {l : List Nat}, (riseN l).length ≤ l.length
  | [] => Nat.le_refl _
  | c :: l => by
    have := @riseN_len l
    have := @insN_len c (riseN l)
    rw [riseN, List.length_cons]
    omega
theorem p_sortSetT [Calm C] {E : EPost} {ρ : Env} {μ : Mem} {e : Expr} {l : List Nat} {p p2 pos pos2 : Pos} (B : Blts C.mg) (g1 : C.Glob "sorted") (g2 : C.Glob "set") (h : PV C e ρ μ E (.d (.txt l))) (hz : l.length + 1 < scanBound)
    (he : ∀ env, starEach [e] env = (false, eval e env) :: starEach [] env := by intro _; rfl) (he2 : ∀ env, starEach [Expr.Call (.Name "set" p2) [e] [] pos2] env = (false, eval (.Call (.Name "set" p2) [e] [] pos2) env) :: starEach [] env := by intro _; rfl) :
    PV C (.Call (.Name "sorted" p) [.Call (.Name "set" p2) [e] [] pos2] [] pos) ρ μ E (.d (.lst (((riseN l).map fun c => [c]).map D.txt))) := fun Q q =>
  we_sortSetT B g1 g2 (h _ ⟨l, rfl, hz, fun cs h1 h2 => by
    rw [riseN_eq h1 h2]
    rw [List.map_map] at q
    exact q⟩) he he2
end
/-! ### signs, words -/
def isSigns (l : List Nat) : Bool := (decide (1 ≤ (l.length : Int)) && decide ((l.length : Int) ≤ 4)) && (l.all (fun c => decide (c ∈ small)) && (l.zip (l.drop 1)).all fun p => decide ([p.1] < [p.2]))
def isWord (l g : List Nat) : Bool := decide ((l.length : Int) ≤ 60) && l.all fun c => decide (c ∈ g)
def isSignsD : D → Bool
  | .txt l => isSigns l
  | _ => false
def isWordD (d : D) (g : List Nat) : Bool := match d with
  | .txt l => isWord l g
  | _ => false
/-- a thing that may be handed in -/
def Thing (d : D) : Prop := (∃ k, d.kind = some k) ∧ ∀ l, d = .txt l → l.length ≤ 4000 ∧ uni l = true
theorem one_lt {a b : Nat} : ([a] < [b]) ↔ a < b := by
  constructor
  · intro h
    rcases List.cons_lt_cons_iff.mp h with h | h
    · exact h
    · exact absurd h.2 (List.lt_irrefl _)
  · intro h
    exact List.cons_lt_cons_iff.mpr (.inl h)
theorem adj_rise : ∀ {l : List Nat}, ((l.zip (l.drop 1)).all fun p => decide ([p.1] < [p.2])) = true ↔ l.Pairwise (· < ·)
  | [] => by simp
  | [a] => by simp
  | a :: b :: r => by
    have ih := @adj_rise (b :: r)
    simp only [List.drop_succ_cons, List.drop_zero] at ih ⊢
    rw [List.zip_cons_cons, List.all_cons, Bool.and_eq_true, ih, decide_eq_true_eq, one_lt]
    constructor
    · rintro ⟨h1, h2⟩
      refine List.pairwise_cons.mpr ⟨fun x hx => ?_, h2⟩
      rcases List.mem_cons.mp hx with e | e
      · rw [e]; exact h1
      · exact Nat.lt_trans h1 ((List.pairwise_cons.mp h2).1 x e)
    · intro h
      obtain ⟨h1, h2⟩ := List.pairwise_cons.mp h
      exact ⟨h1 b List.mem_cons_self, h2⟩
/-- signs: one to four small letters, rising -/
theorem isSigns_iff {l : List Nat} : isSigns l = true ↔ 1 ≤ l.length ∧ l.length ≤ 4 ∧ (∀ c ∈ l, c ∈ small) ∧ l.Pairwise (· < ·) := by
  unfold isSigns
  rw [Bool.and_eq_true, Bool.and_eq_true, Bool.and_eq_true, adj_rise, List.all_eq_true, decide_eq_true_eq, decide_eq_true_eq]
  simp only [decide_eq_true_eq]
  constructor
  · rintro ⟨⟨h1, h2⟩, h3, h4⟩
    exact ⟨by omega, by omega, h3, h4⟩
  · rintro ⟨h1, h2, h3, h4⟩
    exact ⟨⟨by omega, by omega⟩, h3, h4⟩
/-- words as they rise, each once, shorter ones first -/
def rising (ls : List (List Nat)) : List (List Nat) := sortLen (riseT ls)
/-- all words of so many letters -/
def allWords (g : List Nat) : Nat → List (List Nat)
  | 0 => [[]]
  | n + 1 => (allWords g n).flatMap fun w => g.map fun c => w ++ [c]
theorem allWords_len {g : List Nat} : ∀ {n : Nat} {w : List Nat}, w ∈ allWords g n → w.length = n
  | 0, w, h => by rw [List.mem_singleton.mp h]; rfl
  | n + 1, w, h => by
    obtain ⟨v, hv, hw⟩ := List.mem_flatMap.mp h
    obtain ⟨c, _, rfl⟩ := List.mem_map.mp hw
    rw [List.length_append, allWords_len hv]; rfl
theorem allWords_many {g : List Nat} : ∀ {n : Nat}, (allWords g n).length = g.length ^ n
  | 0 => rfl
  | n + 1 => by
    rw [allWords, List.length_flatMap]
    have : (allWords g n).map (fun w => (g.map fun c => w ++ [c]).length) = List.replicate (allWords g n).length g.length := by
      simp [List.map_const']
    rw [this, List.sum_replicate_nat, allWords_many, Nat.pow_succ]
theorem mem_allWords {g : List Nat} : ∀ {n : Nat} {w : List Nat}, w ∈ allWords g n ↔ w.length = n ∧ ∀ c ∈ w, c ∈ g
  | 0, w => by
    rw [allWords, List.mem_singleton, List.length_eq_zero_iff]
    constructor
    · rintro rfl; exact ⟨rfl, by simp⟩
    · exact fun h => h.1
  | n + 1, w => by
    rw [allWords, List.mem_flatMap]
    constructor
    · rintro ⟨v, hv, hw⟩
      obtain ⟨c, hc, rfl⟩ := List.mem_map.mp hw
      obtain ⟨h1, h2⟩ := mem_allWords.mp hv
      refine ⟨by rw [List.length_append, h1]; rfl, fun d hd => ?_⟩
      rcases List.mem_append.mp hd with e | e
      · exact h2 d e
      · rw [List.mem_singleton.mp e]; exact hc
    · rintro ⟨h1, h2⟩
      obtain ⟨v, c, rfl⟩ : ∃ v c, w = v ++ [c] := by
        rcases List.eq_nil_or_concat w with e | ⟨v, c, e⟩
        · rw [e] at h1; cases h1
        · exact ⟨v, c, by simpa using e⟩
      refine ⟨v, mem_allWords.mpr ⟨by simpa using h1, fun d hd => h2 d (List.mem_append_left _ hd)⟩, List.mem_map.mpr ⟨c, h2 c (by simp), rfl⟩⟩
end DL
set_option maxRecDepth 100000
set_option maxHeartbeats 2000000
/-! DL32: sorted of a cell; letters sorted; words in order. -/
namespace DL
open PySem L2 PySem.Spec PyProof.Rows PySem.W
section
variable {C : SC} {E : EPost} {ρ : Env} {μ : Mem} {e : Expr} {Q : XV → Mem → Prop} {p pos : Pos}
/-- sorted(x), x a cell that is a list of data -/
theorem gc_sortedC {n : Nat} {ds : List D} (hm : μ[n]? = some (some (.lst (ds.map XV.d)))) (ok : SortOk ds) (q : Q (.d (.lst (sortD ds))) μ) : GoC C (.builtin "sorted") [.l n] μ Q := fun X hX H w vs M rs => by
  obtain ⟨v, rfl, r⟩ := rs.one
  obtain ⟨a, ha, rfl⟩ := r
  obtain ⟨us, e1, rx⟩ := M.holds n _ a hm ha
  have rr : Reps C.K (Live μ w) H ds us := RepXs.reps rx
  refine cS_of (cr_sorted (room_u hX)) ⟨a, us, ds, Live μ w, rfl, SqL.of e1, by rw [hX.K]; exact rr, ok, fun p vs' hp r' => ?_⟩
  refine lift.new M hp (x := .lst (sortD ds)) (fun nl => ⟨p, vs', rfl, nl, upd_same, ?_⟩) q
  rw [hX.K] at r'
  exact Reps.mono (fun a u e nl => ⟨upd_grow hp a u e, nl⟩) _ _ r'
theorem p_sortedC {n : Nat} {ds : List D} (B : Blts C.mg) (g1 : C.Glob "sorted") (h : PV C e ρ μ E (.l n)) (hm : μ[n]? = some (some (.lst (ds.map XV.d)))) (ok : SortOk ds) (he : ∀ env, starEach [e] env = (false, eval e env) :: starEach [] env := by intro _; rfl) : PV C (.Call (.Name "sorted" p) [e] [] pos) ρ μ E (.d (.lst (sortD ds))) := fun Q q =>
  we_callB g1 B.sorted bt_sorted (.inl ⟨_, rfl⟩) (pa_cs h pa_nl he _ (gc_sortedC hm ok q)) (by decide) (by decide) he
end
/-! ### letters sorted -/
abbrev sgD (c : Nat) : D := .txt [c]
theorem alike_txts (ls : List (List Nat)) : AllAlike ((ls.map D.txt).map D.py) := fun d hd d' hd' => by
  obtain ⟨x, hx, rfl⟩ := List.mem_map.mp hd
  obtain ⟨l, _, rfl⟩ := List.mem_map.mp hx
  obtain ⟨x', hx', rfl⟩ := List.mem_map.mp hd'
  obtain ⟨l', _, rfl⟩ := List.mem_map.mp hx'
  unfold D.py
  simp [alike]
theorem sortOk_txts {ls : List (List Nat)} (h : ∀ l ∈ ls, uni l = true) : SortOk (ls.map D.txt) where
  plain := fun d hd => by
    obtain ⟨l, hl, rfl⟩ := List.mem_map.mp hd
    unfold D.plain
    exact h l hl
  alike := alike_txts ls
  srt := .inr fun d hd => by
    obtain ⟨x, hx, rfl⟩ := List.mem_map.mp hd
    obtain ⟨l, _, rfl⟩ := List.mem_map.mp hx
    unfold D.py
    exact ⟨(fun e => nomatch e), fun xs e => nomatch e⟩
  depth := fun d hd => by
    obtain ⟨l, hl, rfl⟩ := List.mem_map.mp hd
    unfold D.py
    simp [PyData.depth]
theorem sortD_txts (ls : List (List Nat)) : sortD (ls.map D.txt) = (ls.mergeSort fun a b : List Nat => decide (a ≤ b)).map D.txt := by
  unfold sortD
  have e : (fun a b : List Nat => decide (a ≤ b)) = fun a b => dataLe false D.py (D.txt a) (D.txt b) := by
    funext a b
    have := congrFun (congrFun (dataLe_str fun l : List Nat => SX.S l) a) b
    have e2 : dataLe false D.py (D.txt a) (D.txt b) = dataLe false (fun l : List Nat => PyData.str (SX.S l)) a b := by
      show _ = dataLe false (fun l : List Nat => PyData.str (SX.S l)) a b
      rw [dataLe_eq, dataLe_eq]
      show cond false _ (!dataLt (D.txt b).py (D.txt a).py) = _
      unfold D.py
      rfl
    rw [e2, this]
  rw [e]
  exact (List.map_mergeSort (f := D.txt) (r := fun a b => dataLe false D.py (D.txt a) (D.txt b)) (s := dataLe false D.py) fun a _ b _ => rfl).symm
theorem one_le {a b : Nat} : ([a] ≤ [b]) ↔ a ≤ b := by
  rw [← Std.not_lt, one_lt]
  omega
theorem sort_ones (l : List Nat) : (l.map fun c => [c]).mergeSort (fun a b : List Nat => decide (a ≤ b)) = (l.mergeSort fun a b => decide (a ≤ b)).map fun c => [c] := by
  refine (List.map_mergeSort (r := fun a b : Nat => decide (a ≤ b)) fun a _ b _ => ?_).symm
  exact decide_eq_decide.mpr one_le.symm
/-- unlike letters, sorted -/
theorem sort_rise {l : List Nat} (nd : l.Nodup) : (l.mergeSort fun a b => decide (a ≤ b)) = riseN l := by
  have pm := List.mergeSort_perm l fun a b => decide (a ≤ b)
  refine riseN_eq ?_ fun c => pm.mem_iff
  have h1 : (l.mergeSort fun a b => decide (a ≤ b)).Pairwise fun a b => decide (a ≤ b) = true := List.pairwise_mergeSort (le := fun a b : Nat => decide (a ≤ b)) (fun a b c h1 h2 => decide_eq_true (Nat.le_trans (of_decide_eq_true h1) (of_decide_eq_true h2))) (fun a b => by
    rw [Bool.or_eq_true, decide_eq_true_eq, decide_eq_true_eq]
    exact Nat.le_total a b) l
  have h2 : (l.mergeSort fun a b => decide (a ≤ b)).Nodup := pm.nodup_iff.mpr nd
  exact (h1.and h2).imp fun {a b} h => Nat.lt_of_le_of_ne (of_decide_eq_true h.1) h.2
theorem sortD_letters {l : List Nat} (nd : l.Nodup) : sortD (l.map sgD) = (riseN l).map sgD := by
  have e : l.map sgD = (l.map fun c => [c]).map D.txt := by rw [List.map_map]; rfl
  rw [e, sortD_txts, sort_ones, sort_rise nd, List.map_map]
  rfl
theorem riseN_len_nd {l : List Nat} (nd : l.Nodup) : (riseN l).length = l.length := by
  rw [← sort_rise nd, List.length_mergeSort]
theorem small_uni {c : Nat} (h : c ∈ small) : c < 1114112 := by
  have : ∀ c ∈ small, c < 1114112 := by decide
  exact this c h
theorem uni_small {l : List Nat} (h : ∀ c ∈ l, c ∈ small) : uni l = true := uni_iff.mpr fun c hc => small_uni (h c hc)
/-- letters that may be signs -/
theorem signs_of {l : List Nat} (nd : l.Nodup) (h1 : 1 ≤ l.length) (h2 : l.length ≤ 4) (h : ∀ c ∈ l, c ∈ small) : isSigns (riseN l) = true :=
  isSigns_iff.mpr ⟨by rw [riseN_len_nd nd]; exact h1, by rw [riseN_len_nd nd]; exact h2, fun c hc => h c (riseN_mem.mp hc), riseN_rise⟩
/-! ### words in order -/
/-- shorter first, of one length as texts are -/
def wlt (a b : List Nat) : Prop := a.length < b.length ∨ (a.length = b.length ∧ a < b)
theorem wlt_asym (a b : List Nat) (h1 : wlt a b) (h2 : wlt b a) : False := by
  rcases h1 with h1 | ⟨e1, h1⟩ <;> rcases h2 with h2 | ⟨e2, h2⟩
  · omega
  · omega
  · omega
  · exact List.lt_asymm h1 h2
theorem rising_mem {ls : List (List Nat)} {l : List Nat} : l ∈ rising ls ↔ l ∈ ls := by
  unfold rising sortLen
  rw [(List.mergeSort_perm _ _).mem_iff, riseT_mem]
theorem rising_lt (ls : List (List Nat)) : (rising ls).Pairwise wlt := by
  have tr : ∀ a b c : List Nat, decide (a.length ≤ b.length) = true → decide (b.length ≤ c.length) = true → decide (a.length ≤ c.length) = true := fun a b c h1 h2 => decide_eq_true (Nat.le_trans (of_decide_eq_true h1) (of_decide_eq_true h2))
  have tot : ∀ a b : List Nat, (decide (a.length ≤ b.length) || decide (b.length ≤ a.length)) = true := fun a b => by
    rw [Bool.or_eq_true, decide_eq_true_eq, decide_eq_true_eq]
    exact Nat.le_total _ _
  have h1 : (rising ls).Pairwise fun a b => decide (a.length ≤ b.length) = true := List.pairwise_mergeSort tr tot _
  have rl := riseT_lt ls
  have nd0 : (riseT ls).Nodup := rl.imp fun {a b} (h : a < b) (e : a = b) => List.lt_irrefl a (e ▸ h)
  have nd : (rising ls).Nodup := (List.mergeSort_perm _ _).nodup_iff.mpr nd0
  rw [List.pairwise_iff_forall_sublist]
  intro a b hs
  have hle : a.length ≤ b.length := of_decide_eq_true (List.pairwise_iff_forall_sublist.mp h1 hs)
  have hne : a ≠ b := List.pairwise_iff_forall_sublist.mp nd hs
  rcases Nat.lt_or_ge a.length b.length with hl | hg
  · exact .inl hl
  · have he : a.length = b.length := by omega
    refine .inr ⟨he, ?_⟩
    have ma : a ∈ riseT ls := (List.mergeSort_perm _ _).mem_iff.mp (hs.subset (by simp))
    have mb : b ∈ riseT ls := (List.mergeSort_perm _ _).mem_iff.mp (hs.subset (by simp))
    -- in riseT one stands ahead of the other
    have two : ∀ (l : List (List Nat)) (x y : List Nat), x ∈ l → y ∈ l → x ≠ y → List.Sublist [x, y] l ∨ List.Sublist [y, x] l := by
      intro l
      induction l with
      | nil => intro x y hx; cases hx
      | cons z l ih =>
        intro x y hx hy hn
        rcases List.mem_cons.mp hx with ex | hx
        · rcases List.mem_cons.mp hy with ey | hy
          · exact absurd (ex.trans ey.symm) hn
          · rw [ex]
            exact .inl (List.Sublist.cons_cons _ (List.singleton_sublist.mpr hy))
        · rcases List.mem_cons.mp hy with ey | hy
          · rw [ey]
            exact .inr (List.Sublist.cons_cons _ (List.singleton_sublist.mpr hx))
          · rcases ih x y hx hy hn with h | h
            · exact .inl (h.cons _)
            · exact .inr (h.cons _)
    rcases two _ a b ma mb hne with h | h
    · exact List.pairwise_iff_forall_sublist.mp rl h
    · have hb : List.Sublist [b, a] (rising ls) := List.pair_sublist_mergeSort tr tot (by simp [he]) h
      exfalso
      have hlt1 : ∀ (l : List (List Nat)), l.Nodup → List.Sublist [a, b] l → List.Sublist [b, a] l → False := by
        intro l
        induction l with
        | nil => intro _ h; cases h
        | cons z l ih =>
          intro hnd h1 h2
          obtain ⟨hz, hnd⟩ := List.nodup_cons.mp hnd
          cases h1 with
          | cons _ h1 =>
            cases h2 with
            | cons _ h2 => exact ih hnd h1 h2
            | cons_cons _ h2 => exact hz (h1.subset (by simp))
          | cons_cons _ h1 =>
            cases h2 with
            | cons _ h2 => exact hz (h2.subset (by simp))
            | cons_cons _ h2 => exact hne rfl
      exact hlt1 _ nd hs hb
/-- another way to put them in order -/
theorem rising_eq {ls ms : List (List Nat)} (h : ms.Pairwise wlt) (m : ∀ l, l ∈ ms ↔ l ∈ ls) : ms = rising ls :=
  rise_uniq (lt := wlt) (fun a b h1 h2 => wlt_asym a b h1 h2) h (rising_lt ls) fun l => (m l).trans rising_mem.symm
/-- by lengths -/
def byLen (ls : List (List Nat)) (n : Nat) : List (List Nat) := (List.range n).flatMap fun k : Nat => riseT (ls.filter fun l => decide ((l.length : Int) = (k : Int)))
theorem byLen_succ (ls : List (List Nat)) (n : Nat) : byLen ls (n + 1) = byLen ls n ++ riseT (ls.filter fun l => decide ((l.length : Int) = n)) := by
  unfold byLen
  rw [List.range_succ, List.flatMap_append]
  simp
theorem byLen_mem {ls : List (List Nat)} {n : Nat} {l : List Nat} : l ∈ byLen ls n ↔ l ∈ ls ∧ l.length < n := by
  unfold byLen
  rw [List.mem_flatMap]
  constructor
  · rintro ⟨k, hk, hl⟩
    obtain ⟨h1, h2⟩ := List.mem_filter.mp (riseT_mem.mp hl)
    have h2 := of_decide_eq_true h2
    exact ⟨h1, by have := List.mem_range.mp hk; omega⟩
  · rintro ⟨h1, h2⟩
    exact ⟨l.length, List.mem_range.mpr h2, riseT_mem.mpr (List.mem_filter.mpr ⟨h1, by simp⟩)⟩
theorem byLen_lt (ls : List (List Nat)) : ∀ n : Nat, (byLen ls n).Pairwise wlt
  | 0 => by show List.Pairwise wlt []; exact List.Pairwise.nil
  | n + 1 => by
    rw [byLen_succ, List.pairwise_append]
    refine ⟨byLen_lt ls n, ?_, fun a ha b hb => ?_⟩
    · have h2 : ∀ l ∈ riseT (ls.filter fun l => decide ((l.length : Int) = n)), l.length = n := fun l hl => by
        have := of_decide_eq_true (List.mem_filter.mp (riseT_mem.mp hl)).2
        omega
      exact ((riseT_lt _).imp_of_mem fun {a b} ha hb h => .inr ⟨(h2 a ha).trans (h2 b hb).symm, h⟩)
    · have h1 := (byLen_mem.mp ha).2
      have h2 := of_decide_eq_true (List.mem_filter.mp (riseT_mem.mp hb)).2
      exact .inl (by omega)
theorem byLen_rising {ls : List (List Nat)} {n : Nat} (h : ∀ l ∈ ls, l.length < n) : byLen ls n = rising ls :=
  rising_eq (byLen_lt ls n) fun l => by
    rw [byLen_mem]
    exact ⟨fun x => x.1, fun x => ⟨x, h l x⟩⟩
end DL
set_option maxRecDepth 100000
set_option maxHeartbeats 2000000
/-! DL33: text[::-1], upper, append, pop, clear. -/
namespace DL
open PySem L2 PySem.Spec PyProof.Rows
section
variable {X : Cx} {e : Expr} {te : TE} {k : Nat} {p1 p2 p3 pos : Pos}
def qRevT (Q : VK) : V → Hp → Prop := fun x H => ∃ l : List Nat, x = .str (SX.S l) ∧ l.length ≤ sizeLine ∧ Q (.str (SX.S l.reverse)) H
def tRevT (te : TE) : TE := fun σ H Q => te σ H (qRevT Q)
theorem pe_revT (he : PE X e te) : PE X (.Subscript e (.Slice none none (some (.UnaryOp .USub (.Constant (.int 1) k p1) p2)) p3) pos) (tRevT te) := by
  refine ⟨fun pins s σ H Q I h => ?_⟩
  refine Subscript_ (thn (he.run pins s σ H _ I h) fun v s1 ⟨x, H1, I1, r1, q1⟩ => ?_)
  obtain ⟨lt, ex, hz, q⟩ := q1
  subst ex
  obtain ⟨tk, rfl⟩ := r1
  have hst : L2.PO X (some (.UnaryOp .USub (.Constant (.int 1) k p1) p2)) (tPart (tUn (rU fun i => .int (-i)) (tC (.int 1)))) := po_some (pe_un un_neg pe_int)
  refine wpAny_Slice (thn (po_none.run pins s1 σ H1 (fun o H2 => o = none ∧ H2 = H1) I1 ⟨rfl, rfl⟩) fun vl s2 ⟨l, H2, I2, pl, el, e2⟩ => ?_)
  subst el e2
  refine thn (po_none.run pins s2 σ H2 (fun o H3 => o = none ∧ H3 = H2) I2 ⟨rfl, rfl⟩) fun vu s3 ⟨u, H3, I3, pu, eu, e3⟩ => ?_
  subst eu e3
  refine thn (hst.run pins s3 σ H3 (fun o H4 => o = some (-1) ∧ H4 = H3) I3 ⟨1, rfl, -1, rfl, rfl, rfl⟩) fun vs s4 ⟨o, H4, I4, ps, eo, e4⟩ => ?_
  subst eo e4
  have I5 : L2.Inv X pins σ H4 { s4 with heap := s4.heap.push { cls := .type "slice", data := .fields #[vl, vu, vs] } } := I4.kept (t' := s4.toks) fun b ob q => Heap.get?_push_of_some _ q
  obtain ⟨l0, evl, el⟩ := IsPart.raw pl
  obtain ⟨u0, evu, eu⟩ := IsPart.raw pu
  obtain ⟨st0, evs, es⟩ := IsPart.raw ps
  show wpAny (model X.prog X.w) X.A (subscriptTail e (.Slice none none (some (.UnaryOp .USub (.Constant (.int 1) k p1) p2)) p3) (.str (SX.S lt) tk) (.ref s4.heap.objs.size)) (EP X pins σ Q) X.xe { s4 with heap := s4.heap.push { cls := .type "slice", data := .fields #[vl, vu, vs] } }
  refine tail_any (ops := [.str (SX.S lt) tk, .ref s4.heap.objs.size]) (typeIs_str _ _ _) PySem.F.slot_str_getitem.lookup ?_ (by with_unfolding_all rfl)
  have h1 : (st0.map (·.1)).getD 1 = -1 := by rw [es]; rfl
  refine wpAny_getItem_str_slice (l := l0) (u := u0) (st := st0) ⟨_, Heap.get?_push_size _ rfl, rfl, by rw [evl, evu, evs]⟩ (by rw [h1]; decide) ?_
  have hsz : (SX.S lt).length = lt.length := by simp [SX.S, Str.length]
  have e1 : slicePicked (SX.S lt) l0 u0 st0 = (List.range lt.length).reverse := by
    unfold slicePicked
    rw [h1, el, eu, hsz]
    show sliceRange ((lt.length : Int) - 1) (-1) (-1) = _
    rw [PySem.W.krv_sliceRange, PySem.W.krv_range]
  have e2 : ((slicePicked (SX.S lt) l0 u0 st0).filterMap ((SX.S lt).cps[·]?)) = lt.reverse := by
    rw [e1, List.filterMap_reverse]
    have := PySem.W.krv_all (SX.S lt).cps
    have e3 : (SX.S lt).cps.size = lt.length := by simp [SX.S]
    rw [e3] at this
    rw [this]
  unfold sliceMade
  rw [h1, if_neg (by simp), e2]
  exact ⟨by show lt.reverse.toArray.size ≤ sizeLine; simpa using hz, .str _, H4, I5.tok _, ⟨_, rfl⟩, q⟩
end
section
variable {C : SC} {E : EPost} {ρ : Env} {μ : Mem} {e o : Expr} {Q : XV → Mem → Prop} {k : Nat} {p p1 p2 p3 pos apos cpos : Pos}
theorem we_revT (h : WE C e ρ μ E fun x μ1 => ∃ l : List Nat, x = .d (.txt l) ∧ l.length ≤ sizeLine ∧ Q (.d (.txt l.reverse)) μ1) : WE C (.Subscript e (.Slice none none (some (.UnaryOp .USub (.Constant (.int 1) k p1) p2)) p3) pos) ρ μ E Q := fun X σ H w A =>
  tE_of (pe_revT pe_tE) (h.go A fun v H1 x μ1 w1 r1 A1 S1 ⟨l, ex, hz, q⟩ => by
    subst ex
    exact ⟨l, r1, hz, .d (.txt l.reverse), μ1, w1, rfl, A1.M, S1, q⟩)
theorem p_revT {l : List Nat} (h : PV C e ρ μ E (.d (.txt l))) (hz : l.length ≤ sizeLine) : PV C (.Subscript e (.Slice none none (some (.UnaryOp .USub (.Constant (.int 1) k p1) p2)) p3) pos) ρ μ E (.d (.txt l.reverse)) := fun Q q => we_revT (h _ ⟨l, rfl, hz, q⟩)
/-- upper -/
def upT (l : List Nat) : List Nat := (Txt.upper (SX.S l)).cps.toList
theorem upT_len (l : List Nat) : (upT l).length ≤ 3 * l.length := by
  have h := PyProof.Rows.len_upper (SX.S l)
  have e : (SX.S l).length = l.length := by simp [SX.S, Str.length]
  rw [e] at h
  unfold upT
  rw [Array.length_toList]
  exact h
theorem upT_uni {l : List Nat} (h : ∀ c ∈ l, c ∈ small) : uni (upT l) = true := by
  have h1 : l.all (· < 128) = true := List.all_eq_true.mpr fun c hc => by
    have : ∀ c ∈ small, c < 128 := by decide
    simpa using this c (h c hc)
  unfold upT
  rw [SX.upper_S h1]
  refine uni_iff.mpr fun c hc => ?_
  have hc' : c ∈ l.map PyProof.Rows.up1 := by simpa [SX.S] using hc
  obtain ⟨d, hd, rfl⟩ := List.mem_map.mp hc'
  have : ∀ c ∈ small, PyProof.Rows.up1 c < 1114112 := by decide
  exact this d (h d hd)
theorem gm_upper {l : List Nat} (hz : l.length ≤ 5592405) (q : Q (.d (.txt (upT l))) μ) : GoM C "str.upper" (.d (.txt l)) [] μ Q := fun X hX H w vx vs M rx rs => by
  cases rs
  exact mS_of mt_upper ⟨SX.S l, rx, rfl, by rw [show (SX.S l).length = l.length by simp [SX.S, Str.length]]; exact hz, lift.now M (x := .d (.txt (upT l))) rfl q⟩
theorem p_upper {l : List Nat} (h : PV C o ρ μ E (.d (.txt l))) (hz : l.length ≤ 5592405) (hbase : ∀ env, attributeBase o "upper" env (eval o env) = eval o env := by intro _; rfl) (hline : (apos.endLine == cpos.line) = true := by rfl) : PV C (.Call (.Attribute o "upper" apos) [] [] cpos) ρ μ E (.d (.txt (upT l))) := fun Q q =>
  we_bm0 PySem.F.plainAttrs_str PySem.F.slot_str_upper PySem.F.type_str_upper (h _ ⟨rfl, gm_upper hz q⟩) hbase hline
theorem seqIndex_at {i : Int} {n : Nat} (h : 0 ≤ i) (h2 : i < (n : Int)) : seqIndex? i n = some i.toNat := by
  unfold seqIndex?
  have h0 : ¬ i < 0 := by omega
  have h3 : (decide (0 ≤ i) && decide (i < (n : Int))) = true := by rw [Bool.and_eq_true, decide_eq_true_eq, decide_eq_true_eq]; exact ⟨h, h2⟩
  simp only [h0, if_false, h3, if_true]
/-- x.append(e) -/
theorem we_append (h : WE C o ρ μ E fun x μ1 => ∃ n, x = .l n ∧ (∃ xs, μ1[n]? = some (some (.lst xs))) ∧ WE C e ρ μ1 E fun y μ2 => ∃ xs, μ2[n]? = some (some (.lst xs)) ∧ xs.length < sizeLine ∧ Q (.d .non) (μ2.set n (some (.lst (xs ++ [y])))))
    (hbase : ∀ env, attributeBase o "append" env (eval o env) = eval o env := by intro _; rfl)
    (hfew : ∀ env, ((backTo cpos (starEach [e] env)).all (fun x => !x.1) && (backToKw cpos (keywordEach [] env)).all (fun x => x.1.isSome) && decide ([e].length + ([] : List Keyword).length + (if ([] : List Keyword).isEmpty then 0 else 1) < 30)) = true := by intro _; rfl)
    (hline : (apos.endLine == cpos.line) = true := by rfl) (hs : ∀ env, starEach [e] env = (false, eval e env) :: starEach [] env := by intro _; rfl) : WE C (.Call (.Attribute o "append" apos) [e] [] cpos) ρ μ E Q :=
  we_bm PySem.F.plainAttrs_list PySem.F.slot_list_append PySem.F.type_list_append (h.cont fun x μ1 ⟨n, ex, hx, h2⟩ => by
    subst ex
    exact ⟨⟨rfl, hx⟩, wa_cons (h2.cont fun y μ2 ⟨xs, hm, hz, q⟩ => wa_nil (gm_append hm hz q)) hs⟩) hbase hfew hline hs
/-- x.pop(e) -/
theorem we_popAt (h : WE C o ρ μ E fun x μ1 => ∃ n, x = .l n ∧ (∃ xs, μ1[n]? = some (some (.lst xs))) ∧ WE C e ρ μ1 E fun y μ2 => ∃ (xs : List XV) (i : Int) (z : XV), y = .d (.int i) ∧ μ2[n]? = some (some (.lst xs)) ∧ 0 ≤ i ∧ i < 2 ^ 63 ∧ xs[i.toNat]? = some z ∧ Q z (μ2.set n (some (.lst (xs.eraseIdx i.toNat)))))
    (hbase : ∀ env, attributeBase o "pop" env (eval o env) = eval o env := by intro _; rfl)
    (hfew : ∀ env, ((backTo cpos (starEach [e] env)).all (fun x => !x.1) && (backToKw cpos (keywordEach [] env)).all (fun x => x.1.isSome) && decide ([e].length + ([] : List Keyword).length + (if ([] : List Keyword).isEmpty then 0 else 1) < 30)) = true := by intro _; rfl)
    (hline : (apos.endLine == cpos.line) = true := by rfl) (hs : ∀ env, starEach [e] env = (false, eval e env) :: starEach [] env := by intro _; rfl) : WE C (.Call (.Attribute o "pop" apos) [e] [] cpos) ρ μ E Q :=
  we_bm PySem.F.plainAttrs_list PySem.F.slot_list_pop PySem.F.type_list_pop (h.cont fun x μ1 ⟨n, ex, hx, h2⟩ => by
    subst ex
    exact ⟨⟨rfl, hx⟩, wa_cons (h2.cont fun y μ2 ⟨xs, i, z, ey, hm, i0, i1, hz, q⟩ => by
      subst ey
      have hl : i.toNat < xs.length := (List.getElem?_eq_some_iff.mp hz).1
      refine wa_nil (gm_popAt (j := i.toNat) hm (by omega) i1 ?_ hz q)
      exact seqIndex_at i0 (by omega)) hs⟩) hbase hfew hline hs
/-- x.clear(), a list -/
theorem we_clearL (h : WE C o ρ μ E fun x μ1 => ∃ n xs, x = .l n ∧ μ1[n]? = some (some (.lst xs)) ∧ Q (.d .non) (μ1.set n (some (.lst []))))
    (hbase : ∀ env, attributeBase o "clear" env (eval o env) = eval o env := by intro _; rfl) (hline : (apos.endLine == cpos.line) = true := by rfl) : WE C (.Call (.Attribute o "clear" apos) [] [] cpos) ρ μ E Q :=
  we_bm0 PySem.F.plainAttrs_list PySem.F.slot_list_clear PySem.F.type_list_clear (h.cont fun x μ1 ⟨n, xs, ex, hm, q⟩ => by
    subst ex
    exact ⟨⟨rfl, xs, hm⟩, gm_clear hm q⟩) hbase hline
end
end DL
set_option maxRecDepth 100000
set_option maxHeartbeats 2000000
/-! DL34: {k: v}; cells compared with data; draws in a comprehension that is stored. -/
namespace DL
open PySem L2 PySem.Spec PyProof.Rows
section
variable {C : SC} {E : EPost} {ρ : Env} {μ : Mem} {e ke ve a elt tg : Expr} {Q : XV → Mem → Prop} {p p2 pos : Pos}
/-- {k: v} -/
theorem p_dct1 {k : Key} {d : D} (hk : PV C ke ρ μ noE (.d (keyD k))) (hv : PV C ve ρ μ noE (.d d)) : PV C (.Dict [some ke] [ve] pos) ρ μ E (.d (D.dc [(k, d)])) := fun Q q X σ H w A =>
  tE_lock (tE_of (pe_disp (pps_cons pe_tE pe_tE pps_nil) rfl rfl (by simp) (by simp))
    (Q := fun v H' => ∃ (Dl : Addr) (w' : IA) (u : V), v = .ref Dl ∧ H Dl = none ∧ AccD C.K μ H w Dl μ H' w' [(k, d)] [(k, u)]) fun p hp => by
      have B0 : AccD C.K μ H w p μ (upd H p (.dK [])) (w.hide p) [] [] := AccD.start (o0 := .dK []) A.M hp
      have A0 : At C X noE ρ μ σ (upd H p (.dK [])) (w.hide p) := ⟨A.has, B0.M, A.R.kp B0.kp, takes_no⟩
      refine (hk (fun x μ' => x = .d (keyD k) ∧ μ' = μ) ⟨rfl, rfl⟩).go A0 fun v1 H1 x μ1 w1 r1 A1 S1 ⟨ex, em⟩ => ?_
      subst ex em
      have B1 := B0.step S1 A1.M
      refine (hv (fun x μ' => x = .d d ∧ μ' = μ1) ⟨rfl, rfl⟩).go A1 fun v2 H2 y μ2 w2 r2 A2 S2 ⟨ey, em2⟩ => ?_
      subst ey em2
      have B2 := B1.step S2 A2.M
      refine ⟨B2.D, [(k, v2)], ?_, by simp, p, w2, v2, rfl, hp, ?_⟩
      · rw [keyD_rep r1]; rfl
      · exact B2.put hp r2) fun v H' ⟨Dl, w', u, ev, hDl, B⟩ => by
    subst ev
    exact ⟨Dl, .dK [(k, u)], B.D, trivial, fun od => B.fin hDl A.M Stp.refl q⟩
/-- a cell of data and data, compared -/
theorem cell_dp {K : PySem.W.Frag} {H : Hp} {w : IA} {n : Nat} {ds : List D} {v : V} (M : MOk K μ H w) (hm : μ[n]? = some (some (.lst (ds.map XV.d)))) (r : RepX K μ H w (.l n) v) (pl : (D.lst ds).plain = true) : Dp K H v (D.lst ds).py := by
  obtain ⟨a, ha, rfl⟩ := r
  obtain ⟨us, e, rx⟩ := M.holds n _ a hm ha
  unfold D.py
  exact .lst (SqL.of e) (Reps.dp ds us (by unfold D.plain at pl; exact pl) (RepXs.reps rx))
theorem go_ne_cell {n : Nat} {ds : List D} {y : D} (hm : μ[n]? = some (some (.lst (ds.map XV.d)))) (hx : (D.lst ds).okEq) (hy : y.okEq) (q : Q (.d (.bl (!PyData.eqv (D.lst ds).py y.py))) μ) : Go2 C (compareOp .NotEq) (.l n) (.d y) μ Q := fun X hX H w vx vy M rx ry =>
  rS_of (op_neD (hX.u64)) ⟨(D.lst ds).py, y.py, by rw [hX.K]; exact cell_dp M hm rx hx.1, by rw [hX.K]; exact Rep.dp y vy hy.1 ry, hx.shaped, hy.shaped, lift.now M (x := .d (.bl _)) rfl q⟩
theorem go_eq_cell {n : Nat} {ds : List D} {y : D} (hm : μ[n]? = some (some (.lst (ds.map XV.d)))) (hx : (D.lst ds).okEq) (hy : y.okEq) (q : Q (.d (.bl (PyData.eqv (D.lst ds).py y.py))) μ) : Go2 C (compareOp .Eq) (.l n) (.d y) μ Q := fun X hX H w vx vy M rx ry =>
  rS_of (op_eqD (hX.u64)) ⟨(D.lst ds).py, y.py, by rw [hX.K]; exact cell_dp M hm rx hx.1, by rw [hX.K]; exact Rep.dp y vy hy.1 ry, hx.shaped, hy.shaped, lift.now M (x := .d (.bl _)) rfl q⟩
/-- [elt for k in range(size)], elt draws: the walk -/
theorem wi_lcStore {S : DS} {μr : Mem} {scope : Scope} {vs : List Nat} {n : Nat} {size : Int} (I : Nat → List D → Prop) (hr : C.mg "range" = none) (hg : C.Glob "range") (ha : PV C a ρ (S.mem ++ μr) E (.d (.int size))) (hS : S.ok) (hz : size ≤ 16777216) (hz2 : -16777216 ≤ size)
    (h0 : I 0 []) (step : ∀ (i : Nat) (acc : List D) (S' : DS), S'.ok → i < size.toNat → I i acc → WE (C.blk scope) elt ((wipeE ρ vs).set n (some (.d (.int (0 + (i : Nat)))))) (S'.mem ++ μr) noE fun y μ3 => ∃ (d : D) (S2 : DS), y = .d d ∧ μ3 = S2.mem ++ μr ∧ S2.ok ∧ I (i + 1) (acc ++ [d]))
    (q : ∀ (acc : List D) (S' : DS), S'.ok → I size.toNat acc → Q (.d (.lst acc)) (S'.mem ++ μr)) (hs1 : ∀ env, starEach [a] env = [(false, eval a env)] := by intro _; rfl) :
    WI C tg (.Call (.Name "range" p) [a] [] p2) ρ (S.mem ++ μr) E (LcI C scope (.nm n) [] elt vs ρ Q) :=
  wi_range1 hg hr (ha _ ⟨size, rfl, by omega, by omega, by
    refine lc_inv (fun i acc μ' => ∃ S' : DS, S'.ok ∧ μ' = S'.mem ++ μr ∧ I i acc) (by rw [rng_len]; exact sz_of (by omega)) ⟨S, hS, rfl, h0⟩ (fun _ _ _ _ _ => trivial) (fun i x acc μ' hx hp => ?_) (fun acc μ' hp => ?_)
    · obtain ⟨S', hS', rfl, hI⟩ := hp
      obtain ⟨hi, rfl⟩ := rng_get hx
      refine ⟨_, rfl, (step i acc S' hS' hi hI).cont fun y μ3 hy => ?_⟩
      obtain ⟨d, S2, rfl, rfl, h2, h3⟩ := hy
      exact ⟨d, rfl, S2, h2, rfl, h3⟩
    · obtain ⟨S', hS', rfl, hI⟩ := hp
      rw [rng_len] at hI
      exact q acc S' hS' hI⟩) hs1
end
section
variable {C : SC}
/-- values known, then on -/
theorem pa_go {ρ : Env} {μ : Mem} {E : EPost} {es : List Expr} {xs : List XV} {Q : List XV → Mem → Prop} (h : PA C es ρ μ E xs) (q : Q xs μ) : WA C es ρ μ E Q := h Q q
theorem pk_go {ρ : Env} {μ : Mem} {E : EPost} {es : List Keyword} {xs : List XV} {Q : List XV → Mem → Prop} (h : PK C es ρ μ E xs) (q : Q xs μ) : WK C es ρ μ E Q := h Q q
theorem Dk.p1 {α : Type} {ca : α → D} {pre : α → Prop} {f : α → D} {x q : Str} {st : Stmt} {n k : Nat} {ks : List Str} {ix : List Nat} {N : List Str} (h : Dk C x st [q] n ks ix) (S : FnScope N [q] (defScope st)) (b : ∀ a, pre a → WS (C.defC N (defScope st) k) (defBody st) (startE N [.d (ca a)]) [] noE (endsP (f a))) : FnK C (k + 1) x [q] (cP1 ca pre f) n ks ix :=
  h.fnk S wf_cP1 (fun _ _ => rfl) (body_P (c := cP1 ca pre f) f (fun _ => rfl) (fun _ => rfl) b)
theorem Dk.p2 {α β : Type} {ca : α → D} {cb : β → D} {pre : α → β → Prop} {f : α → β → D} {x q q2 : Str} {st : Stmt} {n k : Nat} {ks : List Str} {ix : List Nat} {N : List Str} (h : Dk C x st [q, q2] n ks ix) (S : FnScope N [q, q2] (defScope st)) (b : ∀ a b, pre a b → WS (C.defC N (defScope st) k) (defBody st) (startE N [.d (ca a), .d (cb b)]) [] noE (endsP (f a b))) : FnK C (k + 1) x [q, q2] (cP2 ca cb pre f) n ks ix :=
  h.fnk S wf_cP2 (fun _ _ => rfl) (body_P (c := cP2 ca cb pre f) (fun a => f a.1 a.2) (fun _ => rfl) (fun _ => rfl) fun a hp => b a.1 a.2 hp)
/-- a pure call by keywords -/
theorem p_callK [Calm C] {k : Nat} {x : Str} {ps ks : List Str} {ix : List Nat} {c : Con} {ρ : Env} {μ : Mem} {E : EPost} {kws : List Keyword} {zs : List XV} {d : D} {p pos : Pos} (a : c.α) (F : FnK C k x ps c 0 ks ix) (hk : k ≤ C.room) (hg : C.Glob x) (h : PK C kws ρ μ E zs) (hl : zs.length = ks.length) (hp : c.pre a) (ha : c.args a = perm ix [] zs) (hm : c.mem a = []) (ho : ∀ o, c.out a o → o = .ret (.d d) []) (hdb : (x == ("__debug__" : Str)) = false := by decide) (hall : KwAll kws pos ks := by intro _; exact ⟨rfl, rfl, rfl⟩) : PV C (.Call (.Name x p) [] kws pos) ρ μ E (.d d) := fun Q q =>
  we_callK0 F hk hg (pk_go h ⟨hl, calls_P a hp ha hm ho q⟩) hdb hall
end
end DL
set_option maxRecDepth 100000
/-! rows of signs: plain mathematics, no program in sight -/
namespace RW
/-- a row as it is told -/
structure Parts where
  left : List Nat
  part : List Nat
  right : List Nat
  at_ : Int
deriving DecidableEq
def sgn (p : Parts) (i : Int) : Nat :=
  if i < p.at_ then p.left.getD ((i - p.at_) % (p.left.length : Int)).toNat 0
  else if i < p.at_ + (p.part.length : Int) then p.part.getD (i - p.at_).toNat 0
  else p.right.getD ((i - p.at_ - (p.part.length : Int)) % (p.right.length : Int)).toNat 0
def Parts.behind (p : Parts) : Int := p.at_ + (p.part.length : Int)
/-! ### periods of one side -/
def PerL (f : Int → Nat) (a : Int) (d : Int) : Prop := 1 ≤ d ∧ ∀ i, i < a → f i = f (i - d)
def PerR (f : Int → Nat) (a : Int) (d : Int) : Prop := 1 ≤ d ∧ ∀ i, a ≤ i → f i = f (i + d)
theorem PerL.mul {f : Int → Nat} {a d : Int} (h : PerL f a d) : ∀ (k : Nat) (i : Int), i < a → f i = f (i - d * k)
  | 0, i, hi => by simp
  | k + 1, i, hi => by
    have e := h.mul k i hi
    have h1 := h.1
    have hk : (0 : Int) ≤ d * k := Int.mul_nonneg (by omega) (by omega)
    rw [e, h.2 (i - d * k) (by omega)]
    congr 1
    rw [Int.natCast_add, Int.mul_add]
    omega
theorem PerR.mul {f : Int → Nat} {a d : Int} (h : PerR f a d) : ∀ (k : Nat) (i : Int), a ≤ i → f i = f (i + d * k)
  | 0, i, hi => by simp
  | k + 1, i, hi => by
    have e := h.mul k i hi
    have h1 := h.1
    have hk : (0 : Int) ≤ d * k := Int.mul_nonneg (by omega) (by omega)
    rw [e, h.2 (i + d * k) (by omega)]
    congr 1
    rw [Int.natCast_add, Int.mul_add]
    omega
/-- a window as long as both periods together tells a period -/
theorem PerL.of_window {f : Int → Nat} {a n q : Int} (h : PerL f a n) (hq : 1 ≤ q) (w : ∀ i, a - n ≤ i → i < a → f i = f (i - q)) : PerL f a q := by
  refine ⟨hq, fun i hi => ?_⟩
  have h1 := h.1
  -- i goes up into the last n places
  have hm := Int.emod_nonneg (a - 1 - i) (by omega : n ≠ 0)
  have hm2 := Int.emod_lt_of_pos (a - 1 - i) (by omega : 0 < n)
  have hd := Int.mul_ediv_add_emod (a - 1 - i) n
  have hk : 0 ≤ (a - 1 - i) / n := Int.ediv_nonneg (by omega) (by omega)
  obtain ⟨k, hk⟩ := Int.eq_ofNat_of_zero_le hk
  rw [hk] at hd
  have ej : i + n * (k : Int) = a - 1 - (a - 1 - i) % n := by omega
  have e1 : f (i + n * k) = f i := by
    have := h.mul k (i + n * k) (by omega)
    rw [this]
    congr 1
    omega
  have e2 : f (i + n * k - q) = f (i - q) := by
    have := h.mul k (i + n * k - q) (by omega)
    rw [this]
    congr 1
    omega
  rw [← e1, ← e2]
  exact w _ (by omega) (by omega)
theorem PerR.of_window {f : Int → Nat} {a n q : Int} (h : PerR f a n) (hq : 1 ≤ q) (w : ∀ i, a ≤ i → i < a + n → f i = f (i + q)) : PerR f a q := by
  refine ⟨hq, fun i hi => ?_⟩
  have h1 := h.1
  have hm := Int.emod_nonneg (i - a) (by omega : n ≠ 0)
  have hm2 := Int.emod_lt_of_pos (i - a) (by omega : 0 < n)
  have hd := Int.mul_ediv_add_emod (i - a) n
  have hk : 0 ≤ (i - a) / n := Int.ediv_nonneg (by omega) (by omega)
  obtain ⟨k, hk⟩ := Int.eq_ofNat_of_zero_le hk
  rw [hk] at hd
  have ej : i - n * (k : Int) = a + (i - a) % n := by omega
  have e1 : f (i - n * k) = f i := by
    have := h.mul k (i - n * k) (by omega)
    rw [this]
    congr 1
    omega
  have e2 : f (i - n * k + q) = f (i + q) := by
    have := h.mul k (i - n * k + q) (by omega)
    rw [this]
    congr 1
    omega
  rw [← e1, ← e2]
  exact w _ (by omega) (by omega)
/-- the least period -/
def LeastL (f : Int → Nat) (a d : Int) : Prop := PerL f a d ∧ ∀ e, PerL f a e → d ≤ e
def LeastR (f : Int → Nat) (a d : Int) : Prop := PerR f a d ∧ ∀ e, PerR f a e → d ≤ e
theorem LeastL.uniq {f : Int → Nat} {a d e : Int} (h : LeastL f a d) (k : LeastL f a e) : d = e := Int.le_antisymm (h.2 e k.1) (k.2 d h.1)
theorem LeastR.uniq {f : Int → Nat} {a d e : Int} (h : LeastR f a d) (k : LeastR f a e) : d = e := Int.le_antisymm (h.2 e k.1) (k.2 d h.1)
/-- the least period divides all -/
theorem LeastL.dvd {f : Int → Nat} {a d n : Int} (h : LeastL f a d) (k : PerL f a n) : n % d = 0 := by
  have h1 := h.1.1
  have hm := Int.emod_nonneg n (by omega : d ≠ 0)
  have hm2 := Int.emod_lt_of_pos n (by omega : 0 < d)
  have hd := Int.mul_ediv_add_emod n d
  refine Classical.byContradiction fun hne => ?_
  have hk1 := k.1
  obtain ⟨q, hq⟩ := Int.eq_ofNat_of_zero_le (Int.ediv_nonneg (by omega : 0 ≤ n) (by omega : 0 ≤ d))
  rw [hq] at hd
  have : PerL f a (n % d) := by
    refine ⟨by omega, fun i hi => ?_⟩
    rw [k.2 i hi]
    have := h.1.mul q (i - n % d) (by omega)
    rw [this]
    congr 1
    omega
  have := h.2 _ this
  omega
theorem LeastR.dvd {f : Int → Nat} {a d n : Int} (h : LeastR f a d) (k : PerR f a n) : n % d = 0 := by
  have h1 := h.1.1
  have hm := Int.emod_nonneg n (by omega : d ≠ 0)
  have hm2 := Int.emod_lt_of_pos n (by omega : 0 < d)
  have hd := Int.mul_ediv_add_emod n d
  refine Classical.byContradiction fun hne => ?_
  have hk1 := k.1
  obtain ⟨q, hq⟩ := Int.eq_ofNat_of_zero_le (Int.ediv_nonneg (by omega : 0 ≤ n) (by omega : 0 ≤ d))
  rw [hq] at hd
  have : PerR f a (n % d) := by
    refine ⟨by omega, fun i hi => ?_⟩
    rw [k.2 i hi]
    have := h.1.mul q (i + n % d) (by omega)
    rw [this]
    congr 1
    omega
  have := h.2 _ this
  omega
theorem exists_leastL {f : Int → Nat} {a n : Int} (h : PerL f a n) : ∃ d, LeastL f a d := by
  have : ∀ (k : Nat) (n : Int), n ≤ (k : Int) → PerL f a n → ∃ d, LeastL f a d := by
    intro k
    induction k with
    | zero => intro n hn hp; exact absurd hp.1 (by omega)
    | succ k ih =>
      intro n hn hp
      by_cases q : ∃ e, PerL f a e ∧ e ≤ (k : Int)
      · obtain ⟨e, he, hk⟩ := q
        exact ih e hk he
      · refine ⟨n, hp, fun e he => ?_⟩
        refine Classical.byContradiction fun hc => q ⟨e, he, by omega⟩
  exact this n.toNat n (by omega) h
theorem exists_leastR {f : Int → Nat} {a n : Int} (h : PerR f a n) : ∃ d, LeastR f a d := by
  have : ∀ (k : Nat) (n : Int), n ≤ (k : Int) → PerR f a n → ∃ d, LeastR f a d := by
    intro k
    induction k with
    | zero => intro n hn hp; exact absurd hp.1 (by omega)
    | succ k ih =>
      intro n hn hp
      by_cases q : ∃ e, PerR f a e ∧ e ≤ (k : Int)
      · obtain ⟨e, he, hk⟩ := q
        exact ih e hk he
      · refine ⟨n, hp, fun e he => ?_⟩
        refine Classical.byContradiction fun hc => q ⟨e, he, by omega⟩
  exact this n.toNat n (by omega) h
/-! ### the two loops -/
def up (P : Int → Bool) : Nat → Int → Int
  | 0, x => x
  | n + 1, x => if P x then up P n (x + 1) else x
def down (P : Int → Bool) : Nat → Int → Int
  | 0, x => x
  | n + 1, x => if P x then down P n (x - 1) else x
theorem up_le (P : Int → Bool) : ∀ (n : Nat) (x : Int), x ≤ up P n x ∧ up P n x ≤ x + n
  | 0, x => by simp [up]
  | n + 1, x => by
    unfold up
    split
    · have := up_le P n (x + 1); omega
    · omega
theorem up_all (P : Int → Bool) : ∀ (n : Nat) (x : Int) (i : Int), x ≤ i → i < up P n x → P i = true
  | 0, x, i, h1, h2 => by simp [up] at h2; omega
  | n + 1, x, i, h1, h2 => by
    unfold up at h2
    by_cases hp : P x = true
    · rw [if_pos hp] at h2
      by_cases e : i = x
      · rw [e]; exact hp
      · exact up_all P n (x + 1) i (by omega) h2
    · rw [if_neg hp] at h2; omega
theorem up_stop (P : Int → Bool) : ∀ (n : Nat) (x : Int), up P n x < x + n → P (up P n x) = false
  | 0, x, h => by simp [up] at h
  | n + 1, x, h => by
    unfold up at h ⊢
    by_cases hp : P x = true
    · rw [if_pos hp] at h ⊢
      exact up_stop P n (x + 1) (by omega)
    · rw [if_neg hp]
      simpa using hp
/-- a farther bound -/
theorem up_more (P : Int → Bool) : ∀ (n m : Nat) (x : Int), up P n x < x + n → up P (n + m) x = up P n x
  | 0, m, x, h => by simp [up] at h
  | n + 1, m, x, h => by
    rw [show n + 1 + m = (n + m) + 1 by omega]
    unfold up at h ⊢
    by_cases hp : P x = true
    · rw [if_pos hp] at h ⊢
      rw [if_pos hp]
      exact up_more P n m (x + 1) (by omega)
    · rw [if_neg hp, if_neg hp]
theorem up_full (P : Int → Bool) : ∀ (n : Nat) (x : Int), (∀ i, x ≤ i → i < x + n → P i = true) → up P n x = x + n
  | 0, x, h => by simp [up]
  | n + 1, x, h => by
    unfold up
    rw [if_pos (h x (by omega) (by omega)), up_full P n (x + 1) fun i h1 h2 => h i (by omega) (by omega)]
    omega
/-! ### sides of a told row -/
theorem sgn_L {p : Parts} (h : p.left ≠ []) : PerL (sgn p) p.at_ p.left.length := by
  have hl : 0 < p.left.length := List.length_pos_iff.mpr h
  refine ⟨by omega, fun i hi => ?_⟩
  unfold sgn
  rw [if_pos hi, if_pos (by omega)]
  congr 2
  rw [show i - (p.left.length : Int) - p.at_ = (i - p.at_) - (p.left.length : Int) by omega]
  rw [Int.sub_emod_right]
theorem sgn_R {p : Parts} (h : p.right ≠ []) : PerR (sgn p) p.behind p.right.length := by
  have hl : 0 < p.right.length := List.length_pos_iff.mpr h
  refine ⟨by omega, fun i hi => ?_⟩
  unfold Parts.behind at hi
  unfold sgn
  rw [if_neg (by omega), if_neg (by omega), if_neg (by omega), if_neg (by omega)]
  congr 2
  rw [show i + (p.right.length : Int) - p.at_ - (p.part.length : Int) = (i - p.at_ - (p.part.length : Int)) + (p.right.length : Int) by omega]
  rw [Int.add_emod_right]
end RW
set_option maxRecDepth 100000
namespace RW
/-- range(lo, hi) -/
def ran (lo hi : Int) : List Int := (List.range (hi - lo).toNat).map fun i => lo + (i : Nat)
theorem ran_mem {lo hi i : Int} : i ∈ ran lo hi ↔ lo ≤ i ∧ i < hi := by
  unfold ran
  rw [List.mem_map]
  constructor
  · rintro ⟨k, hk, rfl⟩
    rw [List.mem_range] at hk
    omega
  · rintro ⟨h1, h2⟩
    exact ⟨(i - lo).toNat, List.mem_range.mpr (by omega), by omega⟩
theorem ran_len (lo hi : Int) : (ran lo hi).length = (hi - lo).toNat := by unfold ran; simp
theorem ran_get {lo hi : Int} {k : Nat} (h : k < (hi - lo).toNat) : (ran lo hi)[k]? = some (lo + (k : Nat)) := by
  unfold ran
  rw [List.getElem?_map, List.getElem?_range h]
  rfl
/-- the signs of the row from lo to hi -/
def str (p : Parts) (lo hi : Int) : List Nat := (ran lo hi).map (sgn p)
theorem str_len (p : Parts) (lo hi : Int) : (str p lo hi).length = (hi - lo).toNat := by unfold str; rw [List.length_map, ran_len]
theorem str_get {p : Parts} {lo hi : Int} {k : Nat} (h : k < (hi - lo).toNat) : (str p lo hi)[k]? = some (sgn p (lo + (k : Nat))) := by
  unfold str
  rw [List.getElem?_map, ran_get h]
  rfl
/-! ### a word again and again -/
def cyc (w : List Nat) (i : Int) : Nat := w.getD (i % (w.length : Int)).toNat 0
def CycP (w : List Nat) (d : Int) : Prop := ∀ i, cyc w i = cyc w (i + d)
def LeastC (w : List Nat) (d : Int) : Prop := 1 ≤ d ∧ CycP w d ∧ ∀ e, 1 ≤ e → CycP w e → d ≤ e
theorem cyc_add {w : List Nat} (i k : Int) : cyc w (i + (w.length : Int) * k) = cyc w i := by
  unfold cyc
  rw [Int.add_mul_emod_self_left]
theorem cyc_nat {w : List Nat} {i : Nat} (h : i < w.length) : cyc w (i : Int) = w.getD i 0 := by
  unfold cyc
  rw [Int.emod_eq_of_lt (by omega) (by omega)]
  rfl
theorem CycP.mul {w : List Nat} {d : Int} (h : CycP w d) : ∀ (k : Nat) (i : Int), cyc w i = cyc w (i + d * k)
  | 0, i => by simp
  | k + 1, i => by
    rw [h.mul k i, h (i + d * k)]
    congr 1
    rw [Int.natCast_add, Int.mul_add]
    omega
theorem CycP.mulZ {w : List Nat} {d : Int} (h : CycP w d) (k i : Int) : cyc w i = cyc w (i + d * k) := by
  rcases Int.le_total 0 k with hk | hk
  · obtain ⟨n, rfl⟩ := Int.eq_ofNat_of_zero_le hk
    exact h.mul n i
  · obtain ⟨n, hn⟩ := Int.eq_ofNat_of_zero_le (by omega : 0 ≤ -k)
    have := h.mul n (i + d * k)
    rw [this]
    congr 1
    have e : k = -(n : Int) := by omega
    subst e
    rw [Int.mul_neg]
    omega
theorem CycP.len (w : List Nat) : CycP w w.length := fun i => by
  have := cyc_add (w := w) i 1
  rw [Int.mul_one] at this
  exact this.symm
theorem sgn_left {p : Parts} {i : Int} (h : i < p.at_) : sgn p i = cyc p.left (i - p.at_) := by unfold sgn cyc; rw [if_pos h]
theorem sgn_right {p : Parts} {i : Int} (h : p.behind ≤ i) : sgn p i = cyc p.right (i - p.behind) := by
  unfold Parts.behind at h
  unfold sgn cyc Parts.behind
  rw [if_neg (by omega), if_neg (by omega)]
  congr 3
  omega
theorem perL_cyc {p : Parts} (hl : p.left ≠ []) {d : Int} : PerL (sgn p) p.at_ d ↔ 1 ≤ d ∧ CycP p.left d := by
  have hn : 0 < p.left.length := List.length_pos_iff.mpr hl
  constructor
  · rintro ⟨h1, h2⟩
    refine ⟨h1, fun i => ?_⟩
    -- far to the left
    obtain ⟨k, hk⟩ : ∃ k : Nat, i + d - (p.left.length : Int) * k < 0 := by
      refine ⟨(i + d).toNat + 1, ?_⟩
      have : (p.left.length : Int) * (((i + d).toNat + 1 : Nat) : Int) ≥ 1 * (((i + d).toNat + 1 : Nat) : Int) := Int.mul_le_mul_of_nonneg_right (by omega) (by omega)
      omega
    have e1 := cyc_add (w := p.left) i (-(k : Int))
    have e2 := cyc_add (w := p.left) (i + d) (-(k : Int))
    rw [Int.mul_neg] at e1 e2
    rw [← e1, ← e2]
    have := h2 (p.at_ + (i + d + -((p.left.length : Int) * k))) (by omega)
    rw [sgn_left (by omega), sgn_left (by omega)] at this
    rw [show p.at_ + (i + d + -((p.left.length : Int) * k)) - p.at_ = i + d + -((p.left.length : Int) * k) by omega, show p.at_ + (i + d + -((p.left.length : Int) * k)) - d - p.at_ = i + -((p.left.length : Int) * k) by omega] at this
    exact this.symm
  · rintro ⟨h1, h2⟩
    refine ⟨h1, fun i hi => ?_⟩
    rw [sgn_left hi, sgn_left (by omega), h2 (i - d - p.at_)]
    congr 1
    omega
theorem perR_cyc {p : Parts} (hl : p.right ≠ []) {d : Int} : PerR (sgn p) p.behind d ↔ 1 ≤ d ∧ CycP p.right d := by
  have hn : 0 < p.right.length := List.length_pos_iff.mpr hl
  constructor
  · rintro ⟨h1, h2⟩
    refine ⟨h1, fun i => ?_⟩
    obtain ⟨k, hk⟩ : ∃ k : Nat, 0 ≤ i + (p.right.length : Int) * k := by
      refine ⟨(-i).toNat, ?_⟩
      have : (p.right.length : Int) * ((-i).toNat : Int) ≥ 1 * ((-i).toNat : Int) := Int.mul_le_mul_of_nonneg_right (by omega) (by omega)
      omega
    have e1 := cyc_add (w := p.right) i (k : Int)
    have e2 := cyc_add (w := p.right) (i + d) (k : Int)
    rw [← e1, ← e2]
    have := h2 (p.behind + (i + (p.right.length : Int) * k)) (by omega)
    rw [sgn_right (by omega), sgn_right (by omega)] at this
    rw [show p.behind + (i + (p.right.length : Int) * k) - p.behind = i + (p.right.length : Int) * k by omega, show p.behind + (i + (p.right.length : Int) * k) + d - p.behind = i + d + (p.right.length : Int) * k by omega] at this
    exact this
  · rintro ⟨h1, h2⟩
    refine ⟨h1, fun i hi => ?_⟩
    rw [sgn_right hi, sgn_right (by omega), h2 (i - p.behind)]
    congr 1
    omega
theorem leastL_cyc {p : Parts} (hl : p.left ≠ []) {d : Int} (h : LeastC p.left d) : LeastL (sgn p) p.at_ d :=
  ⟨(perL_cyc hl).mpr ⟨h.1, h.2.1⟩, fun e he => h.2.2 e he.1 ((perL_cyc hl).mp he).2⟩
theorem leastR_cyc {p : Parts} (hl : p.right ≠ []) {d : Int} (h : LeastC p.right d) : LeastR (sgn p) p.behind d :=
  ⟨(perR_cyc hl).mpr ⟨h.1, h.2.1⟩, fun e he => h.2.2 e he.1 ((perR_cyc hl).mp he).2⟩
/-! ### the shortest round -/
def again (w : List Nat) (k : Nat) : List Nat := (List.replicate k w).flatten
theorem again_len (w : List Nat) (k : Nat) : (again w k).length = k * w.length := by unfold again; simp
theorem again_get (w : List Nat) : ∀ (k i : Nat), i < k * w.length → (again w k).getD i 0 = w.getD (i % w.length) 0
  | 0, i, h => by omega
  | k + 1, i, h => by
    unfold again
    rw [List.replicate_succ, List.flatten_cons]
    by_cases hi : i < w.length
    · rw [List.getD_eq_getElem?_getD, List.getElem?_append_left hi, ← List.getD_eq_getElem?_getD, Nat.mod_eq_of_lt hi]
    · rw [List.getD_eq_getElem?_getD, List.getElem?_append_right (by omega), ← List.getD_eq_getElem?_getD]
      have := again_get w k (i - w.length) (by rw [Nat.add_mul] at h; omega)
      unfold again at this
      rw [this, ← Nat.mod_eq_sub_mod (by omega)]
/-- word[:d] again and again is word -/
def roundBy (w : List Nat) (d : Int) : Bool := decide ((w.length : Int) % d = 0) && decide (again (w.take d.toNat) ((w.length : Int) / d).toNat = w)
theorem roundBy_iff {w : List Nat} {d : Int} (h1 : 1 ≤ d) (h2 : d ≤ w.length) : roundBy w d = true ↔ (w.length : Int) % d = 0 ∧ CycP w d := by
  unfold roundBy
  rw [Bool.and_eq_true, decide_eq_true_iff, decide_eq_true_iff]
  refine and_congr_right fun hm => ?_
  obtain ⟨q, hq⟩ := Int.eq_ofNat_of_zero_le (Int.ediv_nonneg (by omega : (0 : Int) ≤ w.length) (by omega : 0 ≤ d))
  have hd := Int.mul_ediv_add_emod (w.length : Int) d
  rw [hm, hq] at hd
  rw [hq]
  obtain ⟨e, rfl⟩ := Int.eq_ofNat_of_zero_le (by omega : 0 ≤ d)
  have hn : e * q = w.length := by
    have : ((e * q : Nat) : Int) = (w.length : Int) := by rw [Int.natCast_mul]; omega
    omega
  have ht : (w.take e).length = e := by rw [List.length_take]; omega
  show again (w.take e) q = w ↔ _
  have hq2 : q * e = w.length := by rw [Nat.mul_comm]; exact hn
  constructor
  · intro h
    have g : ∀ i : Nat, i < w.length → w.getD i 0 = w.getD (i % e) 0 := fun i hi => by
      have := again_get (w.take e) q i (by rw [ht, hq2]; exact hi)
      rw [h, ht] at this
      rw [this]
      have hlt : i % e < e := Nat.mod_lt _ (by omega)
      rw [List.getD_eq_getElem?_getD, List.getD_eq_getElem?_getD, List.getElem?_take_of_lt hlt]
    intro i
    unfold cyc
    have a1 := Int.emod_nonneg i (by omega : (w.length : Int) ≠ 0)
    have a2 := Int.emod_lt_of_pos i (by omega : (0 : Int) < w.length)
    have b1 := Int.emod_nonneg (i + (e : Int)) (by omega : (w.length : Int) ≠ 0)
    have b2 := Int.emod_lt_of_pos (i + (e : Int)) (by omega : (0 : Int) < w.length)
    rw [g _ (by omega), g ((i + (e : Int)) % (w.length : Int)).toNat (by omega)]
    congr 1
    have c1 : (((i % (w.length : Int)).toNat % e : Nat) : Int) = i % (e : Int) := by
      rw [Int.natCast_emod, Int.toNat_of_nonneg a1]
      exact Int.emod_emod_of_dvd i ⟨(q : Int), by rw [← hn, Int.natCast_mul]⟩
    have c2 : ((((i + (e : Int)) % (w.length : Int)).toNat % e : Nat) : Int) = (i + (e : Int)) % (e : Int) := by
      rw [Int.natCast_emod, Int.toNat_of_nonneg b1]
      exact Int.emod_emod_of_dvd _ ⟨(q : Int), by rw [← hn, Int.natCast_mul]⟩
    rw [Int.add_emod_right] at c2
    omega
  · intro h
    refine List.ext_getElem? fun i => ?_
    by_cases hi : i < w.length
    · have e1 : (again (w.take e) q).getD i 0 = w.getD i 0 := by
        rw [again_get (w.take e) q i (by rw [ht, hq2]; exact hi), ht]
        have hlt : i % e < e := Nat.mod_lt _ (by omega)
        rw [List.getD_eq_getElem?_getD, List.getElem?_take_of_lt hlt, ← List.getD_eq_getElem?_getD]
        rw [← cyc_nat (by omega : i % e < w.length), ← cyc_nat hi]
        have := h.mul (i / e) ((i % e : Nat) : Int)
        rw [this]
        congr 1
        have := Nat.mod_add_div i e
        rw [← Int.natCast_mul]
        omega
      have l1 : i < (again (w.take e) q).length := by rw [again_len, ht, hq2]; exact hi
      rw [List.getElem?_eq_getElem l1, List.getElem?_eq_getElem hi]
      rw [List.getD_eq_getElem?_getD, List.getD_eq_getElem?_getD, List.getElem?_eq_getElem l1, List.getElem?_eq_getElem hi] at e1
      simpa using e1
    · rw [List.getElem?_eq_none (by rw [again_len, ht, hq2]; omega), List.getElem?_eq_none (by omega)]
def short (w : List Nat) : List Nat :=
  match (ran 1 w.length).find? (roundBy w) with
  | some d => w.take d.toNat
  | none => w
theorem LeastC.dvd {w : List Nat} {d : Int} (h : LeastC w d) {n : Int} (hn : 0 ≤ n) (k : CycP w n) : n % d = 0 := by
  obtain ⟨h1, h2, h3⟩ := h
  have hm := Int.emod_nonneg n (by omega : d ≠ 0)
  have hm2 := Int.emod_lt_of_pos n (by omega : 0 < d)
  have hd := Int.mul_ediv_add_emod n d
  refine Classical.byContradiction fun hne => ?_
  have : CycP w (n % d) := fun i => by
    rw [k i, h2.mulZ (-(n / d)) (i + n)]
    congr 1
    rw [Int.mul_neg]
    omega
  have := h3 _ (by omega) this
  omega
theorem exists_leastC {w : List Nat} (h : w ≠ []) : ∃ d, LeastC w d := by
  have hl : 0 < w.length := List.length_pos_iff.mpr h
  have : ∀ (k : Nat) (n : Int), n ≤ (k : Int) → 1 ≤ n → CycP w n → ∃ d, LeastC w d := by
    intro k
    induction k with
    | zero => intro n hn h1 hp; omega
    | succ k ih =>
      intro n hn h1 hp
      by_cases q : ∃ e, 1 ≤ e ∧ CycP w e ∧ e ≤ (k : Int)
      · obtain ⟨e, he, hc, hk⟩ := q
        exact ih e hk he hc
      · exact ⟨n, h1, hp, fun e he hc => Classical.byContradiction fun hne => q ⟨e, he, hc, by omega⟩⟩
  exact this w.length w.length (by omega) (by omega) (CycP.len w)
theorem short_least {w : List Nat} (h : w ≠ []) : LeastC w (short w).length ∧ short w = w.take (short w).length ∧ (short w).length ≤ w.length ∧ 0 < (short w).length := by
  have hl : 0 < w.length := List.length_pos_iff.mpr h
  obtain ⟨d, hd⟩ := exists_leastC h
  have hle : d ≤ w.length := hd.2.2 _ (by omega) (CycP.len w)
  have hdv := hd.dvd (by omega) (CycP.len w)
  have key : short w = w.take d.toNat := by
    unfold short
    cases e : (ran 1 w.length).find? (roundBy w) with
    | some c =>
      have hc := List.find?_some e
      have hm := ran_mem.mp (List.mem_of_find?_eq_some e)
      have hcc := (roundBy_iff hm.1 (by omega)).mp hc
      have hdc := hd.2.2 c hm.1 hcc.2
      have : c = d := by
        refine Classical.byContradiction fun hne => ?_
        -- d comes ahead of c
        obtain ⟨_, as, bs, hab, hno⟩ := List.find?_eq_some_iff_append.mp e
        have hdm : d ∈ ran 1 w.length := ran_mem.mpr ⟨hd.1, by omega⟩
        rw [hab] at hdm
        have srt : (ran 1 (w.length : Int)).Pairwise (· < ·) := by
          unfold ran
          rw [List.pairwise_map]
          exact List.pairwise_lt_range.imp fun hab => by omega
        rw [hab] at srt
        rcases List.mem_append.mp hdm with q | q
        · have := hno d q
          rw [(roundBy_iff hd.1 (by omega)).mpr ⟨hdv, hd.2.1⟩] at this
          simp at this
        · rcases List.mem_cons.mp q with q | q
          · exact hne q.symm
          · have := (List.pairwise_append.mp srt).2.1
            have := (List.pairwise_cons.mp this).1 d q
            omega
      rw [this]
    | none =>
      have hno := List.find?_eq_none.mp e
      have : d = w.length := by
        refine Classical.byContradiction fun hne => ?_
        exact hno d (ran_mem.mpr ⟨hd.1, by omega⟩) ((roundBy_iff hd.1 (by omega)).mpr ⟨hdv, hd.2.1⟩)
      rw [this]
      simp
  have hd1 := hd.1
  have el : ((short w).length : Int) = d := by rw [key, List.length_take]; omega
  have el2 : (short w).length = d.toNat := by omega
  refine ⟨by rw [el]; exact hd, by rw [el2]; exact key, by omega, by omega⟩
end RW
namespace RW
theorem ran_split {n : Int} {i : Nat} (h : 1 + (i : Int) < n) : ∃ as bs, ran 1 n = as ++ (1 + (i : Int)) :: bs ∧ ∀ a ∈ as, 1 ≤ a ∧ a < 1 + (i : Int) := by
  refine ⟨(List.range i).map fun k => (1 : Int) + (k : Nat), (List.range ((n - 1).toNat - i - 1)).map fun k => (1 : Int) + ((i + 1 + k : Nat) : Int), ?_, fun a ha => ?_⟩
  · unfold ran
    have : (n - 1).toNat = i + (1 + ((n - 1).toNat - i - 1)) := by omega
    rw [this, List.range_add, List.range_add]
    simp only [List.map_append, List.map_map, List.range_one, List.map_cons, List.map_nil]
    have e : i + (1 + ((n - 1).toNat - i - 1)) - i - 1 = (n - 1).toNat - i - 1 := by omega
    congr 1
    rw [show i + (1 + ((n - 1).toNat - i - 1)) - i - 1 = (n - 1).toNat - i - 1 by omega]
    show [_] ++ _ = _
    rw [List.singleton_append]
    congr 1
    apply List.map_congr_left
    intro k _
    show (1 : Int) + ((i + (1 + k) : Nat) : Int) = _
    omega
  · obtain ⟨k, hk, rfl⟩ := List.mem_map.mp ha
    rw [List.mem_range] at hk
    omega
theorem short_at {w : List Nat} {i : Nat} (h : 1 + (i : Int) < w.length) (hno : ∀ j : Nat, j < i → roundBy w (1 + (j : Int)) = false) (hy : roundBy w (1 + (i : Int)) = true) : short w = w.take (1 + (i : Int)).toNat := by
  obtain ⟨as, bs, e, ha⟩ := ran_split h
  have : (ran 1 w.length).find? (roundBy w) = some (1 + (i : Int)) := by
    rw [e, List.find?_append]
    have : as.find? (roundBy w) = none := List.find?_eq_none.mpr fun a hm => by
      obtain ⟨h1, h2⟩ := ha a hm
      have := hno (a - 1).toNat (by omega)
      rw [show 1 + (((a - 1).toNat : Nat) : Int) = a by omega] at this
      rw [this]
      simp
    rw [this, List.find?_cons, hy]
    rfl
  unfold short
  rw [this]
theorem short_no {w : List Nat} (hno : ∀ j : Nat, j < ((w.length : Int) - 1).toNat → roundBy w (1 + (j : Int)) = false) : short w = w := by
  have : (ran 1 w.length).find? (roundBy w) = none := List.find?_eq_none.mpr fun a hm => by
    obtain ⟨h1, h2⟩ := ran_mem.mp hm
    have := hno (a - 1).toNat (by omega)
    rw [show 1 + (((a - 1).toNat : Nat) : Int) = a by omega] at this
    rw [this]
    simp
  unfold short
  rw [this]
theorem short_len_le (w : List Nat) : (short w).length ≤ w.length := by
  unfold short
  split
  · rw [List.length_take]; omega
  · exact Nat.le_refl _
end RW
set_option maxRecDepth 100000
namespace RW
/-- the law's least step -/
def stepOn (t : List Nat) (s : Int) : Bool := decide (t.drop s.toNat ≠ t.take ((t.length : Int) - s).toNat)
def leastStep (t : List Nat) : Int := up (stepOn t) t.length 1
theorem stepOn_iff {t : List Nat} {s : Int} (h1 : 1 ≤ s) (h2 : s ≤ t.length) : stepOn t s = false ↔ ∀ i : Nat, i + s.toNat < t.length → t[i + s.toNat]? = t[i]? := by
  unfold stepOn
  rw [decide_eq_false_iff_not, Classical.not_not]
  constructor
  · intro h i hi
    have : (t.drop s.toNat)[i]? = (t.take ((t.length : Int) - s).toNat)[i]? := by rw [h]
    rw [List.getElem?_drop, List.getElem?_take_of_lt (by omega)] at this
    rw [← this]
    congr 1
    omega
  · intro h
    refine List.ext_getElem? fun i => ?_
    rw [List.getElem?_drop]
    by_cases hi : i + s.toNat < t.length
    · rw [List.getElem?_take_of_lt (by omega), ← h i hi]
      congr 1
      omega
    · rw [List.getElem?_eq_none (by omega), List.getElem?_eq_none (by rw [List.length_take]; omega)]
theorem leastStep_le {t : List Nat} (h : t ≠ []) : 1 ≤ leastStep t ∧ leastStep t ≤ t.length ∧ stepOn t (leastStep t) = false ∧ ∀ i, 1 ≤ i → i < leastStep t → stepOn t i = true := by
  have hl : 0 < t.length := List.length_pos_iff.mpr h
  have h1 := up_le (stepOn t) t.length 1
  have h2 := up_all (stepOn t) t.length 1
  have last : stepOn t t.length = false := (stepOn_iff (by omega) (by omega)).mpr fun i hi => by omega
  have hlt : leastStep t ≤ t.length := by
    refine Classical.byContradiction fun hc => ?_
    have := h2 t.length (by omega) (by unfold leastStep at hc; omega)
    rw [last] at this
    cases this
  refine ⟨h1.1, hlt, ?_, h2⟩
  exact up_stop (stepOn t) t.length 1 (by unfold leastStep at hlt; omega)
theorem leastStep_L {p : Parts} {n d F : Int} (hn : PerL (sgn p) p.at_ n) (hd : LeastL (sgn p) p.at_ d) (hF : 2 * n ≤ F) : leastStep (str p (p.at_ - F) p.at_) = d := by
  have hn1 := hn.1
  have hd1 := hd.1.1
  have hdn := hd.2 n hn
  have hlen : (str p (p.at_ - F) p.at_).length = F.toNat := by rw [str_len]; congr 1; omega
  have hne : str p (p.at_ - F) p.at_ ≠ [] := fun e => by rw [e] at hlen; simp at hlen; omega
  obtain ⟨a1, a2, a3, a4⟩ := leastStep_le hne
  rw [hlen] at a2
  -- a step q that fits, is a period; a period fits
  have fit : ∀ q : Int, 1 ≤ q → q ≤ F → (stepOn (str p (p.at_ - F) p.at_) q = false ↔ ∀ i, p.at_ - F ≤ i - q → i < p.at_ → sgn p i = sgn p (i - q)) := fun q hq hqF => by
    rw [stepOn_iff hq (by rw [hlen]; omega), hlen]
    constructor
    · intro h i h1 h2
      have := h (i - q - (p.at_ - F)).toNat (by omega)
      rw [str_get (by omega), str_get (by omega)] at this
      have := Option.some.inj this
      rw [show p.at_ - F + (((i - q - (p.at_ - F)).toNat + q.toNat : Nat) : Int) = i by omega, show p.at_ - F + (((i - q - (p.at_ - F)).toNat : Nat) : Int) = i - q by omega] at this
      exact this
    · intro h i hi
      rw [str_get (by omega), str_get (by omega), h _ (by omega) (by omega)]
      congr 2
      omega
  have hstep : stepOn (str p (p.at_ - F) p.at_) d = false := (fit d hd1 (by omega)).mpr fun i _ hi => hd.1.2 i hi
  have le : leastStep (str p (p.at_ - F) p.at_) ≤ d := by
    refine Classical.byContradiction fun hc => ?_
    rw [a4 d hd1 (by omega)] at hstep
    cases hstep
  have per : PerL (sgn p) p.at_ (leastStep (str p (p.at_ - F) p.at_)) := PerL.of_window hn a1 fun i h1 h2 => (fit _ a1 (by omega)).mp a3 i (by omega) h2
  have := hd.2 _ per
  omega
theorem leastStep_R {p : Parts} {n d F : Int} (hn : PerR (sgn p) p.behind n) (hd : LeastR (sgn p) p.behind d) (hF : 2 * n ≤ F) : leastStep (str p p.behind (p.behind + F)) = d := by
  have hn1 := hn.1
  have hd1 := hd.1.1
  have hdn := hd.2 n hn
  have hlen : (str p p.behind (p.behind + F)).length = F.toNat := by rw [str_len]; congr 1; omega
  have hne : str p p.behind (p.behind + F) ≠ [] := fun e => by rw [e] at hlen; simp at hlen; omega
  obtain ⟨a1, a2, a3, a4⟩ := leastStep_le hne
  rw [hlen] at a2
  have fit : ∀ q : Int, 1 ≤ q → q ≤ F → (stepOn (str p p.behind (p.behind + F)) q = false ↔ ∀ i, p.behind ≤ i → i + q < p.behind + F → sgn p i = sgn p (i + q)) := fun q hq hqF => by
    rw [stepOn_iff hq (by rw [hlen]; omega), hlen]
    constructor
    · intro h i h1 h2
      have := h (i - p.behind).toNat (by omega)
      rw [str_get (by omega), str_get (by omega)] at this
      have := Option.some.inj this
      rw [show p.behind + (((i - p.behind).toNat + q.toNat : Nat) : Int) = i + q by omega, show p.behind + (((i - p.behind).toNat : Nat) : Int) = i by omega] at this
      exact this.symm
    · intro h i hi
      rw [str_get (by omega), str_get (by omega), h (p.behind + (i : Nat)) (by omega) (by omega)]
      congr 2
      omega
  have hstep : stepOn (str p p.behind (p.behind + F)) d = false := (fit d hd1 (by omega)).mpr fun i hi _ => hd.1.2 i hi
  have le : leastStep (str p p.behind (p.behind + F)) ≤ d := by
    refine Classical.byContradiction fun hc => ?_
    rw [a4 d hd1 (by omega)] at hstep
    cases hstep
  have per : PerR (sgn p) p.behind (leastStep (str p p.behind (p.behind + F))) := PerR.of_window hn a1 fun i h1 h2 => (fit _ a1 (by omega)).mp a3 i (by omega) (by omega)
  have := hd.2 _ per
  omega
/-! ### told plainly -/
def onL (p : Parts) (b : Int) (x : Int) : Bool := decide (sgn p x = sgn p (x - b))
def onR (p : Parts) (o : Int) (y : Int) : Bool := decide (sgn p (y - 1) = sgn p (y - 1 + o))
/-- the plain telling, by the two least periods and a bound B -/
def tell (p : Parts) (b o B : Int) : Parts :=
  let x := up (onL p b) (B - p.at_).toNat p.at_
  if x = B then ⟨str p 0 b, [], str p 0 b, 0⟩
  else
    let e0 := if p.behind > x then p.behind else x
    let e := down (onR p o) (e0 - x).toNat e0
    ⟨str p (x - b) x, str p x e, str p e (e + o), x⟩
def plain (p : Parts) : Parts := tell p (short p.left).length (short p.right).length (p.behind + (short p.left).length + (short p.right).length)
def far (p : Parts) : Int := 2 * (if (p.right.length : Int) > p.left.length then (p.right.length : Int) else p.left.length) + 10
def lawPlain (p : Parts) : Parts := tell p (leastStep (str p (p.at_ - far p) p.at_)) (leastStep (str p p.behind (p.behind + far p))) (p.behind + far p)
theorem tell_more {p : Parts} {b o B : Int} (hb : LeastL (sgn p) p.at_ b) (ho : LeastR (sgn p) p.behind o) (hB : p.behind + b + o ≤ B) : tell p b o B = tell p b o (p.behind + b + o) := by
  have hb1 := hb.1.1
  have ho1 := ho.1.1
  have hbe : p.at_ ≤ p.behind := by unfold Parts.behind; omega
  have n1 : (B - p.at_).toNat = (p.behind + b + o - p.at_).toNat + (B - (p.behind + b + o)).toNat := by omega
  have u := up_le (onL p b) (p.behind + b + o - p.at_).toNat p.at_
  by_cases hs : up (onL p b) (p.behind + b + o - p.at_).toNat p.at_ < p.behind + b + o
  · have e : up (onL p b) (B - p.at_).toNat p.at_ = up (onL p b) (p.behind + b + o - p.at_).toNat p.at_ := by rw [n1]; exact up_more _ _ _ _ (by omega)
    unfold tell
    simp only
    rw [e, if_neg (show ¬ up (onL p b) (p.behind + b + o - p.at_).toNat p.at_ = B by omega), if_neg (show ¬ up (onL p b) (p.behind + b + o - p.at_).toNat p.at_ = p.behind + b + o by omega)]
  · have e1 : up (onL p b) (p.behind + b + o - p.at_).toNat p.at_ = p.behind + b + o := by omega
    -- one round: it goes on for ever
    have ha := up_all (onL p b) (p.behind + b + o - p.at_).toNat p.at_
    rw [e1] at ha
    have pR : PerR (sgn p) p.behind b := PerR.of_window ho.1 hb1 fun i h1 h2 => by
      have := ha (i + b) (by omega) (by omega)
      unfold onL at this
      have := of_decide_eq_true this
      rw [show i + b - b = i by omega] at this
      exact this.symm
    have all : ∀ i, p.at_ ≤ i → onL p b i = true := fun i hi => by
      by_cases h : i < p.behind + b + o
      · exact ha i hi h
      · unfold onL
        have := pR.2 (i - b) (by omega)
        rw [show i - b + b = i by omega] at this
        rw [this]
        simp
    have e2 : up (onL p b) (B - p.at_).toNat p.at_ = B := by
      rw [up_full _ _ _ fun i h1 _ => all i h1]
      omega
    unfold tell
    simp only
    rw [e1, e2, if_pos rfl, if_pos rfl]
theorem lawPlain_eq {p : Parts} (hl : p.left ≠ []) (hr : p.right ≠ []) : lawPlain p = plain p := by
  obtain ⟨a1, _, a2, a3⟩ := short_least hl
  obtain ⟨b1, _, b2, b3⟩ := short_least hr
  have L := leastL_cyc hl a1
  have R := leastR_cyc hr b1
  unfold lawPlain
  have f1 : 2 * (p.left.length : Int) ≤ far p := by unfold far; split <;> omega
  have f2 : 2 * (p.right.length : Int) ≤ far p := by unfold far; split <;> omega
  rw [leastStep_L (sgn_L hl) L f1, leastStep_R (sgn_R hr) R f2]
  exact tell_more L R (by omega)
end RW
set_option maxRecDepth 100000
namespace RW
theorem getD_mem {l : List Nat} {i : Nat} (h : i < l.length) : l.getD i 0 ∈ l := by
  rw [List.getD_eq_getElem?_getD, List.getElem?_eq_getElem h]
  exact List.getElem_mem _
theorem sgn_mem {p : Parts} (hl : p.left ≠ []) (hr : p.right ≠ []) (i : Int) : sgn p i ∈ p.left ++ p.part ++ p.right := by
  have l1 : 0 < p.left.length := List.length_pos_iff.mpr hl
  have l2 : 0 < p.right.length := List.length_pos_iff.mpr hr
  unfold sgn
  by_cases h1 : i < p.at_
  · rw [if_pos h1]
    have m1 := Int.emod_nonneg (i - p.at_) (by omega : (p.left.length : Int) ≠ 0)
    have m2 := Int.emod_lt_of_pos (i - p.at_) (by omega : (0 : Int) < p.left.length)
    exact List.mem_append_left _ (List.mem_append_left _ (getD_mem (by omega)))
  · rw [if_neg h1]
    by_cases h2 : i < p.at_ + (p.part.length : Int)
    · rw [if_pos h2]
      exact List.mem_append_left _ (List.mem_append_right _ (getD_mem (by omega)))
    · rw [if_neg h2]
      have m1 := Int.emod_nonneg (i - p.at_ - (p.part.length : Int)) (by omega : (p.right.length : Int) ≠ 0)
      have m2 := Int.emod_lt_of_pos (i - p.at_ - (p.part.length : Int)) (by omega : (0 : Int) < p.right.length)
      exact List.mem_append_right _ (getD_mem (by omega))
theorem str_mem {p : Parts} (hl : p.left ≠ []) (hr : p.right ≠ []) {lo hi : Int} {c : Nat} (h : c ∈ str p lo hi) : c ∈ p.left ++ p.part ++ p.right := by
  unfold str at h
  obtain ⟨i, _, rfl⟩ := List.mem_map.mp h
  exact sgn_mem hl hr i
theorem down_le (P : Int → Bool) : ∀ (n : Nat) (x : Int), x - n ≤ down P n x ∧ down P n x ≤ x
  | 0, x => by simp [down]
  | n + 1, x => by
    unfold down
    split
    · have := down_le P n (x - 1); omega
    · omega
/-- what stands in a plain telling -/
structure Told (p q : Parts) : Prop where
  left : q.left ≠ [] ∧ q.left.length ≤ p.left.length
  right : q.right ≠ [] ∧ (q.right.length ≤ p.right.length ∨ q.right.length ≤ p.left.length)
  part : q.part.length ≤ p.part.length
  lo : p.at_ ≤ q.at_ ∨ q.at_ = 0
  hi : q.at_ ≤ p.at_ + p.part.length + p.left.length + p.right.length ∨ q.at_ = 0
  mem : ∀ c, c ∈ q.left ∨ c ∈ q.part ∨ c ∈ q.right → c ∈ p.left ++ p.part ++ p.right
theorem plain_told {p : Parts} (hl : p.left ≠ []) (hr : p.right ≠ []) : Told p (plain p) := by
  obtain ⟨_, _, a2, a3⟩ := short_least hl
  obtain ⟨_, _, b2, b3⟩ := short_least hr
  unfold plain tell
  simp only
  generalize hb : (short p.left).length = b at *
  generalize ho : (short p.right).length = o at *
  have hbe : p.behind = p.at_ + (p.part.length : Int) := rfl
  have u := up_le (onL p b) (p.behind + b + o - p.at_).toNat p.at_
  generalize up (onL p b) (p.behind + b + o - p.at_).toNat p.at_ = x at *
  have ne : ∀ {lo hi : Int}, lo < hi → str p lo hi ≠ [] := fun {lo hi} h z => by
    have := str_len p lo hi
    rw [z] at this
    simp at this
    omega
  by_cases h : x = p.behind + b + o
  · rw [if_pos h]
    refine ⟨⟨ne (by omega), by rw [str_len]; omega⟩, ⟨ne (by omega), .inr (by rw [str_len]; omega)⟩, Nat.zero_le _, .inr rfl, .inr rfl, fun c hc => ?_⟩
    rcases hc with hc | hc | hc
    · exact str_mem hl hr hc
    · exact (List.not_mem_nil hc).elim
    · exact str_mem hl hr hc
  · rw [if_neg h]
    have d := down_le (onR p o) ((if p.behind > x then p.behind else x) - x).toNat (if p.behind > x then p.behind else x)
    generalize he0 : (if p.behind > x then p.behind else x) = e0 at *
    have he1 : x ≤ e0 ∧ e0 ≤ x + p.part.length := by rw [← he0]; split <;> omega
    generalize down (onR p o) (e0 - x).toNat e0 = e at *
    refine ⟨⟨ne (by omega), by rw [str_len]; omega⟩, ⟨ne (by omega), .inl (by rw [str_len]; omega)⟩, by rw [str_len]; omega, .inl u.1, .inl (show x ≤ _ by omega), fun c hc => ?_⟩
    rcases hc with hc | hc | hc <;> exact str_mem hl hr hc
end RW
set_option maxRecDepth 100000
namespace RW
/-! ### a plain telling tells the same row -/
/-- what the plain telling is made of: its place, its end, its rounds -/
structure Cut (f : Int → Nat) (b o x e : Int) : Prop where
  b1 : 1 ≤ b
  o1 : 1 ≤ o
  xe : x ≤ e
  l : ∀ j, j < x → f j = f (j - b)
  x0 : f x ≠ f (x - b)
  r : ∀ j, e ≤ j → f j = f (j + o)
  e0 : e = x ∨ f (e - 1) ≠ f (e - 1 + o)
theorem down_all (P : Int → Bool) : ∀ (n : Nat) (x i : Int), down P n x < i → i ≤ x → P i = true
  | 0, x, i, h1, h2 => by simp [down] at h1; omega
  | n + 1, x, i, h1, h2 => by
    unfold down at h1
    by_cases hp : P x = true
    · rw [if_pos hp] at h1
      by_cases e : i = x
      · rw [e]; exact hp
      · exact down_all P n (x - 1) i h1 (by omega)
    · rw [if_neg hp] at h1; omega
theorem down_stop (P : Int → Bool) : ∀ (n : Nat) (x : Int), down P n x > x - n → P (down P n x) = false
  | 0, x, h => by simp [down] at h
  | n + 1, x, h => by
    unfold down at h ⊢
    by_cases hp : P x = true
    · rw [if_pos hp] at h ⊢
      exact down_stop P n (x - 1) (by omega)
    · rw [if_neg hp]
      simpa using hp
/-- the least periods far to the left, far to the right -/
def LP (f : Int → Nat) (d : Int) : Prop := 1 ≤ d ∧ ∃ a, ∀ i, i < a → f i = f (i - d)
def RP (f : Int → Nat) (d : Int) : Prop := 1 ≤ d ∧ ∃ a, ∀ i, a ≤ i → f i = f (i + d)
def LeastLP (f : Int → Nat) (b : Int) : Prop := LP f b ∧ ∀ e, LP f e → b ≤ e
def LeastRP (f : Int → Nat) (b : Int) : Prop := RP f b ∧ ∀ e, RP f e → b ≤ e
theorem LP.perL {f : Int → Nat} {a n d : Int} (h : PerL f a n) (k : LP f d) : PerL f a d := by
  obtain ⟨h1, c, hc⟩ := k
  refine ⟨h1, fun i hi => ?_⟩
  have hn := h.1
  have e1 := h.mul (i - c + 1).toNat i hi
  have e2 := h.mul (i - c + 1).toNat (i - d) (by omega)
  have big : (i - c + 1) ≤ n * ((i - c + 1).toNat : Int) := by
    have : (1 : Int) * ((i - c + 1).toNat : Int) ≤ n * ((i - c + 1).toNat : Int) := Int.mul_le_mul_of_nonneg_right hn (by omega)
    omega
  rw [e1, e2, hc _ (by omega)]
  congr 1
  omega
theorem RP.perR {f : Int → Nat} {a n d : Int} (h : PerR f a n) (k : RP f d) : PerR f a d := by
  obtain ⟨h1, c, hc⟩ := k
  refine ⟨h1, fun i hi => ?_⟩
  have hn := h.1
  have e1 := h.mul (c - i).toNat i hi
  have e2 := h.mul (c - i).toNat (i + d) (by omega)
  have big : (c - i) ≤ n * ((c - i).toNat : Int) := by
    have : (1 : Int) * ((c - i).toNat : Int) ≤ n * ((c - i).toNat : Int) := Int.mul_le_mul_of_nonneg_right hn (by omega)
    omega
  rw [e1, e2, hc _ (by omega)]
  congr 1
  omega
theorem LeastL.lp {f : Int → Nat} {a b : Int} (h : LeastL f a b) : LeastLP f b := ⟨⟨h.1.1, a, h.1.2⟩, fun e he => h.2 e (he.perL h.1)⟩
theorem LeastR.rp {f : Int → Nat} {a b : Int} (h : LeastR f a b) : LeastRP f b := ⟨⟨h.1.1, a, h.1.2⟩, fun e he => h.2 e (he.perR h.1)⟩
theorem LeastLP.uniq {f : Int → Nat} {b c : Int} (h : LeastLP f b) (k : LeastLP f c) : b = c := Int.le_antisymm (h.2 c k.1) (k.2 b h.1)
theorem LeastRP.uniq {f : Int → Nat} {b c : Int} (h : LeastRP f b) (k : LeastRP f c) : b = c := Int.le_antisymm (h.2 c k.1) (k.2 b h.1)
/-- the signs of f -/
def sf (f : Int → Nat) (lo hi : Int) : List Nat := (ran lo hi).map f
/-- a plain telling, by its signs -/
def IsPlain (f : Int → Nat) (q : Parts) : Prop := ∃ b o, LeastLP f b ∧ LeastRP f o ∧
  (((∀ j, f j = f (j - b)) ∧ q = ⟨sf f 0 b, [], sf f 0 b, 0⟩) ∨ ∃ x e, Cut f b o x e ∧ q = ⟨sf f (x - b) x, sf f x e, sf f e (e + o), x⟩)
theorem IsPlain.uniq {f : Int → Nat} {q q' : Parts} (h : IsPlain f q) (h' : IsPlain f q') : q = q' := by
  obtain ⟨b, o, hb, ho, h⟩ := h
  obtain ⟨b', o', hb', ho', h'⟩ := h'
  obtain rfl := hb.uniq hb'
  obtain rfl := ho.uniq ho'
  rcases h with ⟨h1, rfl⟩ | ⟨x, e, hc, rfl⟩
  · rcases h' with ⟨_, rfl⟩ | ⟨x', e', hc', rfl⟩
    · rfl
    · exact (hc'.x0 (h1 _)).elim
  · rcases h' with ⟨h1, rfl⟩ | ⟨x', e', hc', rfl⟩
    · exact (hc.x0 (h1 _)).elim
    · have ex : x = x' := by
        rcases Int.lt_trichotomy x x' with q | q | q
        · exact (hc.x0 (hc'.l x q)).elim
        · exact q
        · exact (hc'.x0 (hc.l x' q)).elim
      subst ex
      have ee : e = e' := by
        have := hc.xe
        have := hc'.xe
        rcases Int.lt_trichotomy e e' with q | q | q
        · rcases hc'.e0 with z | z
          · omega
          · exact (z (hc.r _ (by omega))).elim
        · exact q
        · rcases hc.e0 with z | z
          · omega
          · exact (z (hc'.r _ (by omega))).elim
      subst ee
      rfl
theorem plain_is {p : Parts} (hl : p.left ≠ []) (hr : p.right ≠ []) : IsPlain (sgn p) (plain p) := by
  obtain ⟨a1, _, a2, a3⟩ := short_least hl
  obtain ⟨b1, _, b2, b3⟩ := short_least hr
  have L := leastL_cyc hl a1
  have R := leastR_cyc hr b1
  refine ⟨_, _, L.lp, R.rp, ?_⟩
  unfold plain tell
  simp only
  generalize hb : ((short p.left).length : Int) = b at *
  generalize ho : ((short p.right).length : Int) = o at *
  have hbe : p.behind = p.at_ + (p.part.length : Int) := rfl
  have u := up_le (onL p b) (p.behind + b + o - p.at_).toNat p.at_
  have ua := up_all (onL p b) (p.behind + b + o - p.at_).toNat p.at_
  have us := up_stop (onL p b) (p.behind + b + o - p.at_).toNat p.at_
  generalize up (onL p b) (p.behind + b + o - p.at_).toNat p.at_ = x at *
  by_cases h : x = p.behind + b + o
  · rw [if_pos h]
    refine .inl ⟨fun j => ?_, rfl⟩
    -- one round: it goes on for ever
    have pR : PerR (sgn p) p.behind b := PerR.of_window R.1 (by omega) fun i h1 h2 => by
      have := ua (i + b) (by omega) (by omega)
      unfold onL at this
      have := of_decide_eq_true this
      rw [show i + b - b = i by omega] at this
      exact this.symm
    by_cases h1 : j < p.at_
    · exact L.1.2 j h1
    · by_cases h2 : j < x
      · have := ua j (by omega) h2
        unfold onL at this
        exact of_decide_eq_true this
      · have := pR.2 (j - b) (by omega)
        rw [show j - b + b = j by omega] at this
        exact this.symm
  · rw [if_neg h]
    refine .inr ?_
    have hx0 := us (by omega)
    have d := down_le (onR p o) ((if p.behind > x then p.behind else x) - x).toNat (if p.behind > x then p.behind else x)
    have da := down_all (onR p o) ((if p.behind > x then p.behind else x) - x).toNat (if p.behind > x then p.behind else x)
    have ds := down_stop (onR p o) ((if p.behind > x then p.behind else x) - x).toNat (if p.behind > x then p.behind else x)
    generalize he0 : (if p.behind > x then p.behind else x) = e0 at *
    have he1 : x ≤ e0 ∧ p.behind ≤ e0 := by rw [← he0]; split <;> omega
    generalize down (onR p o) (e0 - x).toNat e0 = e at *
    refine ⟨x, e, ⟨by omega, by omega, by omega, fun j hj => ?_, ?_, fun j hj => ?_, ?_⟩, rfl⟩
    · by_cases h1 : j < p.at_
      · exact L.1.2 j h1
      · have := ua j (by omega) hj
        unfold onL at this
        exact of_decide_eq_true this
    · unfold onL at hx0
      exact of_decide_eq_false hx0
    · by_cases h1 : j < e0
      · have := da (j + 1) (by omega) (by omega)
        unfold onR at this
        have := of_decide_eq_true this
        rw [show j + 1 - 1 = j by omega] at this
        exact this
      · exact R.1.2 j (by omega)
    · by_cases h1 : e = x
      · exact .inl h1
      · have := ds (by omega)
        unfold onR at this
        exact .inr (of_decide_eq_false this)
/-- rows of the same signs are told alike -/
theorem plain_same {p q : Parts} (hl : p.left ≠ []) (hr : p.right ≠ []) (kl : q.left ≠ []) (kr : q.right ≠ []) (h : ∀ i, sgn p i = sgn q i) : plain p = plain q := by
  have e : sgn p = sgn q := funext h
  have h1 := plain_is hl hr
  have h2 := plain_is kl kr
  rw [e] at h1
  exact h1.uniq h2
theorem sf_len (f : Int → Nat) (lo hi : Int) : (sf f lo hi).length = (hi - lo).toNat := by unfold sf; rw [List.length_map, ran_len]
theorem sf_get {f : Int → Nat} {lo hi : Int} {k : Int} (h0 : 0 ≤ k) (h : k < hi - lo) : (sf f lo hi).getD k.toNat 0 = f (lo + k) := by
  unfold sf
  rw [List.getD_eq_getElem?_getD, List.getElem?_map, ran_get (by omega)]
  show f (lo + (k.toNat : Int)) = _
  rw [Int.toNat_of_nonneg h0]
theorem per_emod {f : Int → Nat} {b i c : Int} (hb : 1 ≤ b) (h : ∀ j, j < c → f j = f (j - b)) (hi : i < c) : f (c - b + (i - c) % b) = f i := by
  have P : PerL f c b := ⟨hb, h⟩
  have m1 := Int.emod_nonneg (i - c) (by omega : b ≠ 0)
  have m2 := Int.emod_lt_of_pos (i - c) (by omega : 0 < b)
  have hd := Int.mul_ediv_add_emod (i - c) b
  have hk : 0 ≤ -((i - c) / b) - 1 := by
    have : (i - c) / b < 0 := Int.ediv_neg_of_neg_of_pos (by omega) (by omega)
    omega
  obtain ⟨k, hk⟩ := Int.eq_ofNat_of_zero_le hk
  have := P.mul k (c - b + (i - c) % b) (by omega)
  rw [this]
  congr 1
  have e : (i - c) / b = -(k : Int) - 1 := by omega
  rw [e, Int.mul_sub, Int.mul_neg, Int.mul_one] at hd
  omega
theorem per_emodR {f : Int → Nat} {b i c : Int} (hb : 1 ≤ b) (h : ∀ j, c ≤ j → f j = f (j + b)) (hi : c ≤ i) : f (c + (i - c) % b) = f i := by
  have P : PerR f c b := ⟨hb, h⟩
  have m1 := Int.emod_nonneg (i - c) (by omega : b ≠ 0)
  have hd := Int.mul_ediv_add_emod (i - c) b
  obtain ⟨k, hk⟩ := Int.eq_ofNat_of_zero_le (Int.ediv_nonneg (by omega : 0 ≤ i - c) (by omega : 0 ≤ b))
  rw [hk] at hd
  have := P.mul k (c + (i - c) % b) (by omega)
  rw [this]
  congr 1
  omega
/-- the plain telling has the same signs -/
theorem sgn_plain {p : Parts} (hl : p.left ≠ []) (hr : p.right ≠ []) (i : Int) : sgn (plain p) i = sgn p i := by
  obtain ⟨b, o, hb, ho, h⟩ := plain_is hl hr
  have b1 := hb.1.1
  have o1 := ho.1.1
  generalize sgn p = f at *
  rcases h with ⟨h1, e⟩ | ⟨x, e, hc, eq⟩
  · rw [e]
    have m1 := Int.emod_nonneg i (by omega : b ≠ 0)
    have m2 := Int.emod_lt_of_pos i (by omega : 0 < b)
    have key : (sf f 0 b).getD (i % b).toNat 0 = f i := by
      rw [sf_get m1 (by omega), Int.zero_add]
      by_cases hi : i < 0
      · have := per_emod (f := f) (c := 0) b1 (fun j _ => h1 j) hi
        rw [Int.sub_zero] at this
        rw [h1 (i % b), ← this]
        congr 1
        omega
      · have := per_emodR (f := f) (c := 0) b1 (fun j _ => by have := h1 (j + b); rw [show j + b - b = j by omega] at this; exact this.symm) (by omega : 0 ≤ i)
        rw [Int.sub_zero, Int.zero_add] at this
        exact this
    have lb : ((sf f 0 b).length : Int) = b := by rw [sf_len]; omega
    unfold sgn
    simp only [List.length_nil]
    rw [lb]
    split
    · rw [Int.sub_zero]; exact key
    · rw [if_neg (by omega)]
      rw [show i - 0 - ((0 : Nat) : Int) = i by omega]
      exact key
  · rw [eq]
    have xe := hc.xe
    have l1 : ((sf f (x - b) x).length : Int) = b := by rw [sf_len]; omega
    have l2 : ((sf f x e).length : Int) = e - x := by rw [sf_len]; omega
    have l3 : ((sf f e (e + o)).length : Int) = o := by rw [sf_len]; omega
    unfold sgn
    simp only
    rw [l1, l2, l3]
    by_cases h1 : i < x
    · rw [if_pos h1]
      have m1 := Int.emod_nonneg (i - x) (by omega : b ≠ 0)
      have m2 := Int.emod_lt_of_pos (i - x) (by omega : 0 < b)
      rw [sf_get m1 (by omega)]
      exact per_emod b1 hc.l h1
    · rw [if_neg h1]
      by_cases h2 : i < x + (e - x)
      · rw [if_pos h2, sf_get (by omega) (by omega)]
        congr 1
        omega
      · rw [if_neg h2]
        have m1 := Int.emod_nonneg (i - x - (e - x)) (by omega : o ≠ 0)
        have m2 := Int.emod_lt_of_pos (i - x - (e - x)) (by omega : 0 < o)
        rw [sf_get m1 (by omega)]
        have := per_emodR (f := f) (c := e) o1 hc.r (by omega : e ≤ i)
        rw [show i - x - (e - x) = i - e by omega]
        exact this
end RW
set_option maxRecDepth 100000
namespace RW
/-! ### the same row told otherwise -/
theorem sgn_mid {p : Parts} {i : Int} (h1 : p.at_ ≤ i) (h2 : i < p.behind) : sgn p i = p.part.getD (i - p.at_).toNat 0 := by
  unfold Parts.behind at h2
  unfold sgn
  rw [if_neg (by omega), if_pos h2]
theorem cyc_again {w : List Nat} (h : w ≠ []) (i : Int) : cyc (again w 2) i = cyc w i := by
  have hl : 0 < w.length := List.length_pos_iff.mpr h
  unfold cyc
  have e : ((again w 2).length : Int) = 2 * (w.length : Int) := by rw [again_len, Int.natCast_mul]; rfl
  rw [e]
  have m1 := Int.emod_nonneg i (by omega : 2 * (w.length : Int) ≠ 0)
  have m2 := Int.emod_lt_of_pos i (by omega : 0 < 2 * (w.length : Int))
  rw [again_get w 2 _ (by omega)]
  congr 1
  have n1 := Int.emod_nonneg i (by omega : (w.length : Int) ≠ 0)
  have : (((i % (2 * (w.length : Int))).toNat % w.length : Nat) : Int) = i % (w.length : Int) := by
    rw [Int.natCast_emod, Int.toNat_of_nonneg m1]
    exact Int.emod_emod_of_dvd i ⟨2, by omega⟩
  omega
/-- the round turned by one -/
def turnL (w : List Nat) : List Nat := w.getD (w.length - 1) 0 :: w.take (w.length - 1)
def turnR (w : List Nat) : List Nat := w.drop 1 ++ [w.getD 0 0]
theorem turnL_len {w : List Nat} (h : w ≠ []) : (turnL w).length = w.length := by
  have hl : 0 < w.length := List.length_pos_iff.mpr h
  unfold turnL
  rw [List.length_cons, List.length_take]
  omega
theorem turnR_len {w : List Nat} (h : w ≠ []) : (turnR w).length = w.length := by
  have hl : 0 < w.length := List.length_pos_iff.mpr h
  unfold turnR
  rw [List.length_append, List.length_drop, List.length_singleton]
  omega
theorem cyc_turnL {w : List Nat} (h : w ≠ []) (i : Int) : cyc (turnL w) i = cyc w (i - 1) := by
  have hl : 0 < w.length := List.length_pos_iff.mpr h
  unfold cyc
  rw [turnL_len h]
  have m1 := Int.emod_nonneg i (by omega : (w.length : Int) ≠ 0)
  have m2 := Int.emod_lt_of_pos i (by omega : (0 : Int) < w.length)
  have hd := Int.mul_ediv_add_emod i w.length
  by_cases h0 : i % (w.length : Int) = 0
  · have e : (i - 1) % (w.length : Int) = (w.length : Int) - 1 := by
      have : i - 1 = ((w.length : Int) - 1) + (w.length : Int) * (i / (w.length : Int) - 1) := by rw [Int.mul_sub, Int.mul_one]; omega
      rw [this, Int.add_mul_emod_self_left, Int.emod_eq_of_lt (by omega) (by omega)]
    rw [h0, e]
    show (turnL w).getD 0 0 = _
    unfold turnL
    rw [List.getD_eq_getElem?_getD]
    show w.getD (w.length - 1) 0 = _
    congr 1
    omega
  · have e : (i - 1) % (w.length : Int) = i % (w.length : Int) - 1 := by
      have : i - 1 = (i % (w.length : Int) - 1) + (w.length : Int) * (i / (w.length : Int)) := by omega
      rw [this, Int.add_mul_emod_self_left, Int.emod_eq_of_lt (by omega) (by omega)]
    rw [e]
    generalize i % (w.length : Int) = r at *
    obtain ⟨k, hk⟩ : ∃ k : Nat, r.toNat = k + 1 := ⟨r.toNat - 1, by omega⟩
    have e2 : (r - 1).toNat = k := by omega
    rw [hk, e2]
    unfold turnL
    rw [List.getD_eq_getElem?_getD, List.getElem?_cons_succ, List.getElem?_take_of_lt (by omega), ← List.getD_eq_getElem?_getD]
theorem cyc_turnR {w : List Nat} (h : w ≠ []) (i : Int) : cyc (turnR w) i = cyc w (i + 1) := by
  have hl : 0 < w.length := List.length_pos_iff.mpr h
  unfold cyc
  rw [turnR_len h]
  have m1 := Int.emod_nonneg i (by omega : (w.length : Int) ≠ 0)
  have m2 := Int.emod_lt_of_pos i (by omega : (0 : Int) < w.length)
  have hd := Int.mul_ediv_add_emod i w.length
  by_cases h0 : i % (w.length : Int) = (w.length : Int) - 1
  · have e : (i + 1) % (w.length : Int) = 0 := by
      have : i + 1 = 0 + (w.length : Int) * (i / (w.length : Int) + 1) := by rw [Int.mul_add, Int.mul_one]; omega
      rw [this, Int.add_mul_emod_self_left]
      rfl
    rw [h0, e]
    unfold turnR
    rw [List.getD_eq_getElem?_getD, List.getElem?_append_right (by rw [List.length_drop]; omega), List.length_drop]
    have : ((w.length : Int) - 1).toNat - (w.length - 1) = 0 := by omega
    rw [this]
    rfl
  · have e : (i + 1) % (w.length : Int) = i % (w.length : Int) + 1 := by
      have : i + 1 = (i % (w.length : Int) + 1) + (w.length : Int) * (i / (w.length : Int)) := by omega
      rw [this, Int.add_mul_emod_self_left, Int.emod_eq_of_lt (by omega) (by omega)]
    rw [e]
    generalize i % (w.length : Int) = r at *
    unfold turnR
    rw [List.getD_eq_getElem?_getD, List.getElem?_append_left (by rw [List.length_drop]; omega), List.getElem?_drop, ← List.getD_eq_getElem?_getD]
    congr 1
    omega
/-- the four ways -/
inductive Alike : Parts → Parts → Prop where
  | same (p : Parts) : Alike p p
  | dblL (p : Parts) : Alike p ⟨again p.left 2, p.part, p.right, p.at_⟩
  | dblR (p : Parts) : Alike p ⟨p.left, p.part, again p.right 2, p.at_⟩
  | outL (p : Parts) : Alike p ⟨turnL p.left, p.left.getD (p.left.length - 1) 0 :: p.part, p.right, p.at_ - 1⟩
  | outR (p : Parts) : Alike p ⟨p.left, p.part ++ [p.right.getD 0 0], turnR p.right, p.at_⟩
theorem Alike.sgn {p q : Parts} (h : Alike p q) (hl : p.left ≠ []) (hr : p.right ≠ []) (i : Int) : RW.sgn q i = RW.sgn p i := by
  have l1 : 0 < p.left.length := List.length_pos_iff.mpr hl
  have l2 : 0 < p.right.length := List.length_pos_iff.mpr hr
  cases h with
  | same => rfl
  | dblL =>
    by_cases h1 : i < p.at_
    · rw [sgn_left (p := ⟨again p.left 2, p.part, p.right, p.at_⟩) h1, sgn_left h1]
      exact cyc_again hl _
    · by_cases h2 : i < p.behind
      · rw [sgn_mid (p := ⟨again p.left 2, p.part, p.right, p.at_⟩) (by show p.at_ ≤ i; omega) h2, sgn_mid (by omega) h2]
      · rw [sgn_right (p := ⟨again p.left 2, p.part, p.right, p.at_⟩) (by show p.behind ≤ i; omega), sgn_right (by omega)]
        rfl
  | dblR =>
    by_cases h1 : i < p.at_
    · rw [sgn_left (p := ⟨p.left, p.part, again p.right 2, p.at_⟩) h1, sgn_left h1]
    · by_cases h2 : i < p.behind
      · rw [sgn_mid (p := ⟨p.left, p.part, again p.right 2, p.at_⟩) (by show p.at_ ≤ i; omega) h2, sgn_mid (by omega) h2]
      · rw [sgn_right (p := ⟨p.left, p.part, again p.right 2, p.at_⟩) (by show p.behind ≤ i; omega), sgn_right (by omega)]
        exact cyc_again hr _
  | outL =>
    have hb : (Parts.mk (turnL p.left) (p.left.getD (p.left.length - 1) 0 :: p.part) p.right (p.at_ - 1)).behind = p.behind := by
      unfold Parts.behind
      simp only [List.length_cons]
      omega
    by_cases h1 : i < p.at_ - 1
    · rw [sgn_left (p := ⟨turnL p.left, p.left.getD (p.left.length - 1) 0 :: p.part, p.right, p.at_ - 1⟩) h1, sgn_left (by omega)]
      show cyc (turnL p.left) (i - (p.at_ - 1)) = _
      rw [cyc_turnL hl]
      congr 1
      omega
    · by_cases h0 : i = p.at_ - 1
      · rw [sgn_mid (p := ⟨turnL p.left, p.left.getD (p.left.length - 1) 0 :: p.part, p.right, p.at_ - 1⟩) (by show p.at_ - 1 ≤ i; omega) (by rw [hb]; unfold Parts.behind; omega), sgn_left (by omega)]
        show (p.left.getD (p.left.length - 1) 0 :: p.part).getD (i - (p.at_ - 1)).toNat 0 = _
        rw [show (i - (p.at_ - 1)).toNat = 0 by omega, show i - p.at_ = ((p.left.length - 1 : Nat) : Int) + (p.left.length : Int) * (-1) by omega, cyc_add, cyc_nat (by omega)]
        rfl
      · by_cases h2 : i < p.behind
        · rw [sgn_mid (p := ⟨turnL p.left, p.left.getD (p.left.length - 1) 0 :: p.part, p.right, p.at_ - 1⟩) (by show p.at_ - 1 ≤ i; omega) (by rw [hb]; exact h2), sgn_mid (by omega) h2]
          show (p.left.getD (p.left.length - 1) 0 :: p.part).getD (i - (p.at_ - 1)).toNat 0 = _
          rw [show (i - (p.at_ - 1)).toNat = (i - p.at_).toNat + 1 by omega]
          rfl
        · rw [sgn_right (p := ⟨turnL p.left, p.left.getD (p.left.length - 1) 0 :: p.part, p.right, p.at_ - 1⟩) (by rw [hb]; omega), sgn_right (by omega), hb]
  | outR =>
    have hb : (Parts.mk p.left (p.part ++ [p.right.getD 0 0]) (turnR p.right) p.at_).behind = p.behind + 1 := by
      unfold Parts.behind
      simp only [List.length_append, List.length_singleton]
      omega
    by_cases h1 : i < p.at_
    · rw [sgn_left (p := ⟨p.left, p.part ++ [p.right.getD 0 0], turnR p.right, p.at_⟩) h1, sgn_left h1]
    · by_cases h2 : i < p.behind
      · rw [sgn_mid (p := ⟨p.left, p.part ++ [p.right.getD 0 0], turnR p.right, p.at_⟩) (by show p.at_ ≤ i; omega) (by rw [hb]; omega), sgn_mid (by omega) h2]
        show (p.part ++ [p.right.getD 0 0]).getD (i - p.at_).toNat 0 = _
        unfold Parts.behind at h2
        rw [List.getD_eq_getElem?_getD, List.getElem?_append_left (by omega), ← List.getD_eq_getElem?_getD]
      · by_cases h3 : i = p.behind
        · rw [sgn_mid (p := ⟨p.left, p.part ++ [p.right.getD 0 0], turnR p.right, p.at_⟩) (by show p.at_ ≤ i; omega) (by rw [hb]; omega), sgn_right (by omega), h3]
          show (p.part ++ [p.right.getD 0 0]).getD (p.behind - p.at_).toNat 0 = cyc p.right (p.behind - p.behind)
          have e : (p.behind - p.at_).toNat = p.part.length := by unfold Parts.behind; omega
          rw [e, List.getD_eq_getElem?_getD, List.getElem?_append_right (Nat.le_refl _), Nat.sub_self, Int.sub_self]
          have := cyc_nat (w := p.right) (i := 0) l2
          exact this.symm
        · rw [sgn_right (p := ⟨p.left, p.part ++ [p.right.getD 0 0], turnR p.right, p.at_⟩) (by rw [hb]; omega), sgn_right (by omega), hb]
          show cyc (turnR p.right) _ = _
          rw [cyc_turnR hr]
          congr 1
          omega
/-- two rows with rounds of like lengths are the same, if they are on a long enough stretch -/
theorem same_by {p q : Parts} (hl : p.left ≠ []) (hr : p.right ≠ []) (el : q.left.length = p.left.length) (er : q.right.length = p.right.length) {lo hi a c : Int} (a1 : a ≤ p.at_) (a2 : a ≤ q.at_) (c1 : p.behind ≤ c) (c2 : q.behind ≤ c)
    (h1 : lo + p.left.length ≤ a) (h2 : c + p.right.length ≤ hi) (h : ∀ i, lo ≤ i → i < hi → sgn p i = sgn q i) (i : Int) : sgn p i = sgn q i := by
  have l1 : 0 < p.left.length := List.length_pos_iff.mpr hl
  have l2 : 0 < p.right.length := List.length_pos_iff.mpr hr
  have kl : q.left ≠ [] := fun e => by rw [e] at el; simp at el; omega
  have kr : q.right ≠ [] := fun e => by rw [e] at er; simp at er; omega
  have ac : a ≤ c := by unfold Parts.behind at c1; omega
  by_cases hi1 : i < a
  · have m1 := Int.emod_nonneg (i - a) (by omega : (p.left.length : Int) ≠ 0)
    have m2 := Int.emod_lt_of_pos (i - a) (by omega : (0 : Int) < p.left.length)
    have e1 := per_emod (f := sgn p) (b := p.left.length) (c := a) (by omega) (fun j hj => (sgn_L hl).2 j (by omega)) hi1
    have e2 := per_emod (f := sgn q) (b := p.left.length) (c := a) (by omega) (fun j hj => by have := (sgn_L kl).2 j (by omega); rw [el] at this; exact this) hi1
    rw [← e1, ← e2]
    exact h _ (by omega) (by omega)
  · by_cases hi2 : i < c
    · exact h i (by omega) (by omega)
    · have m1 := Int.emod_nonneg (i - c) (by omega : (p.right.length : Int) ≠ 0)
      have m2 := Int.emod_lt_of_pos (i - c) (by omega : (0 : Int) < p.right.length)
      have e1 := per_emodR (f := sgn p) (b := p.right.length) (c := c) (by omega) (fun j hj => (sgn_R hr).2 j (by omega)) (by omega : c ≤ i)
      have e2 := per_emodR (f := sgn q) (b := p.right.length) (c := c) (by omega) (fun j hj => by have := (sgn_R kr).2 j (by omega); rw [er] at this; exact this) (by omega : c ≤ i)
      rw [← e1, ← e2]
      exact h _ (by omega) (by omega)
end RW
set_option maxRecDepth 100000
/-! rows moved, rounds, the letters of a row -/
namespace RW
/-- the same telling, so many places further to the left -/
def shift (p : Parts) (by_ : Int) : Parts := ⟨p.left, p.part, p.right, p.at_ - by_⟩
theorem sgn_shift (p : Parts) (k i : Int) : sgn (shift p k) i = sgn p (i + k) := by
  unfold sgn shift
  simp only
  rw [show i - (p.at_ - k) = i + k - p.at_ by omega]
  by_cases h1 : i + k < p.at_
  · rw [if_pos h1, if_pos (by omega)]
  · rw [if_neg h1, if_neg (by omega)]
    by_cases h2 : i + k < p.at_ + (p.part.length : Int)
    · rw [if_pos h2, if_pos (by omega)]
    · rw [if_neg h2, if_neg (by omega)]
/-- a word again and again, a begin of it at 0 -/
def ring (w : List Nat) : Parts := ⟨w, [], w, 0⟩
theorem sgn_ring (w : List Nat) (i : Int) : sgn (ring w) i = cyc w i := by
  by_cases h : i < 0
  · rw [sgn_left (p := ring w) h]
    show cyc w (i - 0) = _
    rw [Int.sub_zero]
  · have hb : (ring w).behind = 0 := rfl
    rw [sgn_right (p := ring w) (by rw [hb]; omega), hb]
    show cyc w (i - 0) = _
    rw [Int.sub_zero]
theorem up_id {P : Int → Bool} {n : Nat} {x : Int} (h : ∀ i, P i = true) : up P n x = x + n := up_full P n x fun i _ _ => h i
/-- a round is told as one -/
theorem plain_ring {w : List Nat} (h : w ≠ []) : ∃ b : Int, plain (ring w) = ⟨str (ring w) 0 b, [], str (ring w) 0 b, 0⟩ := by
  obtain ⟨⟨l1, l2, _⟩, _, l3, l4⟩ := short_least h
  refine ⟨(short w).length, ?_⟩
  unfold plain tell
  simp only
  have hb : (ring w).behind = 0 := rfl
  have ho : ∀ i, onL (ring w) (short (ring w).left).length i = true := fun i => by
    unfold onL
    rw [sgn_ring, sgn_ring]
    have e := l2 (i - (short w).length)
    rw [Int.sub_add_cancel] at e
    exact decide_eq_true e.symm
  rw [up_id ho, hb]
  have ha : (ring w).at_ = 0 := rfl
  rw [ha]
  rw [if_pos (by
    show (0 : Int) + ((0 + ((short w).length : Int) + ((short w).length : Int) - 0).toNat : Nat) = 0 + ((short w).length : Int) + ((short w).length : Int)
    omega)]
  rfl
theorem cyc_againK {w : List Nat} (h : w ≠ []) {k : Nat} (hk : 1 ≤ k) (i : Int) : cyc (again w k) i = cyc w i := by
  have l : 0 < w.length := List.length_pos_iff.mpr h
  unfold cyc
  rw [again_len]
  have hn : 0 < k * w.length := Nat.mul_pos hk l
  have m1 := Int.emod_nonneg i (by omega : ((k * w.length : Nat) : Int) ≠ 0)
  have m2 := Int.emod_lt_of_pos i (by omega : (0 : Int) < ((k * w.length : Nat) : Int))
  rw [again_get w k _ (by omega)]
  congr 1
  have d : (w.length : Int) ∣ ((k * w.length : Nat) : Int) := ⟨k, by rw [Int.natCast_mul, Int.mul_comm]⟩
  have e := Int.emod_emod_of_dvd i d
  have m3 := Int.emod_nonneg i (by omega : (w.length : Int) ≠ 0)
  have : (((i % ((k * w.length : Nat) : Int)).toNat % w.length : Nat) : Int) = i % (w.length : Int) := by
    rw [Int.natCast_emod, Int.toNat_of_nonneg m1, e]
  omega
/-- each letter that is told stands somewhere -/
theorem told_stands {p : Parts} (hl : p.left ≠ []) (hr : p.right ≠ []) {c : Nat} (hc : c ∈ p.left ++ p.part ++ p.right) : ∃ i, sgn p i = c := by
  have l1 : 0 < p.left.length := List.length_pos_iff.mpr hl
  have l2 : 0 < p.right.length := List.length_pos_iff.mpr hr
  rcases List.mem_append.mp hc with hc | hc
  · rcases List.mem_append.mp hc with hc | hc
    · obtain ⟨n, hn, e⟩ := List.getElem_of_mem hc
      refine ⟨p.at_ - p.left.length + n, ?_⟩
      rw [sgn_left (by omega), show p.at_ - (p.left.length : Int) + n - p.at_ = (n : Int) + (p.left.length : Int) * (-1) by omega, cyc_add, cyc_nat hn, List.getD_eq_getElem?_getD, List.getElem?_eq_getElem hn]
      exact e
    · obtain ⟨n, hn, e⟩ := List.getElem_of_mem hc
      refine ⟨p.at_ + n, ?_⟩
      rw [sgn_mid (by omega) (by unfold Parts.behind; omega), show p.at_ + (n : Int) - p.at_ = n by omega, Int.toNat_natCast, List.getD_eq_getElem?_getD, List.getElem?_eq_getElem hn]
      exact e
  · obtain ⟨n, hn, e⟩ := List.getElem_of_mem hc
    refine ⟨p.behind + n, ?_⟩
    rw [sgn_right (by omega), show p.behind + (n : Int) - p.behind = n by omega, cyc_nat hn, List.getD_eq_getElem?_getD, List.getElem?_eq_getElem hn]
    exact e
/-- two tellings of one row have the same letters -/
theorem same_letters {p q : Parts} (hl : p.left ≠ []) (hr : p.right ≠ []) (kl : q.left ≠ []) (kr : q.right ≠ []) (h : ∀ i, sgn p i = sgn q i) (c : Nat) : c ∈ p.left ++ p.part ++ p.right ↔ c ∈ q.left ++ q.part ++ q.right := by
  constructor
  · intro hc
    obtain ⟨i, rfl⟩ := told_stands hl hr hc
    rw [h i]
    exact sgn_mem kl kr i
  · intro hc
    obtain ⟨i, rfl⟩ := told_stands kl kr hc
    rw [← h i]
    exact sgn_mem hl hr i
theorem str_ring {w : List Nat} (h : w ≠ []) {n : Nat} {k : Nat} (hk : n ≤ k * w.length) : str (ring w) 0 n = (again w k).take n := by
  have l : 0 < w.length := List.length_pos_iff.mpr h
  apply List.ext_getElem?
  intro i
  by_cases hi : i < n
  · rw [str_get (by omega), List.getElem?_take_of_lt hi, sgn_ring]
    have hi2 : i < k * w.length := by omega
    have e := again_get w k i hi2
    rw [List.getD_eq_getElem?_getD, List.getElem?_eq_getElem (by rw [again_len]; exact hi2)] at e
    rw [List.getElem?_eq_getElem (by rw [again_len]; exact hi2)]
    simp only [Option.getD_some] at e
    rw [e]
    unfold cyc
    congr 2
    rw [show (0 : Int) + (i : Nat) = (i : Int) by omega]
    have : ((i : Int) % (w.length : Int)) = ((i % w.length : Nat) : Int) := by rw [Int.natCast_emod]
    rw [this]
    rfl
  · rw [List.getElem?_eq_none (by rw [str_len]; omega), List.getElem?_eq_none (by rw [List.length_take]; omega)]
/-- a round moved by its own letters -/
theorem ring_turn {w : List Nat} (i : Int) : cyc w (i + w.length) = cyc w i := by
  have := cyc_add (w := w) i 1
  rw [Int.mul_one] at this
  exact this
/-- a row whose rounds are one, without a part -/
theorem sgn_one {p : Parts} (h1 : p.part = []) (h2 : p.left = p.right) (i : Int) : sgn p i = cyc p.left (i - p.at_) := by
  by_cases h : i < p.at_
  · exact sgn_left h
  · have hb : p.behind = p.at_ := by unfold Parts.behind; rw [h1]; simp
    rw [sgn_right (by rw [hb]; omega), hb, h2]
theorem cyc_str {f : Int → Nat} {n : Int} (hn : 0 < n) (hp : ∀ i, f (i + n) = f i) (a i : Int) : cyc ((ran a (a + n)).map f) i = f (a + i) := by
  have hl : (((ran a (a + n)).map f).length : Int) = n := by rw [List.length_map, ran_len]; omega
  have m1 := Int.emod_nonneg i (by omega : n ≠ 0)
  have m2 := Int.emod_lt_of_pos i hn
  unfold cyc
  rw [hl, List.getD_eq_getElem?_getD, List.getElem?_map, ran_get (by omega)]
  simp only [Option.map_some, Option.getD_some]
  have key : ∀ (k : Nat) (j : Int), f (j + n * k) = f j := by
    intro k
    induction k with
    | zero => intro j; simp
    | succ k ih => intro j; rw [show j + n * ((k + 1 : Nat) : Int) = (j + n * (k : Nat)) + n by rw [Int.natCast_succ, Int.mul_add, Int.mul_one, Int.add_assoc], hp, ih]
  have e := Int.mul_ediv_add_emod i n
  rw [Int.toNat_of_nonneg m1]
  by_cases hq : 0 ≤ i / n
  · obtain ⟨k, hk⟩ : ∃ k : Nat, i / n = k := ⟨(i / n).toNat, by omega⟩
    have := key k (a + i % n)
    rw [← this, ← hk]
    congr 1
    omega
  · obtain ⟨k, hk⟩ : ∃ k : Nat, -(i / n) = k := ⟨(-(i / n)).toNat, by omega⟩
    have := key k (a + i)
    rw [← this, ← hk, Int.mul_neg]
    congr 1
    omega
end RW
set_option maxRecDepth 100000
/-! where a moved row's part begins -/
namespace RW
theorem LP.move {f g : Int → Nat} {k d : Int} (h : ∀ i, g i = f (i + k)) : LP g d ↔ LP f d := by
  constructor
  · rintro ⟨h1, a, ha⟩
    refine ⟨h1, a + k, fun i hi => ?_⟩
    have e := ha (i - k) (by omega)
    rw [h, h] at e
    rw [show i - k + k = i by omega, show i - k - d + k = i - d by omega] at e
    exact e
  · rintro ⟨h1, a, ha⟩
    refine ⟨h1, a - k, fun i hi => ?_⟩
    rw [h, h, ha (i + k) (by omega)]
    congr 1
    omega
theorem LeastLP.move {f g : Int → Nat} {k d : Int} (h : ∀ i, g i = f (i + k)) (x : LeastLP f d) : LeastLP g d :=
  ⟨(LP.move h).mpr x.1, fun e he => x.2 e ((LP.move h).mp he)⟩
/-- the place of a row told plainly moves with it, unless it is one round -/
theorem plain_move {p q : Parts} (hl : p.left ≠ []) (hr : p.right ≠ []) (kl : q.left ≠ []) (kr : q.right ≠ []) {k : Int} (h : ∀ i, sgn q i = sgn p (i + k)) : (plain q).at_ = (plain p).at_ - k ∨ (plain q).at_ = 0 := by
  obtain ⟨b, o, hb, ho, c⟩ := plain_is hl hr
  obtain ⟨b', o', hb', ho', c'⟩ := plain_is kl kr
  have eb : b' = b := hb'.uniq (hb.move h)
  subst eb
  rcases c' with ⟨w', e'⟩ | ⟨x', e1', cut', e'⟩
  · right; rw [e']
  · left
    rcases c with ⟨w, e⟩ | ⟨x, e1, cut, e⟩
    · have z := cut'.x0
      rw [h, h] at z
      have := w (x' + k)
      rw [show x' - b' + k = x' + k - b' by omega] at z
      exact absurd this z
    · rw [e', e]
      show x' = x - k
      have a1 : ¬ x' < x - k := fun hx => by
        have z := cut'.x0
        rw [h, h] at z
        have := cut.l (x' + k) (by omega)
        rw [show x' - b' + k = x' + k - b' by omega] at z
        exact z this
      have a2 : ¬ x - k < x' := fun hx => by
        have z := cut.x0
        have := cut'.l (x - k) (by omega)
        rw [h, h, show x - k + k = x by omega, show x - k - b' + k = x - b' by omega] at this
        exact z this
      omega
end RW
set_option maxRecDepth 100000
set_option maxHeartbeats 2000000
/-! DE1: code that changes nothing, its value told at once, what must hold gathered. -/
namespace DL
open PySem L2 PySem.Spec PyProof.Rows
/-- no star, no set display: the rules of the machine then read plainly -/
def nStar : Expr → Bool
  | .Starred .. => false
  | _ => true
def nSet : Expr → Bool
  | .Set .. => false
  | _ => true
theorem star1 {e : Expr} {es : List Expr} (h : nStar e = true) : ∀ env, starEach (e :: es) env = (false, eval e env) :: starEach es env := by
  intro env
  cases e <;> first | rfl | cases h
theorem starL1 {e : Expr} (h : nStar e = true) : ∀ env, starEach [e] env = [(false, eval e env)] := star1 h
theorem starL2 {e e2 : Expr} (h : nStar e = true) (h2 : nStar e2 = true) : ∀ env, starEach [e, e2] env = [(false, eval e env), (false, eval e2 env)] := fun env => by rw [star1 h, star1 h2]; rfl
theorem fsi {e : Expr} (h : nSet e = true) : ∀ env x, foldedSetIterable e env x = pure x := by
  intro env x
  cases e <;> first | rfl | cases h
theorem noSt0 {pos : Pos} : ∀ env, (backTo pos (starEach [] env)).any (·.1) = false := fun _ => rfl
theorem nSt1 {pos : Pos} {e : Expr} (h : nStar e = true) : ∀ env, (backTo pos (starEach [e] env)).any (·.1) = false := fun env => by rw [star1 h]; rfl
/-- under P the expression gives x and changes nothing -/
structure SE (C : SC) (e : Expr) (ρ : Env) (μ : Mem) (E : EPost) (P : Prop) (x : XV) : Prop where
  r : P → PV C e ρ μ E x
structure SB (C : SC) (e : Expr) (ρ : Env) (μ : Mem) (E : EPost) (P : Prop) (b : Bool) : Prop where
  r : P → PB C e ρ μ E b
structure SW (C : SC) (e : Expr) (ρ : Env) (μ : Mem) (E : EPost) (P : Prop) (b : Bool) : Prop where
  r : P → PW C e ρ μ E b
structure SA (C : SC) (es : List Expr) (ρ : Env) (μ : Mem) (E : EPost) (P : Prop) (xs : List XV) : Prop where
  r : P → PA C es ρ μ E xs
structure SK (C : SC) (es : List Keyword) (ρ : Env) (μ : Mem) (E : EPost) (P : Prop) (xs : List XV) : Prop where
  r : P → PK C es ρ μ E xs
structure SO (C : SC) (e : Option Expr) (ρ : Env) (μ : Mem) (E : EPost) (P : Prop) (i : Option Int) : Prop where
  r : P → PO C e ρ μ E i
/-- the walk gives these things -/
structure SI (C : SC) (tg iter : Expr) (ρ : Env) (μ : Mem) (E : EPost) (P : Prop) {α : Type} (en : α → XV) (xs : List α) : Prop where
  r : P → PWk C tg iter ρ μ E (xs.map en)
section
variable {C : SC} {e : Expr} {es : List Expr} {ks : List Keyword} {eo : Option Expr} {ρ : Env} {μ : Mem} {E : EPost} {P : Prop} {x : XV} {b : Bool} {xs : List XV} {i : Option Int} {tg iter : Expr} {α : Type} {en : α → XV} {ys : List α}
instance : CoeFun (SE C e ρ μ E P x) fun _ => P → PV C e ρ μ E x := ⟨SE.r⟩
instance : CoeFun (SB C e ρ μ E P b) fun _ => P → PB C e ρ μ E b := ⟨SB.r⟩
instance : CoeFun (SW C e ρ μ E P b) fun _ => P → PW C e ρ μ E b := ⟨SW.r⟩
instance : CoeFun (SA C es ρ μ E P xs) fun _ => P → PA C es ρ μ E xs := ⟨SA.r⟩
instance : CoeFun (SK C ks ρ μ E P xs) fun _ => P → PK C ks ρ μ E xs := ⟨SK.r⟩
instance : CoeFun (SO C eo ρ μ E P i) fun _ => P → PO C eo ρ μ E i := ⟨SO.r⟩
instance : CoeFun (SI C tg iter ρ μ E P en ys) fun _ => P → PWk C tg iter ρ μ E (ys.map en) := ⟨SI.r⟩
end
section
variable {C : SC} {E : EPost} {ρ : Env} {μ : Mem} {a b c e e1 e2 e3 o : Expr} {es rest : List Expr} {kws : List Keyword} {pos p p2 p3 apos cpos kpos : Pos} {x : Str} {Q : XV → Mem → Prop} {QT : Bool → Mem → Prop} {v y z x1 x2 x3 : XV} {j n m : Nat} {P P1 P2 P3 P4 P5 : Prop} {k k1 k2 k3 : Bool} {D0 : DEnds} {i i1 i2 : Int} {l s t : List Nat} {ds ds1 ds2 : List D} {d d1 d2 : D} {op op' : CmpOp}
theorem SE.go (h : SE C e ρ μ E P v) (p : P) (q : Q v μ) : WE C e ρ μ E Q := (h p).go q
theorem SE.pv (h : SE C e ρ μ E P v) (p : P) : PV C e ρ μ E v := h p
theorem SE.eq (h : SE C e ρ μ E P v) (e1 : v = y) : SE C e ρ μ E P y := .mk fun p => (h p).eq e1
theorem SB.ite {body orelse : List Stmt} (h : SB C c ρ μ E P k) (p : P) (h1 : k = true → WS C body ρ μ E D0) (h2 : k = false → WS C orelse ρ μ E D0) : WS1 C (.If c body orelse pos) ρ μ E D0 := (h p).ite h1 h2
theorem SB.go (h : SB C e ρ μ E P k) (p : P) (q : QT k μ) : WT C e ρ μ E QT := (h p).go q
theorem SA.go {QA : List XV → Mem → Prop} {xs : List XV} (h : SA C es ρ μ E P xs) (p : P) (q : QA xs μ) : WA C es ρ μ E QA := (h p) _ q
theorem SK.go {QA : List XV → Mem → Prop} {xs : List XV} (h : SK C kws ρ μ E P xs) (p : P) (q : QA xs μ) : WK C kws ρ μ E QA := (h p) _ q
theorem SE.of (h : PV C e ρ μ E v) : SE C e ρ μ E True v := .mk fun _ => h
/-! names, constants -/
theorem se_vr (i : Nat) {v : XV} (hN : C.N[i]? = some x) (h : ρ[i]? = some (some v)) (hv : C.Vis x := by first | exact .inl rfl | exact .inr (.inl rfl) | exact .inr (.inr rfl)) (hd : (x == ("__debug__" : Str)) = false := by decide) (hcd : (x == ("__classdict__" : Str)) = false := by decide) : SE C (.Name x pos) ρ μ E True v := .mk fun _ => p_vr i hN h hv hd hcd
theorem se_int {i : Int} : SE C (.Constant (.int i) j pos) ρ μ E True (.d (.int i)) := .mk fun _ => p_int
theorem se_bl {i : Bool} : SE C (.Constant (.bool i) j pos) ρ μ E True (.d (.bl i)) := .mk fun _ => p_bl
theorem se_non : SE C (.Constant .none j pos) ρ μ E True (.d .non) := .mk fun _ => p_non
theorem se_txt {s : Str} {l : List Nat} (hs : s.cps.toList = l) : SE C (.Constant (.str s) j pos) ρ μ E True (.d (.txt l)) := .mk fun _ => p_txt hs
theorem se_gI {i : Int} (hg : C.Glob x) (h : GI C.mg x i) (hd : (x == ("__debug__" : Str)) = false := by decide) : SE C (.Name x pos) ρ μ E True (.d (.int i)) := .mk fun _ => p_gI hg h hd
theorem se_gT {l : List Nat} (hg : C.Glob x) (h : GT C.mg x l) (hd : (x == ("__debug__" : Str)) = false := by decide) : SE C (.Name x pos) ρ μ E True (.d (.txt l)) := .mk fun _ => p_gT hg h hd
/-! operators -/
def BinR (op : Operator) (x y : XV) (P : Prop) (z : XV) : Prop := ∀ {C : SC} {μ : Mem}, P → ∀ Q : XV → Mem → Prop, Q z μ → Go2 C (binaryOp op) x y μ Q
theorem br_addI : BinR .Add (.d (.int i1)) (.d (.int i2)) True (.d (.int (i1 + i2))) := fun _ _ q => go_add_int q
theorem br_subI : BinR .Sub (.d (.int i1)) (.d (.int i2)) True (.d (.int (i1 - i2))) := fun _ _ q => go_sub_int q
theorem br_mulI : BinR .Mult (.d (.int i1)) (.d (.int i2)) (CMul i1 i2) (.d (.int (i1 * i2))) := fun h _ q => go_mul_int h q
theorem br_divI : BinR .FloorDiv (.d (.int i1)) (.d (.int i2)) (CDiv i1 i2) (.d (.int (i1 / i2))) := fun h _ q => go_fdiv_int h q
theorem br_modI : BinR .Mod (.d (.int i1)) (.d (.int i2)) (0 < i2) (.d (.int (i1 % i2))) := fun h _ q => go_mod_int h q
theorem br_powI : BinR .Pow (.d (.int i1)) (.d (.int i2)) (CPow i1 i2) (.d (.int (i1 ^ i2.toNat))) := fun h _ q => go_pow_int h q
theorem br_addT : BinR .Add (.d (.txt s)) (.d (.txt t)) (s.length + t.length ≤ sizeLine) (.d (.txt (s ++ t))) := fun h _ q => go_add_txt h q
theorem br_mulT : BinR .Mult (.d (.txt s)) (.d (.int i1)) ((-(2 ^ 30) < i1 ∧ i1 < 2 ^ 30) ∧ s.length * i1.toNat ≤ sizeLine) (.d (.txt (repT s i1))) := fun h _ q => go_mul_txt h.1.2 h.1.1 h.2 q
theorem br_addM {α β : Type} {xs : List α} {ys : List β} {g : α → D} {f : β → D} : BinR .Add (.d (.lst (xs.map g))) (.d (.lst (ys.map f))) (xs.length + ys.length ≤ sizeLine) (.d (.lst (xs.map g ++ ys.map f))) := fun h _ q => go_add_lst (by rw [List.length_map, List.length_map]; exact h) q
theorem br_addS {α : Type} {xs ys : List α} {g : α → D} : BinR .Add (.d (.lst (xs.map g))) (.d (.lst (ys.map g))) (xs.length + ys.length ≤ sizeLine) (.d (.lst ((xs ++ ys).map g))) := fun h _ q => go_add_lst (by rw [List.length_map, List.length_map]; exact h) (by rw [← List.map_append]; exact q)
theorem br_addL : BinR .Add (.d (.lst ds1)) (.d (.lst ds2)) (ds1.length + ds2.length ≤ sizeLine) (.d (.lst (ds1 ++ ds2))) := fun h _ q => go_add_lst h q
theorem br_mulL : BinR .Mult (.d (.lst ds)) (.d (.int i1)) ((-(2 ^ 63) ≤ i1 ∧ i1 < 2 ^ 63) ∧ ds.length * i1.toNat ≤ sizeLine) (.d (.lst (List.replicate i1.toNat ds).flatten)) := fun h _ q => go_mul_lst h.1.1 h.1.2 h.2 q
theorem br_addU : BinR .Add (.d (.tup ds1)) (.d (.tup ds2)) (ds1 ≠ [] ∧ ds1.length + ds2.length ≤ sizeLine) (.d (.tup (ds1 ++ ds2))) := fun h _ q => go_add_tup h.1 h.2 q
class BinC (op : Operator) (x y : XV) (P : outParam Prop) (z : outParam XV) : Prop where
  r : BinR op x y P z
instance : BinC .Add (.d (.int i1)) (.d (.int i2)) True (.d (.int (i1 + i2))) := ⟨br_addI⟩
instance : BinC .Sub (.d (.int i1)) (.d (.int i2)) True (.d (.int (i1 - i2))) := ⟨br_subI⟩
instance : BinC .Mult (.d (.int i1)) (.d (.int i2)) (CMul i1 i2) (.d (.int (i1 * i2))) := ⟨br_mulI⟩
instance : BinC .FloorDiv (.d (.int i1)) (.d (.int i2)) (CDiv i1 i2) (.d (.int (i1 / i2))) := ⟨br_divI⟩
instance : BinC .Mod (.d (.int i1)) (.d (.int i2)) (0 < i2) (.d (.int (i1 % i2))) := ⟨br_modI⟩
instance : BinC .Pow (.d (.int i1)) (.d (.int i2)) (CPow i1 i2) (.d (.int (i1 ^ i2.toNat))) := ⟨br_powI⟩
instance : BinC .Add (.d (.txt s)) (.d (.txt t)) (s.length + t.length ≤ sizeLine) (.d (.txt (s ++ t))) := ⟨br_addT⟩
instance : BinC .Mult (.d (.txt s)) (.d (.int i1)) ((-(2 ^ 30) < i1 ∧ i1 < 2 ^ 30) ∧ s.length * i1.toNat ≤ sizeLine) (.d (.txt (repT s i1))) := ⟨br_mulT⟩
instance (priority := 1100) {α : Type} {xs ys : List α} {g : α → D} : BinC .Add (.d (.lst (xs.map g))) (.d (.lst (ys.map g))) (xs.length + ys.length ≤ sizeLine) (.d (.lst ((xs ++ ys).map g))) := ⟨br_addS⟩
instance : BinC .Add (.d (.lst ds1)) (.d (.lst ds2)) (ds1.length + ds2.length ≤ sizeLine) (.d (.lst (ds1 ++ ds2))) := ⟨br_addL⟩
instance : BinC .Mult (.d (.lst ds)) (.d (.int i1)) ((-(2 ^ 63) ≤ i1 ∧ i1 < 2 ^ 63) ∧ ds.length * i1.toNat ≤ sizeLine) (.d (.lst (List.replicate i1.toNat ds).flatten)) := ⟨br_mulL⟩
instance : BinC .Add (.d (.tup ds1)) (.d (.tup ds2)) (ds1 ≠ [] ∧ ds1.length + ds2.length ≤ sizeLine) (.d (.tup (ds1 ++ ds2))) := ⟨br_addU⟩
theorem se_bin {op : Operator} (h1 : SE C a ρ μ E P1 x1) (h2 : SE C b ρ μ E P2 x2) [hr : BinC op x1 x2 P3 z] : SE C (.BinOp a op b pos) ρ μ E (P1 ∧ P2 ∧ P3) z := .mk fun ⟨q1, q2, q3⟩ => p_bin (h1 q1) (h2 q2) (hr.r q3)
theorem se_neg (h1 : SE C a ρ μ E P1 (.d (.int i))) : SE C (.UnaryOp .USub a pos) ρ μ E P1 (.d (.int (-i))) := .mk fun q => p_negI (h1 q)
theorem se_not (h1 : SE C a ρ μ E P1 (.d (.bl k))) : SE C (.UnaryOp .Not a pos) ρ μ E P1 (.d (.bl (!k))) := .mk fun q => p_not (h1 q)
/-! comparisons -/
def CmpR (op : CmpOp) (x y : XV) (P : Prop) (k : Bool) : Prop := ∀ {C : SC} {μ : Mem}, P → OpB C op x y μ k
theorem c_ltI : CmpR .Lt (.d (.int i1)) (.d (.int i2)) True (decide (i1 < i2)) := fun _ => o_lt
theorem c_leI : CmpR .LtE (.d (.int i1)) (.d (.int i2)) True (decide (i1 ≤ i2)) := fun _ => o_le
theorem c_gtI : CmpR .Gt (.d (.int i1)) (.d (.int i2)) True (decide (i2 < i1)) := fun _ => o_gt
theorem c_geI : CmpR .GtE (.d (.int i1)) (.d (.int i2)) True (decide (i2 ≤ i1)) := fun _ => o_ge
theorem c_ltT : CmpR .Lt (.d (.txt s)) (.d (.txt t)) True (decide (s < t)) := fun _ => o_ltT
theorem c_eqI : CmpR .Eq (.d (.int i1)) (.d (.int i2)) True (decide (i1 = i2)) := fun _ => o_eqI
theorem c_neI : CmpR .NotEq (.d (.int i1)) (.d (.int i2)) True (!decide (i1 = i2)) := fun _ => o_neI
theorem c_eqB : CmpR .Eq (.d (.bl k1)) (.d (.bl k2)) True (decide (k1 = k2)) := fun _ => o_eqB
theorem c_neB : CmpR .NotEq (.d (.bl k1)) (.d (.bl k2)) True (!decide (k1 = k2)) := fun _ => o_neB
theorem c_eqT : CmpR .Eq (.d (.txt s)) (.d (.txt t)) True (decide (s = t)) := fun _ => o_eqT
theorem c_neT : CmpR .NotEq (.d (.txt s)) (.d (.txt t)) True (!decide (s = t)) := fun _ => o_neT
theorem c_inT : CmpR .In (.d (.txt [n])) (.d (.txt t)) True (decide (n ∈ t)) := fun _ => o_in
theorem c_ninT : CmpR .NotIn (.d (.txt [n])) (.d (.txt t)) True (!decide (n ∈ t)) := fun _ => o_nin
theorem c_eqTs {ls ms : List (List Nat)} : CmpR .Eq (.d (.lst (ls.map D.txt))) (.d (.lst (ms.map D.txt))) ((∀ l ∈ ls, uni l = true) ∧ ∀ l ∈ ms, uni l = true) (decide (ls = ms)) := fun h => o_eqTs h.1 h.2
theorem c_neTs {ls ms : List (List Nat)} : CmpR .NotEq (.d (.lst (ls.map D.txt))) (.d (.lst (ms.map D.txt))) ((∀ l ∈ ls, uni l = true) ∧ ∀ l ∈ ms, uni l = true) (!decide (ls = ms)) := fun h => o_neTs h.1 h.2
theorem c_eqNil {α : Type} {g : α → D} {xs : List α} : CmpR .Eq (.d (.lst (xs.map g))) (.d (.lst [])) ((D.lst (xs.map g)).okEq) (xs.isEmpty) := fun h => by
  have e : PyData.eqv (D.lst (xs.map g)).py (D.lst []).py = xs.isEmpty := by
    cases xs <;> simp [D.py, D.pys, PyData.eqv, PyData.eqvAll]
  rw [← e]
  refine o_eqD h ?_
  exact okEq_txts (ls := []) (fun l hl => (List.not_mem_nil hl).elim)
def D.isN : D → Bool
  | .non => true
  | _ => false
theorem c_isN : CmpR .Is (.d d) (.d .non) True d.isN := fun _ => by cases d <;> exact o_isN
theorem c_isnN : CmpR .IsNot (.d d) (.d .non) True (!d.isN) := fun _ => by cases d <;> exact o_isnotN
theorem c_eqD : CmpR .Eq (.d d1) (.d d2) (d1.okEq ∧ d2.okEq) (PyData.eqv d1.py d2.py) := fun h => o_eqD h.1 h.2
theorem c_neD : CmpR .NotEq (.d d1) (.d d2) (d1.okEq ∧ d2.okEq) (!PyData.eqv d1.py d2.py) := fun h => o_neD h.1 h.2
class CmpC (op : CmpOp) (x y : XV) (P : outParam Prop) (k : outParam Bool) : Prop where
  r : CmpR op x y P k
instance : CmpC .Lt (.d (.int i1)) (.d (.int i2)) True (decide (i1 < i2)) := ⟨c_ltI⟩
instance : CmpC .LtE (.d (.int i1)) (.d (.int i2)) True (decide (i1 ≤ i2)) := ⟨c_leI⟩
instance : CmpC .Gt (.d (.int i1)) (.d (.int i2)) True (decide (i2 < i1)) := ⟨c_gtI⟩
instance : CmpC .GtE (.d (.int i1)) (.d (.int i2)) True (decide (i2 ≤ i1)) := ⟨c_geI⟩
instance : CmpC .Lt (.d (.txt s)) (.d (.txt t)) True (decide (s < t)) := ⟨c_ltT⟩
instance : CmpC .Eq (.d (.int i1)) (.d (.int i2)) True (decide (i1 = i2)) := ⟨c_eqI⟩
instance : CmpC .NotEq (.d (.int i1)) (.d (.int i2)) True (!decide (i1 = i2)) := ⟨c_neI⟩
instance : CmpC .Eq (.d (.bl k1)) (.d (.bl k2)) True (decide (k1 = k2)) := ⟨c_eqB⟩
instance : CmpC .NotEq (.d (.bl k1)) (.d (.bl k2)) True (!decide (k1 = k2)) := ⟨c_neB⟩
instance : CmpC .Eq (.d (.txt s)) (.d (.txt t)) True (decide (s = t)) := ⟨c_eqT⟩
instance : CmpC .NotEq (.d (.txt s)) (.d (.txt t)) True (!decide (s = t)) := ⟨c_neT⟩
instance : CmpC .In (.d (.txt [n])) (.d (.txt t)) True (decide (n ∈ t)) := ⟨c_inT⟩
instance : CmpC .NotIn (.d (.txt [n])) (.d (.txt t)) True (!decide (n ∈ t)) := ⟨c_ninT⟩
instance {ls ms : List (List Nat)} : CmpC .Eq (.d (.lst (ls.map D.txt))) (.d (.lst (ms.map D.txt))) ((∀ l ∈ ls, uni l = true) ∧ ∀ l ∈ ms, uni l = true) (decide (ls = ms)) := ⟨c_eqTs⟩
instance {ls ms : List (List Nat)} : CmpC .NotEq (.d (.lst (ls.map D.txt))) (.d (.lst (ms.map D.txt))) ((∀ l ∈ ls, uni l = true) ∧ ∀ l ∈ ms, uni l = true) (!decide (ls = ms)) := ⟨c_neTs⟩
instance (priority := 1100) {α : Type} {g : α → D} {xs : List α} : CmpC .Eq (.d (.lst (xs.map g))) (.d (.lst [])) ((D.lst (xs.map g)).okEq) (xs.isEmpty) := ⟨c_eqNil⟩
instance : CmpC .Is (.d d) (.d .non) True d.isN := ⟨c_isN⟩
instance : CmpC .IsNot (.d d) (.d .non) True (!d.isN) := ⟨c_isnN⟩
instance (priority := 900) : CmpC .Eq (.d d1) (.d d2) (d1.okEq ∧ d2.okEq) (PyData.eqv d1.py d2.py) := ⟨c_eqD⟩
instance (priority := 900) : CmpC .NotEq (.d d1) (.d d2) (d1.okEq ∧ d2.okEq) (!PyData.eqv d1.py d2.py) := ⟨c_neD⟩
theorem se_cmp (h1 : SE C a ρ μ E P1 x1) (h2 : SE C b ρ μ E P2 x2) [hr : CmpC op x1 x2 P3 k] (hm : behindInMarks op b = false := by first | rfl | exact nobehind _ (by decide) (by decide)) : SE C (.Compare a [op] [b] pos) ρ μ E (P1 ∧ P2 ∧ P3) (.d (.bl k)) := .mk fun ⟨q1, q2, q3⟩ => p_cmp (h1 q1) (h2 q2) (hr.r q3) hm
theorem sb_cmp (h1 : SE C a ρ μ E P1 x1) (h2 : SE C b ρ μ E P2 x2) [hr : CmpC op x1 x2 P3 k] (hm : behindInMarks op b = false := by first | rfl | exact nobehind _ (by decide) (by decide)) : SB C (.Compare a [op] [b] pos) ρ μ E (P1 ∧ P2 ∧ P3) k := .mk fun ⟨q1, q2, q3⟩ => b_cmp (h1 q1) (h2 q2) (hr.r q3) hm
theorem se_chain (h1 : SE C a ρ μ E P1 x1) (h2 : SE C b ρ μ E P2 x2) (h3 : SE C c ρ μ E P3 x3) [r1 : CmpC op x1 x2 P4 k1] [r2 : CmpC op' x2 x3 P5 k2] (hm : lastMarks [op, op'] [b, c] = false := by with_unfolding_all rfl) : SE C (.Compare a [op, op'] [b, c] pos) ρ μ E (P1 ∧ P2 ∧ P3 ∧ P4 ∧ P5) (.d (.bl (k1 && k2))) := .mk fun ⟨q1, q2, q3, q4, q5⟩ => p_chain (h1 q1) (h2 q2) (r1.r q4) (h3 q3) (r2.r q5) hm
theorem sb_chain (h1 : SE C a ρ μ E P1 x1) (h2 : SE C b ρ μ E P2 x2) (h3 : SE C c ρ μ E P3 x3) [r1 : CmpC op x1 x2 P4 k1] [r2 : CmpC op' x2 x3 P5 k2] (hm : lastMarks [op, op'] [b, c] = false := by with_unfolding_all rfl) : SB C (.Compare a [op, op'] [b, c] pos) ρ μ E (P1 ∧ P2 ∧ P3 ∧ P4 ∧ P5) (k1 && k2) := .mk fun ⟨q1, q2, q3, q4, q5⟩ => b_chain (h1 q1) (h2 q2) (r1.r q4) (h3 q3) (r2.r q5) hm
/-! tests -/
theorem sb_val (h : SE C e ρ μ E P (.d (.bl k))) (he : ∀ env whole, isTrue e env whole = (do let v ← whole; standAt e.pos; holding [v] (truthy v)) := by intro _ _; rfl) : SB C e ρ μ E P k := .mk fun q => b_val (h q) he
theorem sb_not (h : SB C a ρ μ E P k) : SB C (.UnaryOp .Not a pos) ρ μ E P (!k) := .mk fun q => b_not (h q)
theorem sw_and1 (h : SB C a ρ μ E P k) : SW C (.BoolOp .And [a] pos) ρ μ E P k := .mk fun q => w_and1 (h q)
theorem sw_or1 (h : SB C a ρ μ E P k) : SW C (.BoolOp .Or [a] pos) ρ μ E P k := .mk fun q => w_or1 (h q)
theorem sw_and (h : SB C a ρ μ E P1 k1) (h2 : SW C (.BoolOp .And (b :: rest) pos) ρ μ E P2 k2) : SW C (.BoolOp .And (a :: b :: rest) pos) ρ μ E (P1 ∧ (k1 = true → P2)) (k1 && k2) := .mk fun q => w_and (h q.1) fun hb => h2 (q.2 hb)
theorem sw_or (h : SB C a ρ μ E P1 k1) (h2 : SW C (.BoolOp .Or (b :: rest) pos) ρ μ E P2 k2) : SW C (.BoolOp .Or (a :: b :: rest) pos) ρ μ E (P1 ∧ (k1 = false → P2)) (k1 || k2) := .mk fun q => w_or (h q.1) fun hb => h2 (q.2 hb)
theorem sb_bool {op : BoolOp} (h : SW C (.BoolOp op es pos) ρ μ E P k) : SB C (.BoolOp op es pos) ρ μ E P k := .mk fun q => b_bool (h q)
theorem se_one {op : BoolOp} (h : SE C a ρ μ E P (.d (.bl k))) : SE C (.BoolOp op [a] pos) ρ μ E P (.d (.bl k)) := .mk fun q => p_one (h q)
theorem se_and (h : SE C a ρ μ E P1 (.d (.bl k1))) (h2 : SE C (.BoolOp .And (b :: rest) pos) ρ μ E P2 (.d (.bl k2))) : SE C (.BoolOp .And (a :: b :: rest) pos) ρ μ E (P1 ∧ (k1 = true → P2)) (.d (.bl (k1 && k2))) := .mk fun q => p_and (h q.1) fun hb => h2 (q.2 hb)
theorem se_or (h : SE C a ρ μ E P1 (.d (.bl k1))) (h2 : SE C (.BoolOp .Or (b :: rest) pos) ρ μ E P2 (.d (.bl k2))) : SE C (.BoolOp .Or (a :: b :: rest) pos) ρ μ E (P1 ∧ (k1 = false → P2)) (.d (.bl (k1 || k2))) := .mk fun q => p_or (h q.1) fun hb => h2 (q.2 hb)
/-! a if c else b -/
def IteR (k : Bool) (x y z : XV) : Prop := (k = true → x = z) ∧ (k = false → y = z)
theorem ir_T : IteR k (.d (.txt s)) (.d (.txt t)) (.d (.txt (if k = true then s else t))) := ⟨fun h => by rw [if_pos h], fun h => by rw [if_neg (by rw [h]; decide)]⟩
theorem ir_I : IteR k (.d (.int i1)) (.d (.int i2)) (.d (.int (if k = true then i1 else i2))) := ⟨fun h => by rw [if_pos h], fun h => by rw [if_neg (by rw [h]; decide)]⟩
theorem ir_M {α : Type} {g : α → D} {xs ys : List α} : IteR k (.d (.lst (xs.map g))) (.d (.lst (ys.map g))) (.d (.lst ((if k = true then xs else ys).map g))) := ⟨fun h => by rw [if_pos h], fun h => by rw [if_neg (by rw [h]; decide)]⟩
theorem ir_D : IteR k (.d d1) (.d d2) (.d (if k = true then d1 else d2)) := ⟨fun h => by rw [if_pos h], fun h => by rw [if_neg (by rw [h]; decide)]⟩
class IteC (k : Bool) (x y : XV) (z : outParam XV) : Prop where
  r : IteR k x y z
instance : IteC k (.d (.txt s)) (.d (.txt t)) (.d (.txt (if k = true then s else t))) := ⟨ir_T⟩
instance : IteC k (.d (.int i1)) (.d (.int i2)) (.d (.int (if k = true then i1 else i2))) := ⟨ir_I⟩
instance (priority := 1100) {α : Type} {g : α → D} {xs ys : List α} : IteC k (.d (.lst (xs.map g))) (.d (.lst (ys.map g))) (.d (.lst ((if k = true then xs else ys).map g))) := ⟨ir_M⟩
instance (priority := 900) : IteC k (.d d1) (.d d2) (.d (if k = true then d1 else d2)) := ⟨ir_D⟩
theorem se_ite (h : SB C c ρ μ E P1 k) (h1 : SE C a ρ μ E P2 x1) (h2 : SE C b ρ μ E P3 x2) [hr : IteC k x1 x2 z] : SE C (.IfExp c a b pos) ρ μ E (P1 ∧ (k = true → P2) ∧ (k = false → P3)) z := .mk fun q Q qz =>
  we_if (h q.1 _ ⟨fun e => h1 (q.2.1 e) _ (by rw [hr.r.1 e]; exact qz), fun e => h2 (q.2.2 e) _ (by rw [hr.r.2 e]; exact qz)⟩)
/-! displays -/
theorem sa_nl : SA C [] ρ μ E True [] := .mk fun _ => pa_nl
theorem sa_cs {xs : List XV} (h : SE C e ρ μ E P1 v) (k : SA C es ρ μ E P2 xs) (hs : nStar e = true := by rfl) : SA C (e :: es) ρ μ E (P1 ∧ P2) (v :: xs) := .mk fun q => pa_cs (h q.1) (k q.2) (star1 hs)
theorem sk_nl : SK C [] ρ μ E True [] := .mk fun _ => pk_nl
theorem sk_cs {xs : List XV} {nm : Option Str} (h : SE C e ρ μ E P1 v) (k : SK C kws ρ μ E P2 xs) : SK C (⟨nm, e, kpos⟩ :: kws) ρ μ E (P1 ∧ P2) (v :: xs) := .mk fun q => pk_cs (h q.1) (k q.2)
theorem se_tup {k : Nat} {xs : List XV} (h : SA C es ρ μ E P xs) (hd : allD xs = some ds := by rfl) (hz : ds.length ≤ sizeLine := by first | decide | (simp only [List.length_cons, List.length_nil]; decide)) : SE C (.Tuple es k pos) ρ μ E P (.d (.tup ds)) := .mk fun q => p_tup (h q) hd hz
theorem se_lst {xs : List XV} (h : SA C es ρ μ E P xs) (hd : allD xs = some ds := by rfl) (hz : ds.length ≤ sizeLine := by first | decide | (simp only [List.length_cons, List.length_nil]; decide)) : SE C (.List es pos) ρ μ E P (.d (.lst ds)) := .mk fun q => p_lst (h q) hd hz
/-! items, slices -/
def IxR (x y : XV) (μ : Mem) (P : Prop) (z : XV) : Prop := ∀ {C : SC}, P → ∀ Q : XV → Mem → Prop, Q z μ → GoI C x y μ Q
def inB (n : Nat) (i : Int) : Prop := -(n : Int) ≤ i ∧ i < (n : Int)
/-- the thing at a place, counted from the end below 0 -/
def atX {α : Type} [Inhabited α] (xs : List α) (i : Int) : α := (atI xs i).getD default
theorem atX_eq {α : Type} [Inhabited α] {xs : List α} {i : Int} (h : inB xs.length i) : atI xs i = some (atX xs i) := by
  unfold atX
  by_cases h0 : 0 ≤ i
  · obtain ⟨x, e, _⟩ := atI_all (l := xs) (P := fun _ => True) (i := i) (fun _ _ => trivial) h0 h.2
    rw [e]; rfl
  · obtain ⟨x, e, _⟩ := atI_neg (l := xs) (P := fun _ => True) (i := i) (fun _ _ => trivial) (by omega) h.1
    rw [e]; rfl
theorem atI_map {α β : Type} (g : α → β) (xs : List α) (i : Int) : atI (xs.map g) i = (atI xs i).map g := by
  unfold atI
  simp only [List.length_map]
  cases h : ixN xs.length i with
  | none => rfl
  | some n => simp [List.getElem?_map]
theorem atI_nat {α : Type} {xs : List α} {i : Nat} {x : α} (h : xs[i]? = some x) : atI xs (i : Int) = some x := by
  have hl := (List.getElem?_eq_some_iff.mp h).1
  rw [atI_in (Int.natCast_nonneg i) (by omega) x, Int.toNat_natCast, List.getD_eq_getElem?_getD, h]
  rfl
theorem atX_nat {α : Type} [Inhabited α] {xs : List α} {i : Nat} {x : α} (h : xs[i]? = some x) : atX xs (i : Int) = x := by
  unfold atX; rw [atI_nat h]; rfl
theorem atX_of {α : Type} [Inhabited α] {xs : List α} {i : Int} {x : α} (h : atI xs i = some x) : atX xs i = x := by
  unfold atX; rw [h]; rfl
theorem atX_mem {α : Type} [Inhabited α] {xs : List α} {i : Int} (h : inB xs.length i) : atX xs i ∈ xs := by
  have e := atX_eq h
  unfold atI at e
  cases h2 : ixN xs.length i with
  | none => rw [h2] at e; cases e
  | some n => rw [h2] at e; exact List.mem_of_getElem? e
instance : Inhabited D := ⟨.non⟩
instance : Inhabited XV := ⟨.d .non⟩
theorem ix_litL (h : atI ds i = some d) : IxR (.d (.lst ds)) (.d (.int i)) μ True (.d d) := fun _ _ q => gi_lst h q
theorem ix_litU (h : atI ds i = some d) : IxR (.d (.tup ds)) (.d (.int i)) μ True (.d d) := fun _ _ q => gi_tup h q
theorem ix_T : IxR (.d (.txt l)) (.d (.int i)) μ (l.length ≤ sizeLine ∧ inB l.length i) (.d (.txt [atX l i])) := fun h _ q => gi_txt h.1 (atX_eq h.2) q
theorem ix_M {α : Type} [Inhabited α] {xs : List α} {g : α → D} : IxR (.d (.lst (xs.map g))) (.d (.int i)) μ (inB xs.length i) (.d (g (atX xs i))) := fun h _ q => gi_lst (by rw [atI_map, atX_eq h]; rfl) q
theorem ix_U {α : Type} [Inhabited α] {xs : List α} {g : α → D} : IxR (.d (.tup (xs.map g))) (.d (.int i)) μ (inB xs.length i) (.d (g (atX xs i))) := fun h _ q => gi_tup (by rw [atI_map, atX_eq h]; rfl) q
theorem ix_L : IxR (.d (.lst ds)) (.d (.int i)) μ (inB ds.length i) (.d (atX ds i)) := fun h _ q => gi_lst (atX_eq h) q
theorem ix_UD : IxR (.d (.tup ds)) (.d (.int i)) μ (inB ds.length i) (.d (atX ds i)) := fun h _ q => gi_tup (atX_eq h) q
theorem ix_C {xs : List XV} (hm : μ[n]? = some (some (.lst xs))) : IxR (.l n) (.d (.int i)) μ (inB xs.length i) (atX xs i) := fun h _ q => gi_cell hm (atX_eq h) q
theorem ix_CM {α : Type} [Inhabited α] {xs : List α} {g : α → XV} (hm : μ[n]? = some (some (.lst (xs.map g)))) : IxR (.l n) (.d (.int i)) μ (inB xs.length i) (g (atX xs i)) := fun h _ q => gi_cell hm (by rw [atI_map, atX_eq h]; rfl) q
class IxC (x y : XV) (P : outParam Prop) (z : outParam XV) : Prop where
  r : ∀ {μ : Mem}, IxR x y μ P z
instance : IxC (.d (.txt l)) (.d (.int i)) (l.length ≤ sizeLine ∧ inB l.length i) (.d (.txt [atX l i])) := ⟨ix_T⟩
instance (priority := 1100) {α : Type} [Inhabited α] {xs : List α} {g : α → D} : IxC (.d (.lst (xs.map g))) (.d (.int i)) (inB xs.length i) (.d (g (atX xs i))) := ⟨ix_M⟩
instance (priority := 1100) {α : Type} [Inhabited α] {xs : List α} {g : α → D} : IxC (.d (.tup (xs.map g))) (.d (.int i)) (inB xs.length i) (.d (g (atX xs i))) := ⟨ix_U⟩
instance : IxC (.d (.lst ds)) (.d (.int i)) (inB ds.length i) (.d (atX ds i)) := ⟨ix_L⟩
instance : IxC (.d (.tup ds)) (.d (.int i)) (inB ds.length i) (.d (atX ds i)) := ⟨ix_UD⟩
theorem se_ix (h1 : SE C a ρ μ E P1 x1) (h2 : SE C b ρ μ E P2 x2) [hr : IxC x1 x2 P3 z] (hs : PlainIx b := by exact fun _ _ => rfl) : SE C (.Subscript a b pos) ρ μ E (P1 ∧ P2 ∧ P3) z := .mk fun ⟨q1, q2, q3⟩ => p_ix (h1 q1) (h2 q2) (hr.r q3) hs
theorem se_ixU (h1 : SE C a ρ μ E P1 (.d (.tup ds))) (h2 : SE C b ρ μ E P2 (.d (.int i))) (h : atI ds i = some d) (hs : PlainIx b := by exact fun _ _ => rfl) : SE C (.Subscript a b pos) ρ μ E (P1 ∧ P2) (.d d) := .mk fun ⟨q1, q2⟩ => p_ixU (h1 q1) (h2 q2) h hs
theorem se_ixL (h1 : SE C a ρ μ E P1 (.d (.lst ds))) (h2 : SE C b ρ μ E P2 (.d (.int i))) (h : atI ds i = some d) (hs : PlainIx b := by exact fun _ _ => rfl) : SE C (.Subscript a b pos) ρ μ E (P1 ∧ P2) (.d d) := .mk fun ⟨q1, q2⟩ => p_ixL (h1 q1) (h2 q2) h hs
theorem se_ixC {xs : List XV} (h1 : SE C a ρ μ E P1 (.l n)) (hm : μ[n]? = some (some (.lst xs))) (h2 : SE C b ρ μ E P2 (.d (.int i))) (hs : PlainIx b := by exact fun _ _ => rfl) : SE C (.Subscript a b pos) ρ μ E (P1 ∧ P2 ∧ inB xs.length i) (atX xs i) := .mk fun ⟨q1, q2, q3⟩ => p_ix (h1 q1) (h2 q2) (ix_C hm q3) hs
theorem so_none : SO C none ρ μ E True none := .mk fun _ => o_none
theorem so_some (h : SE C e ρ μ E P (.d (.int i))) : SO C (some e) ρ μ E P (some i) := .mk fun q => o_some (h q)
def SlR (x : XV) (lo hi : Option Int) (P : Prop) (z : XV) : Prop := ∀ {C : SC} {μ : Mem}, P → ∀ Q : XV → Mem → Prop, Q z μ → GoS C x lo hi μ Q
theorem sl_T {lo hi : Option Int} : SlR (.d (.txt l)) lo hi (l.length ≤ sizeLine) (.d (.txt (cut l lo hi))) := fun h _ q => gs_txt h q
theorem cut_map {α β : Type} (g : α → β) (xs : List α) (lo hi : Option Int) : cut (xs.map g) lo hi = (cut xs lo hi).map g := by
  unfold cut; rw [List.length_map, List.map_take, List.map_drop]
theorem sl_M {α : Type} {xs : List α} {g : α → D} {lo hi : Option Int} : SlR (.d (.lst (xs.map g))) lo hi True (.d (.lst ((cut xs lo hi).map g))) := fun _ _ q => gs_lst (by rw [cut_map]; exact q)
theorem sl_L {lo hi : Option Int} : SlR (.d (.lst ds)) lo hi True (.d (.lst (cut ds lo hi))) := fun _ _ q => gs_lst q
class SlC (x : XV) (lo hi : Option Int) (P : outParam Prop) (z : outParam XV) : Prop where
  r : SlR x lo hi P z
instance {lo hi : Option Int} : SlC (.d (.txt l)) lo hi (l.length ≤ sizeLine) (.d (.txt (cut l lo hi))) := ⟨sl_T⟩
instance (priority := 1100) {α : Type} {xs : List α} {g : α → D} {lo hi : Option Int} : SlC (.d (.lst (xs.map g))) lo hi True (.d (.lst ((cut xs lo hi).map g))) := ⟨sl_M⟩
instance {lo hi : Option Int} : SlC (.d (.lst ds)) lo hi True (.d (.lst (cut ds lo hi))) := ⟨sl_L⟩
theorem se_sl {lo hi : Option Expr} {lo' hi' : Option Int} (h : SE C e ρ μ E P1 v) (h1 : SO C lo ρ μ E P2 lo') (h2 : SO C hi ρ μ E P3 hi') [hr : SlC v lo' hi' P4 z] : SE C (.Subscript e (.Slice lo hi none p2) pos) ρ μ E (P1 ∧ P2 ∧ P3 ∧ P4) z := .mk fun ⟨q1, q2, q3, q4⟩ Q q => we_sl (h q1 _ (h1 q2 _ (h2 q3 _ (hr.r q4 Q q))))
theorem se_revT (h : SE C e ρ μ E P (.d (.txt l))) : SE C (.Subscript e (.Slice none none (some (.UnaryOp .USub (.Constant (.int 1) j p) p2)) p3) pos) ρ μ E (P ∧ l.length ≤ sizeLine) (.d (.txt l.reverse)) := .mk fun q => p_revT (h q.1) q.2
end
end DL
set_option maxRecDepth 100000
set_option maxHeartbeats 2000000
/-! DE2: built-in calls, walks, comprehensions, calls of own defs. -/
namespace DL
open PySem L2 PySem.Spec PyProof.Rows
section
variable {C : SC} {E : EPost} {ρ : Env} {μ : Mem} {a b c e e1 e2 e3 o : Expr} {es rest : List Expr} {kws : List Keyword} {pos p p2 p3 apos cpos kpos : Pos} {x : Str} {Q : XV → Mem → Prop} {QT : Bool → Mem → Prop} {v y z x1 x2 x3 : XV} {j n m : Nat} {P P1 P2 P3 P4 P5 : Prop} {k k1 k2 k3 : Bool} {D0 : DEnds} {i i1 i2 : Int} {l s t : List Nat} {ds ds1 ds2 : List D} {d d1 d2 : D}
/-! ### len, abs, .. of one thing -/
def B1R (f : String) (x : XV) (P : Prop) (z : XV) : Prop := ∀ {C : SC} [Calm C] {E : EPost} {ρ : Env} {μ : Mem} {e : Expr} {p pos : Pos}, Blts C.mg → C.Glob f → P → PV C e ρ μ E x → (∀ env, starEach [e] env = (false, eval e env) :: starEach [] env) → PV C (.Call (.Name f p) [e] [] pos) ρ μ E z
class B1C (f : String) (x : XV) (P : outParam Prop) (z : outParam XV) : Prop where
  r : B1R f x P z
instance : B1C "len" (.d (.txt l)) (l.length ≤ sizeLine) (.d (.int (l.length : Int))) := ⟨fun B hg q h he => p_lenT B.len hg h q he⟩
instance (priority := 1100) {α : Type} {xs : List α} {g : α → D} : B1C "len" (.d (.lst (xs.map g))) True (.d (.int (xs.length : Int))) := ⟨fun B hg _ h he => (p_lenL B.len hg h he).eq (by rw [List.length_map])⟩
instance : B1C "len" (.d (.lst ds)) True (.d (.int (ds.length : Int))) := ⟨fun B hg _ h he => p_lenL B.len hg h he⟩
instance (priority := 1100) {α : Type} {xs : List α} {g : α → D} : B1C "len" (.d (.tup (xs.map g))) True (.d (.int (xs.length : Int))) := ⟨fun B hg _ h he => (p_lenU B.len hg h he).eq (by rw [List.length_map])⟩
instance : B1C "len" (.d (.tup ds)) True (.d (.int (ds.length : Int))) := ⟨fun B hg _ h he => p_lenU B.len hg h he⟩
instance {ns : List Int} : B1C "len" (.d (.scr ns)) True (.d (.int (ns.length : Int))) := ⟨fun B hg _ h he => p_lenS B.len hg h he⟩
instance {ps : List (Key × D)} : B1C "len" (.d (D.dc ps)) True (.d (.int (ps.length : Int))) := ⟨fun B hg _ h he => (p_lenDct B.len hg h (.d ps) he).eq (by rw [List.length_map])⟩
instance : B1C "abs" (.d (.int i)) True (.d (.int (if i < 0 then -i else i))) := ⟨fun B hg _ h he => p_abs B hg h he⟩
instance : B1C "int" (.d (.bl k)) True (.d (.int (if k then 1 else 0))) := ⟨fun B hg _ h he => p_intB B hg h he⟩
instance {α : Type} {xs : List α} {f : α → Bool} : B1C "all" (.d (.lst (xs.map fun a => .bl (f a)))) True (.d (.bl (xs.all f))) := ⟨fun B hg _ h he => (p_all (bs := xs.map f) B hg (h.eq (by rw [List.map_map]; rfl)) he).eq (by rw [List.all_map]; rfl)⟩
instance {α : Type} {xs : List α} {f : α → Bool} : B1C "any" (.d (.lst (xs.map fun a => .bl (f a)))) True (.d (.bl (xs.any f))) := ⟨fun B hg _ h he => (p_any (bs := xs.map f) B hg (h.eq (by rw [List.map_map]; rfl)) he).eq (by rw [List.any_map]; rfl)⟩
instance {α : Type} {xs : List α} {f : α → Int} : B1C "sum" (.d (.lst (xs.map fun a => .int (f a)))) True (.d (.int (xs.map f).sum)) := ⟨fun B hg _ h he => p_sum (ns := xs.map f) B hg (h.eq (by rw [List.map_map]; rfl)) he⟩
instance (priority := 1100) {α : Type} {xs : List α} {g : α → D} : B1C "tuple" (.d (.lst (xs.map g))) True (.d (.tup (xs.map g))) := ⟨fun B hg _ h he => p_tupleL B hg h he⟩
instance : B1C "tuple" (.d (.lst ds)) True (.d (.tup ds)) := ⟨fun B hg _ h he => p_tupleL B hg h he⟩
instance : B1C "list" (.d (.lst ds)) True (.d (.lst ds)) := ⟨fun B hg _ h he => p_listL B hg h he⟩
instance : B1C "list" (.d (.tup ds)) True (.d (.lst ds)) := ⟨fun B hg _ h he => p_listU B hg h he⟩
instance : B1C "list" (.d (.txt l)) (l.length ≤ sizeLine) (.d (.lst (l.map fun c => .txt [c]))) := ⟨fun B hg q h he => p_listT B hg h q he⟩
instance {ps : List (Key × D)} : B1C "list" (.d (D.dc ps)) True (.d (.lst (ps.map fun p => keyD p.1))) := ⟨fun B hg _ h he => (p_listDct B hg h (.d ps) he).eq (by rw [List.map_map]; rfl)⟩
instance : B1C "sorted" (.d (.lst ds)) (SortOk ds) (.d (.lst (sortD ds))) := ⟨fun B hg q h he => p_sorted B.sorted hg h q he⟩
theorem se_b1 [Calm C] {f : String} (B : Blts C.mg) (h : SE C e ρ μ E P1 v) [hr : B1C f v P2 z] (hg : C.Glob f := by rfl) (he : nStar e = true := by rfl) : SE C (.Call (.Name f p) [e] [] pos) ρ μ E (P1 ∧ P2) z := .mk fun q => hr.r B hg q.2 (h q.1) (star1 he)
/-- len of a cell -/
theorem se_lenC {xs : List XV} (B : Blts C.mg) (h : SE C e ρ μ E P (.l n)) (hm : μ[n]? = some (some (.lst xs))) (hg : C.Glob "len" := by rfl) (he : nStar e = true := by rfl) : SE C (.Call (.Name "len" p) [e] [] pos) ρ μ E P (.d (.int (xs.length : Int))) := .mk fun q => p_lenC B.len hg (h q) hm (star1 he)
theorem se_max [Calm C] (B : Blts C.mg) (h : SE C e1 ρ μ E P1 (.d (.int i1))) (h2 : SE C e2 ρ μ E P2 (.d (.int i2))) (hg : C.Glob "max" := by rfl) (he : nStar e1 = true := by rfl) (he2 : nStar e2 = true := by rfl) (hpl : ∀ env, (backTo pos (starEach [e2] env)).any (·.1) = false := by intro _; rfl) : SE C (.Call (.Name "max" p) [e1, e2] [] pos) ρ μ E (P1 ∧ P2) (.d (.int (max i1 i2))) := .mk fun q => (p_max B hg (h q.1) (h2 q.2) (star1 he) (star1 he2) hpl).eq (by congr 2; split <;> omega)
theorem se_min [Calm C] (B : Blts C.mg) (h : SE C e1 ρ μ E P1 (.d (.int i1))) (h2 : SE C e2 ρ μ E P2 (.d (.int i2))) (hg : C.Glob "min" := by rfl) (he : nStar e1 = true := by rfl) (he2 : nStar e2 = true := by rfl) (hpl : ∀ env, (backTo pos (starEach [e2] env)).any (·.1) = false := by intro _; rfl) : SE C (.Call (.Name "min" p) [e1, e2] [] pos) ρ μ E (P1 ∧ P2) (.d (.int (min i1 i2))) := .mk fun q => (p_min B hg (h q.1) (h2 q.2) (star1 he) (star1 he2) hpl).eq (by congr 2; split <;> omega)
theorem se_sortSetT [Calm C] (B : Blts C.mg) (h : SE C e ρ μ E P (.d (.txt l))) (g1 : C.Glob "sorted" := by rfl) (g2 : C.Glob "set" := by rfl) : SE C (.Call (.Name "sorted" p) [.Call (.Name "set" p2) [e] [] p3] [] pos) ρ μ E (P ∧ l.length + 1 < scanBound ∧ (∀ env, starEach [e] env = (false, eval e env) :: starEach [] env) ∧ (∀ env, starEach [Expr.Call (.Name "set" p2) [e] [] p3] env = (false, eval (.Call (.Name "set" p2) [e] [] p3) env) :: starEach [] env)) (.d (.lst ((riseN l).map fun c => .txt [c]))) := .mk fun q => (p_sortSetT B g1 g2 (h q.1) q.2.1 q.2.2.1 q.2.2.2).eq (by rw [List.map_map]; rfl)
/-! isinstance -/
class IsC (T : String) (x : XV) (k : outParam Bool) : Prop where
  r : ∀ {C : SC} {E : EPost} {ρ : Env} {μ : Mem} {e : Expr} {p p2 pos : Pos}, Blts C.mg → C.Glob "isinstance" → C.Glob T → PV C e ρ μ E x → (∀ env, starEach [e, .Name T p2] env = (false, eval e env) :: starEach [.Name T p2] env) → PV C (.Call (.Name "isinstance" p) [e, .Name T p2] [] pos) ρ μ E (.d (.bl k))
theorem se_isi {T : String} (B : Blts C.mg) (h : SE C e ρ μ E P v) [hr : IsC T v k] (hg : C.Glob "isinstance" := by rfl) (hg2 : C.Glob T := by rfl) (he : nStar e = true := by rfl) : SE C (.Call (.Name "isinstance" p) [e, .Name T p2] [] pos) ρ μ E P (.d (.bl k)) := .mk fun q => hr.r B hg hg2 (h q) (star1 he)
instance : IsC "str" (.d (.txt l)) true := ⟨fun B hg hg2 h he => p_isStr (k := .txt) B hg hg2 rfl h he⟩
instance : IsC "str" (.d (.int i)) false := ⟨fun B hg hg2 h he => p_isStr (k := .int) B hg hg2 rfl h he⟩
instance : IsC "str" (.d (.tup ds)) false := ⟨fun B hg hg2 h he => p_isStr (k := .tup) B hg hg2 rfl h he⟩
instance : IsC "int" (.d (.int i)) true := ⟨fun B hg hg2 h he => p_isInt (k := .int) B hg hg2 rfl h he⟩
instance : IsC "int" (.d (.bl k)) true := ⟨fun B hg hg2 h he => p_isInt (k := .bl) B hg hg2 rfl h he⟩
instance : IsC "bool" (.d (.int i)) false := ⟨fun B hg hg2 h he => p_isBool (k := .int) B hg hg2 rfl h he⟩
instance : IsC "bool" (.d (.bl k)) true := ⟨fun B hg hg2 h he => p_isBool (k := .bl) B hg hg2 rfl h he⟩
instance : IsC "list" (.d (.lst ds)) true := ⟨fun B hg hg2 h he => p_isList (k := .lst) B hg hg2 rfl h he⟩
instance : IsC "tuple" (.d (.tup ds)) true := ⟨fun B hg hg2 h he => p_isTuple (k := .tup) B hg hg2 rfl h he⟩
instance {ps : List (Key × D)} : IsC "dict" (.d (D.dc ps)) true := ⟨fun B hg hg2 h he => p_isDict (k := .dct) B hg hg2 rfl h he⟩
def D.isStr (d : D) : Bool := match d with | .txt _ => true | _ => false
def D.isInt (d : D) : Bool := match d with | .int _ => true | .bl _ => true | _ => false
def D.isBool (d : D) : Bool := match d with | .bl _ => true | _ => false
def D.isList (d : D) : Bool := match d with | .lst _ => true | _ => false
def D.isTup (d : D) : Bool := match d with | .tup _ => true | _ => false
def D.isDict (d : D) : Bool := match d with | .dct _ _ => true | _ => false
def D.any (d : D) : Prop := ∃ k, d.kind = some k
theorem se_isStr (B : Blts C.mg) (h : SE C e ρ μ E P (.d d)) (hg : C.Glob "isinstance" := by rfl) (hg2 : C.Glob "str" := by rfl) (he : nStar e = true := by rfl) : SE C (.Call (.Name "isinstance" p) [e, .Name "str" p2] [] pos) ρ μ E (P ∧ d.any) (.d (.bl d.isStr)) := .mk fun ⟨q, ⟨k, hk⟩⟩ => (p_isStr B hg hg2 hk (h q) (star1 he)).eq (by cases d <;> cases hk <;> rfl)
theorem se_isInt (B : Blts C.mg) (h : SE C e ρ μ E P (.d d)) (hg : C.Glob "isinstance" := by rfl) (hg2 : C.Glob "int" := by rfl) (he : nStar e = true := by rfl) : SE C (.Call (.Name "isinstance" p) [e, .Name "int" p2] [] pos) ρ μ E (P ∧ d.any) (.d (.bl d.isInt)) := .mk fun ⟨q, ⟨k, hk⟩⟩ => (p_isInt B hg hg2 hk (h q) (star1 he)).eq (by cases d <;> cases hk <;> rfl)
theorem se_isBool (B : Blts C.mg) (h : SE C e ρ μ E P (.d d)) (hg : C.Glob "isinstance" := by rfl) (hg2 : C.Glob "bool" := by rfl) (he : nStar e = true := by rfl) : SE C (.Call (.Name "isinstance" p) [e, .Name "bool" p2] [] pos) ρ μ E (P ∧ d.any) (.d (.bl d.isBool)) := .mk fun ⟨q, ⟨k, hk⟩⟩ => (p_isBool B hg hg2 hk (h q) (star1 he)).eq (by cases d <;> cases hk <;> rfl)
theorem se_isList (B : Blts C.mg) (h : SE C e ρ μ E P (.d d)) (hg : C.Glob "isinstance" := by rfl) (hg2 : C.Glob "list" := by rfl) (he : nStar e = true := by rfl) : SE C (.Call (.Name "isinstance" p) [e, .Name "list" p2] [] pos) ρ μ E (P ∧ d.any) (.d (.bl d.isList)) := .mk fun ⟨q, ⟨k, hk⟩⟩ => (p_isList B hg hg2 hk (h q) (star1 he)).eq (by cases d <;> cases hk <;> rfl)
theorem se_isTup (B : Blts C.mg) (h : SE C e ρ μ E P (.d d)) (hg : C.Glob "isinstance" := by rfl) (hg2 : C.Glob "tuple" := by rfl) (he : nStar e = true := by rfl) : SE C (.Call (.Name "isinstance" p) [e, .Name "tuple" p2] [] pos) ρ μ E (P ∧ d.any) (.d (.bl d.isTup)) := .mk fun ⟨q, ⟨k, hk⟩⟩ => (p_isTuple B hg hg2 hk (h q) (star1 he)).eq (by cases d <;> cases hk <;> rfl)
theorem se_isDict (B : Blts C.mg) (h : SE C e ρ μ E P (.d d)) (hg : C.Glob "isinstance" := by rfl) (hg2 : C.Glob "dict" := by rfl) (he : nStar e = true := by rfl) : SE C (.Call (.Name "isinstance" p) [e, .Name "dict" p2] [] pos) ρ μ E (P ∧ d.any) (.d (.bl d.isDict)) := .mk fun ⟨q, ⟨k, hk⟩⟩ => (p_isDict B hg hg2 hk (h q) (star1 he)).eq (by cases d <;> cases hk <;> rfl)
/-! join, upper -/
class JnC (sep : List Nat) (x : XV) (P : outParam Prop) (l : outParam (List Nat)) : Prop where
  r : P → ∃ ls : List (List Nat), x = .d (.lst (ls.map D.txt)) ∧ (ls.map (·.length)).sum + ls.length * sep.length ≤ 16777216 ∧ TL.joinL sep ls = l
instance (priority := 1100) {α : Type} {xs : List α} {f : α → Nat} : JnC [] (.d (.lst (xs.map fun a => .txt [f a]))) (xs.length ≤ 16777216) (xs.map f) := ⟨fun q => ⟨(xs.map f).map fun c => [c], by simp only [List.map_map]; rfl, by rw [sum_one, List.length_map]; simpa using q, joinL_ones _⟩⟩
instance {α : Type} {xs : List α} {f : α → List Nat} : JnC [] (.d (.lst (xs.map fun a => .txt (f a)))) ((xs.map fun a => (f a).length).sum ≤ 16777216) (xs.flatMap f) := ⟨fun q => ⟨xs.map f, by rw [List.map_map]; rfl, by rw [List.map_map, List.length_nil, Nat.mul_zero]; exact q, by rw [joinL_nil, List.flatMap_def]⟩⟩
instance (priority := 900) {α : Type} {xs : List α} {f : α → List Nat} : JnC s (.d (.lst (xs.map fun a => .txt (f a)))) ((xs.map fun a => (f a).length).sum + xs.length * s.length ≤ 16777216) (TL.joinL s (xs.map f)) := ⟨fun q => ⟨xs.map f, by rw [List.map_map]; rfl, by rw [List.map_map, List.length_map]; exact q, rfl⟩⟩
theorem se_join {sep : List Nat} (ho : SE C o ρ μ E P1 (.d (.txt sep))) (h : SE C e ρ μ E P2 v) [hr : JnC sep v P3 l] (hbase : ∀ env, attributeBase o "join" env (eval o env) = eval o env := by intro _; rfl)
    (hfew : ∀ env, ((backTo cpos (starEach [e] env)).all (fun x => !x.1) && (backToKw cpos (keywordEach [] env)).all (fun x => x.1.isSome) && decide ([e].length + ([] : List Keyword).length + (if ([] : List Keyword).isEmpty then 0 else 1) < 30)) = true := by intro _; rfl)
    (hline : (apos.endLine == cpos.line) = true := by rfl) (hs : nStar e = true := by rfl) : SE C (.Call (.Attribute o "join" apos) [e] [] cpos) ρ μ E (P1 ∧ P2 ∧ P3) (.d (.txt l)) := .mk fun ⟨q1, q2, q3⟩ => by
  obtain ⟨ls, rfl, h2, rfl⟩ := hr.r q3
  exact p_join (ho q1) (h q2) h2 hbase hfew hline (star1 hs)
theorem se_upper (h : SE C o ρ μ E P (.d (.txt l))) (hbase : ∀ env, attributeBase o "upper" env (eval o env) = eval o env := by intro _; rfl) (hline : (apos.endLine == cpos.line) = true := by rfl) : SE C (.Call (.Attribute o "upper" apos) [] [] cpos) ρ μ E (P ∧ l.length ≤ 5592405) (.d (.txt (upT l))) := .mk fun q => p_upper (h q.1) q.2 hbase hline
/-! ### walks -/
/-- the walk gives these things, whatever the code does meanwhile -/
def PWd (C : SC) (tg iter : Expr) (ρ : Env) (μ : Mem) (E : EPost) (items : List XV) : Prop := ∀ R : List XV → (Mem → Prop) → Mem → Prop, R items (fun _ => True) μ → WI C tg iter ρ μ E R
structure SD (C : SC) (tg iter : Expr) (ρ : Env) (μ : Mem) (E : EPost) (P : Prop) {α : Type} (en : α → XV) (xs : List α) : Prop where
  r : P → PWd C tg iter ρ μ E (xs.map en)
instance {C : SC} {tg iter : Expr} {ρ : Env} {μ : Mem} {E : EPost} {P : Prop} {α : Type} {en : α → XV} {xs : List α} : CoeFun (SD C tg iter ρ μ E P en xs) fun _ => P → PWd C tg iter ρ μ E (xs.map en) := ⟨SD.r⟩
theorem SD.si {tg iter : Expr} {α : Type} {en : α → XV} {xs : List α} (h : SD C tg iter ρ μ E P en xs) : SI C tg iter ρ μ E P en xs := .mk fun q R k => h q R (k _ trivial)
class ItC (x : XV) {α : outParam Type} (en : outParam (α → XV)) (xs : outParam (List α)) : Prop where
  r : ∀ {C : SC} {tg e : Expr} {ρ : Env} {μ : Mem} {E : EPost}, PV C e ρ μ E x → PWd C tg e ρ μ E (xs.map en)
instance (priority := 1100) {α : Type} {xs : List α} {g : α → D} : ItC (.d (.lst (xs.map g))) (fun a => .d (g a)) xs := ⟨fun h R q => wi_lst (h _ ⟨_, rfl, by rw [List.map_map]; exact q⟩)⟩
instance : ItC (.d (.lst ds)) XV.d ds := ⟨fun h R q => wi_lst (h _ ⟨_, rfl, q⟩)⟩
instance (priority := 1100) {α : Type} {xs : List α} {g : α → D} : ItC (.d (.tup (xs.map g))) (fun a => .d (g a)) xs := ⟨fun h R q => wi_tup (h _ ⟨_, rfl, by rw [List.map_map]; exact q⟩)⟩
instance : ItC (.d (.tup ds)) XV.d ds := ⟨fun h R q => wi_tup (h _ ⟨_, rfl, q⟩)⟩
instance : ItC (.d (.txt l)) (fun c => .d (.txt [c])) l := ⟨fun h R q => wi_txt (h _ ⟨_, rfl, q⟩)⟩
instance {ns : List Int} : ItC (.d (.scr ns)) (fun i => .d (.int i)) ns := ⟨fun h R q => wi_scr (h _ ⟨_, rfl, q⟩)⟩
instance {ps : List (Key × D)} : ItC (.d (D.dc ps)) (fun p => .d (keyD p.1)) ps := ⟨fun h R q => wi_dctK (h _ ⟨ps, rfl, q⟩)⟩
section
variable {tg iter elt kx vx tg1 iter1 : Expr} {scope : Scope} {own : List (Str × Nat)} {tt t1 : Tg} {α β γ : Type} {en : α → XV} {xs : List α} {en1 : α → β → XV}
theorem se_it (h : SE C e ρ μ E P v) [hr : ItC v en xs] : SD C tg e ρ μ E P en xs := .mk fun q => hr.r (h q)
theorem si_cell {n : Nat} {xs : List XV} (h : SE C e ρ μ E P (.l n)) (hm : μ[n]? = some (some (.lst xs))) : SI C tg e ρ μ E P (fun x => x) xs := .mk fun q => by rw [List.map_id'']; exact pw_cell (h q) hm; exact fun _ => rfl
theorem si_rng1 (B : Blts C.mg) (h : SE C a ρ μ E P (.d (.int i))) (hg : C.Glob "range" := by rfl) (hs : nStar a = true := by rfl) : SD C tg (.Call (.Name "range" p) [a] [] pos) ρ μ E (P ∧ -(2 ^ 62) ≤ i ∧ i < 2 ^ 62) (fun m : Nat => .d (.int (m : Int))) (List.range i.toNat) := .mk fun q R k =>
  wi_range1 hg B.range (h q.1 _ ⟨i, rfl, q.2.1, q.2.2, by unfold rng; simpa using k⟩) (starL1 hs)
theorem si_rng2 (B : Blts C.mg) (h : SE C a ρ μ E P1 (.d (.int i1))) (h2 : SE C b ρ μ E P2 (.d (.int i2))) (hg : C.Glob "range" := by rfl) (hs : nStar a = true := by rfl) (hs2 : nStar b = true := by rfl) : SD C tg (.Call (.Name "range" p) [a, b] [] pos) ρ μ E (P1 ∧ P2 ∧ (-(2 ^ 62) ≤ i1 ∧ i1 < 2 ^ 62 ∧ -(2 ^ 62) ≤ i2 ∧ i2 < 2 ^ 62)) (fun m : Nat => .d (.int (i1 + (m : Int)))) (List.range (i2 - i1).toNat) := .mk fun q R k =>
  wi_range2 hg B.range (h q.1 _ (h2 q.2.1 _ ⟨i1, i2, rfl, rfl, q.2.2, k⟩)) (starL2 hs hs2) (starL1 hs2)
class ZiC (x : XV) {α : outParam Type} (g : outParam (α → D)) (xs : outParam (List α)) : Prop where
  r : ∃ u, x = .d u ∧ Zi u (xs.map g)
instance (priority := 1100) {α : Type} {xs : List α} {g : α → D} : ZiC (.d (.lst (xs.map g))) g xs := ⟨⟨_, rfl, rfl⟩⟩
instance : ZiC (.d (.lst ds)) (fun d : D => d) ds := ⟨⟨_, rfl, by rw [List.map_id'']; rfl; exact fun _ => rfl⟩⟩
instance (priority := 1100) {α : Type} {xs : List α} {g : α → D} : ZiC (.d (.tup (xs.map g))) g xs := ⟨⟨_, rfl, rfl⟩⟩
instance : ZiC (.d (.tup ds)) (fun d : D => d) ds := ⟨⟨_, rfl, by rw [List.map_id'']; rfl; exact fun _ => rfl⟩⟩
instance : ZiC (.d (.txt l)) (fun c : Nat => D.txt [c]) l := ⟨⟨_, rfl, rfl⟩⟩
instance {ns : List Int} : ZiC (.d (.scr ns)) D.int ns := ⟨⟨_, rfl, rfl⟩⟩
theorem si_zip {elts : List Expr} {kk : Nat} {tpos : Pos} {g : α → D} {f : β → D} {ys : List β} (B : Blts C.mg) (h : SE C a ρ μ E P1 x1) (h2 : SE C b ρ μ E P2 x2) [r1 : ZiC x1 g xs] [r2 : ZiC x2 f ys] (hg : C.Glob "zip" := by rfl) (hs : nStar a = true := by rfl) (hs2 : nStar b = true := by rfl) (hpl : ∀ env, (backTo pos (starEach [b] env)).any (·.1) = false := by intro _; rfl) :
    SD C (.Tuple elts kk tpos) (.Call (.Name "zip" p) [a, b] [] pos) ρ μ E (P1 ∧ P2) (fun q : α × β => .d (.tup [g q.1, f q.2])) (xs.zip ys) := .mk fun q R k => by
  obtain ⟨u, rfl, z1⟩ := r1.r
  obtain ⟨w, rfl, z2⟩ := r2.r
  refine wi_zip B.zip hg (h q.1 _ (h2 q.2 _ ⟨u, w, _, _, rfl, rfl, z1, z2, ?_⟩)) (star1 hs) (starL1 hs2) hpl
  unfold zipD
  rw [List.zip_map, List.map_map]
  exact k
theorem si_items {elts : List Expr} {kk : Nat} {tpos : Pos} {ps : List (Key × D)} (h : SE C e ρ μ E P (.d (D.dc ps))) (hbase : ∀ env, attributeBase e "items" env (eval e env) = eval e env := by intro _; rfl) (hline : (apos.endLine == cpos.line) = true := by rfl) :
    SD C (.Tuple elts kk tpos) (.Call (.Attribute e "items" apos) [] [] cpos) ρ μ E P (fun q : Key × D => .d (.tup [keyD q.1, q.2])) ps := .mk fun q R k => wi_dctI (h q _ ⟨ps, rfl, k⟩) hbase hline
theorem si_values {ps : List (Key × D)} (h : SE C e ρ μ E P (.d (D.dc ps))) (hbase : ∀ env, attributeBase e "values" env (eval e env) = eval e env := by intro _; rfl) (hline : (apos.endLine == cpos.line) = true := by rfl) :
    SD C tg (.Call (.Attribute e "values" apos) [] [] cpos) ρ μ E P (fun q : Key × D => .d q.2) ps := .mk fun q R k => wi_dctV (h q _ ⟨ps, rfl, k⟩) hbase hline
/-! ### comprehensions -/
def Tg.env (t : Tg) (x : XV) (ρ : Env) : Env :=
  match t with
  | .nm j => ρ.set j (some x)
  | .tp js => match x with
    | .d (.tup ds) => setAll ρ js ds
    | _ => ρ
def Tg.fits (t : Tg) (x : XV) : Prop :=
  match t with
  | .nm _ => True
  | .tp js => match x with
    | .d (.tup ds) => ds.length = js.length
    | _ => False
theorem Tg.put_env {t : Tg} {x : XV} (h : t.fits x) {ρ : Env} : t.put x ρ (t.env x ρ) := by
  cases t with
  | nm j => rfl
  | tp js =>
    unfold Tg.fits at h
    split at h
    · rename_i h1; cases h1
    · rename_i js' h1
      cases h1
      split at h
      · rename_i ds
        exact ⟨ds, rfl, h, rfl⟩
      · exact h.elim
theorem wi_lcT {vs : List Nat} {ifs : List Expr} {f : α → Bool} {g : α → D} (hi : PWk C tg iter ρ μ E (xs.map en)) (hz : xs.length ≤ sizeLine)
    (h : ∀ a ∈ xs, ∃ ρ', tt.put (en a) (wipeE ρ vs) ρ' ∧ PIf (C.blk scope) ifs ρ' μ (f a) ∧ (f a = true → PV (C.blk scope) elt ρ' μ noE (.d (g a)))) (q : Q (.d (.lst ((xs.filter f).map g))) μ) : WI C tg iter ρ μ E (LcI C scope tt ifs elt vs ρ Q) := by
  refine hi _ fun G hG => ⟨by rw [List.length_map]; exact hz, fun i acc μ' => acc = ((xs.take i).filter f).map g ∧ μ' = μ, ⟨by simp, rfl⟩, fun _ _ _ _ hp => by rw [hp.2]; exact hG, fun i x acc μ' hx hp => ?_, fun acc μ' hp => ?_⟩
  · obtain ⟨rfl, rfl⟩ := hp
    rw [List.getElem?_map] at hx
    obtain ⟨a, ha, rfl⟩ := Option.map_eq_some_iff.mp hx
    obtain ⟨ρ', h1, h2, h3⟩ := h a (List.mem_of_getElem? ha)
    refine ⟨ρ', h1, h2 _ ⟨fun hf => h3 hf _ ⟨_, rfl, ?_, rfl⟩, fun hf => ⟨?_, rfl⟩⟩⟩
    · rw [take_filter ha, if_pos hf, List.map_append]; rfl
    · rw [take_filter ha, hf]; simp
  · obtain ⟨rfl, rfl⟩ := hp
    rw [List.length_map, List.take_length]
    exact q
theorem filter_true {α : Type} (xs : List α) : (xs.filter fun _ => true) = xs := List.filter_eq_self.mpr fun _ _ => rfl
theorem wi_lc0 {vs : List Nat} {g : α → D} (hi : PWk C tg iter ρ μ E (xs.map en)) (hz : xs.length ≤ sizeLine)
    (h : ∀ a ∈ xs, ∃ ρ', tt.put (en a) (wipeE ρ vs) ρ' ∧ PV (C.blk scope) elt ρ' μ noE (.d (g a))) (q : Q (.d (.lst (xs.map g))) μ) : WI C tg iter ρ μ E (LcI C scope tt [] elt vs ρ Q) :=
  wi_lcT (f := fun _ => true) hi hz (fun a ha => by obtain ⟨ρ', h1, h2⟩ := h a ha; exact ⟨ρ', h1, pif_nil, fun _ => h2⟩) (by rw [filter_true]; exact q)
/-- [elt for tg in iter] -/
theorem se_lc [Calm C] {P' : α → Prop} {g : α → D} (ht : TgOk (C.blk scope) tg tt) (nd : C.N.Nodup) (ok : BlkOk C.N C.sc scope own) (hsl : ∀ j ∈ tt.slots, j ∈ own.map (·.2)) (hi : SI C tg iter ρ μ E P en xs)
    (h : ∀ a : α, SE (C.blk scope) elt (tt.env (en a) (wipeE ρ (own.map (·.2)))) μ noE (P' a) (.d (g a))) (hf : ∀ a, tt.fits (en a) := by intro _; first | trivial | rfl) (hs : nSet iter = true := by rfl) :
    SE C (.ListComp elt [⟨tg, iter, [], 0⟩] scope pos) ρ μ E (P ∧ xs.length ≤ sizeLine ∧ ∀ a ∈ xs, P' a) (.d (.lst (xs.map g))) := .mk fun ⟨q1, q2, q3⟩ Q q =>
  we_lc ht nd ok hsl (wi_lc0 (hi q1) q2 (fun a ha => ⟨_, Tg.put_env (hf a), h a (q3 a ha)⟩) q) (fsi hs)
/-- [elt for tg in iter if c] -/
theorem se_lcf [Calm C] {P' P'' : α → Prop} {f : α → Bool} {g : α → D} (ht : TgOk (C.blk scope) tg tt) (nd : C.N.Nodup) (ok : BlkOk C.N C.sc scope own) (hsl : ∀ j ∈ tt.slots, j ∈ own.map (·.2)) (hi : SI C tg iter ρ μ E P en xs)
    (hc : ∀ a : α, SB (C.blk scope) c (tt.env (en a) (wipeE ρ (own.map (·.2)))) μ noE (P'' a) (f a))
    (h : ∀ a : α, SE (C.blk scope) elt (tt.env (en a) (wipeE ρ (own.map (·.2)))) μ noE (P' a) (.d (g a))) (hf : ∀ a, tt.fits (en a) := by intro _; first | trivial | rfl) (hs : nSet iter = true := by rfl) :
    SE C (.ListComp elt [⟨tg, iter, [c], 0⟩] scope pos) ρ μ E (P ∧ xs.length ≤ sizeLine ∧ ∀ a ∈ xs, P'' a ∧ (f a = true → P' a)) (.d (.lst ((xs.filter f).map g))) := .mk fun ⟨q1, q2, q3⟩ Q q =>
  we_lc ht nd ok hsl (wi_lcT (hi q1) q2 (fun a ha => ⟨_, Tg.put_env (hf a), pif_one (hc a (q3 a ha).1), fun hfa => h a ((q3 a ha).2 hfa)⟩) q) (fsi hs)
/-- name = [..] on one line -/
theorem w1_lc [Calm C] {P' : α → Prop} {g : α → D} {y : Str} {py spos : Pos} {i : Nat} (nm : C.Nm i y) (hyl : C.sc.names.lookup y = some .local) (ht : TgOk (C.blk scope) tg tt) (ok : BlkOk C.N C.sc scope own) (hsl : ∀ j ∈ tt.slots, j ∈ own.map (·.2)) (hi : SI C tg iter ρ μ E P en xs)
    (h : ∀ a : α, SE (C.blk scope) elt (tt.env (en a) (wipeE ρ (own.map (·.2)))) μ noE (P' a) (.d (g a))) (hk : C.sc.kind = .function) (hl : (py.line == pos.line) = true) (ha : (scope.names.any fun (n, k) => n == y && (k == .local || k == .cell)) = false)
    (q1 : P ∧ xs.length ≤ sizeLine ∧ ∀ a ∈ xs, P' a) (q : D0.nx (ρ.set i (some (.d (.lst (xs.map g))))) μ) (hf : ∀ a, tt.fits (en a) := by intro _; first | trivial | rfl) (hs : nSet iter = true := by rfl) :
    WS1 C (.Assign [.Name y py] (.ListComp elt [⟨tg, iter, [], 0⟩] scope pos) spos) ρ μ E D0 :=
  w1_setLc nm hyl ht ok hsl (wi_lc0 (hi q1.1) q1.2.1 (fun a ha => ⟨_, Tg.put_env (hf a), h a (q1.2.2 a ha)⟩) q) hk hl ha (fsi hs)
theorem w1_lcf [Calm C] {P' P'' : α → Prop} {f : α → Bool} {g : α → D} {y : Str} {py spos : Pos} {i : Nat} (nm : C.Nm i y) (hyl : C.sc.names.lookup y = some .local) (ht : TgOk (C.blk scope) tg tt) (ok : BlkOk C.N C.sc scope own) (hsl : ∀ j ∈ tt.slots, j ∈ own.map (·.2)) (hi : SI C tg iter ρ μ E P en xs)
    (hc : ∀ a : α, SB (C.blk scope) c (tt.env (en a) (wipeE ρ (own.map (·.2)))) μ noE (P'' a) (f a))
    (h : ∀ a : α, SE (C.blk scope) elt (tt.env (en a) (wipeE ρ (own.map (·.2)))) μ noE (P' a) (.d (g a))) (hk : C.sc.kind = .function) (hl : (py.line == pos.line) = true) (ha : (scope.names.any fun (n, k) => n == y && (k == .local || k == .cell)) = false)
    (q1 : P ∧ xs.length ≤ sizeLine ∧ ∀ a ∈ xs, P'' a ∧ (f a = true → P' a)) (q : D0.nx (ρ.set i (some (.d (.lst ((xs.filter f).map g))))) μ) (hf : ∀ a, tt.fits (en a) := by intro _; first | trivial | rfl) (hs : nSet iter = true := by rfl) :
    WS1 C (.Assign [.Name y py] (.ListComp elt [⟨tg, iter, [c], 0⟩] scope pos) spos) ρ μ E D0 :=
  w1_setLc nm hyl ht ok hsl (wi_lcT (hi q1.1) q1.2.1 (fun a ha => ⟨_, Tg.put_env (hf a), pif_one (hc a (q1.2.2 a ha).1), fun hfa => h a ((q1.2.2 a ha).2 hfa)⟩) q) hk hl ha (fsi hs)
end
/-! ### statements -/
theorem w1_setS {i : Nat} {y : Str} {py : Pos} (nm : C.Nm i y) (h : SE C e ρ μ E P v) (q1 : P) (q : D0.nx (ρ.set i (some v)) μ) (hs : ∀ env, swapsWith e (some (.Name y py)) pos.line env = pure false := by intro _; rfl) : WS1 C (.Assign [.Name y py] e pos) ρ μ E D0 := w1_set nm ((h q1).go q) hs
theorem w1_retS (h : SE C e ρ μ E P v) (q1 : P) (q : D0.rt v μ) {rest : List Stmt} : WS C (.Return (some e) pos :: rest) ρ μ E D0 := w1_retQ (h q1) q
theorem w1_tupS [Calm C] {tt : Tg} {tg : Expr} (ht : TgOk C tg tt) (h : SE C e ρ μ E P v) (q1 : P) (q : D0.nx (tt.env v ρ) μ) (hf : tt.fits v := by first | trivial | rfl) (hs : ∀ env, swapsWithSole [tg] e pos.line env = pure false := by intro _; rfl) (hw : ∀ env, swappedStores [tg] e env = pure none := by intro _; rfl)
    (h1 : ∀ env, (assignEach [tg] env).map (·.2) = [assign tg env] := by intro _; rfl) : WS1 C (.Assign [tg] e pos) ρ μ E D0 := w1_asg ht ((h q1).go ⟨_, Tg.put_env hf, q⟩) hs hw h1
/-! ### own defs -/
theorem se_call1 [Calm C] {α : Type} {ca : α → D} {pre : α → Prop} {f : α → D} {a : α} {kk : Nat} {ps : List Str} (F : FnD C kk x ps (cP1 ca pre f)) (h1 : SE C e1 ρ μ E P1 (.d (ca a))) (hk : kk ≤ C.room := by exact Nat.le_of_ble_eq_true rfl) (hg : C.Glob x := by rfl) (hdb : (x == ("__debug__" : Str)) = false := by decide) (he : nStar e1 = true := by rfl) : SE C (.Call (.Name x p) [e1] [] pos) ρ μ E (P1 ∧ pre a) (.d (f a)) := .mk fun q => p_call1 F hk hg (h1 q.1) q.2 hdb (star1 he)
theorem se_call2 [Calm C] {α β : Type} {ca : α → D} {cb : β → D} {pre : α → β → Prop} {f : α → β → D} {a : α} {b : β} {kk : Nat} {ps : List Str} (F : FnD C kk x ps (cP2 ca cb pre f)) (h1 : SE C e1 ρ μ E P1 (.d (ca a))) (h2 : SE C e2 ρ μ E P2 (.d (cb b))) (hk : kk ≤ C.room := by exact Nat.le_of_ble_eq_true rfl) (hg : C.Glob x := by rfl) (hdb : (x == ("__debug__" : Str)) = false := by decide) (he : nStar e1 = true := by rfl) (he2 : nStar e2 = true := by rfl) (hpl : ∀ env, (backTo pos (starEach [e2] env)).any (·.1) = false := by intro _; rfl) : SE C (.Call (.Name x p) [e1, e2] [] pos) ρ μ E (P1 ∧ P2 ∧ pre a b) (.d (f a b)) := .mk fun q => p_call2 F hk hg (h1 q.1) (h2 q.2.1) q.2.2 hdb (star1 he) (star1 he2) hpl
theorem se_call3 [Calm C] {α β γ : Type} {ca : α → D} {cb : β → D} {cc : γ → D} {pre : α → β → γ → Prop} {f : α → β → γ → D} {a : α} {b : β} {c : γ} {kk : Nat} {ps : List Str} (F : FnD C kk x ps (cP3 ca cb cc pre f)) (h1 : SE C e1 ρ μ E P1 (.d (ca a))) (h2 : SE C e2 ρ μ E P2 (.d (cb b))) (h3 : SE C e3 ρ μ E P3 (.d (cc c))) (hk : kk ≤ C.room := by exact Nat.le_of_ble_eq_true rfl) (hg : C.Glob x := by rfl) (hdb : (x == ("__debug__" : Str)) = false := by decide)
    (he : nStar e1 = true := by rfl) (he2 : nStar e2 = true := by rfl) (he3 : nStar e3 = true := by rfl) (hpl : ∀ env, (backTo pos (starEach [e2, e3] env)).any (·.1) = false := by intro _; rfl) : SE C (.Call (.Name x p) [e1, e2, e3] [] pos) ρ μ E (P1 ∧ P2 ∧ P3 ∧ pre a b c) (.d (f a b c)) := .mk fun q => p_call3 F hk hg (h1 q.1) (h2 q.2.1) (h3 q.2.2.1) q.2.2.2 hdb (star1 he) (star1 he2) (star1 he3) hpl
end
end DL
set_option maxRecDepth 100000
set_option maxHeartbeats 2000000
/-! DE3: loops, keywords, methods, two walks, dicts, in. -/
namespace DL
open PySem L2 PySem.Spec PyProof.Rows
section
variable {C : SC} {E : EPost} {ρ : Env} {μ : Mem} {a b c e e1 e2 e3 o : Expr} {es rest : List Expr} {kws : List Keyword} {pos p p2 p3 apos cpos kpos k2pos : Pos} {x : Str} {Q : XV → Mem → Prop} {QT : Bool → Mem → Prop} {v y z x1 x2 x3 : XV} {j n m : Nat} {P P1 P2 P3 P4 P5 : Prop} {k k1 k2 k3 : Bool} {D0 : DEnds} {i i1 i2 : Int} {l s t : List Nat} {ds ds1 ds2 : List D} {d d1 d2 : D} {tg iter elt kx vx tg1 iter1 : Expr} {scope : Scope} {own : List (Str × Nat)} {tt t1 : Tg} {α β γ : Type} {en : α → XV} {xs : List α} {body : List Stmt}
/-! ### loops -/
/-- a walk that changes names alone -/
theorem w1_forS [Calm C] (I : Nat → Env → Prop) (ht : TgOk C tg tt) (hi : SI C tg iter ρ μ E P en xs) (q1 : P) (h0 : I 0 ρ)
    (hs : ∀ (i : Nat) a ρ', xs[i]? = some a → I i ρ' → WS C body (tt.env (en a) ρ') μ E { D0 with nx := fun ρ3 μ3 => μ3 = μ ∧ I (i + 1) ρ3, ct := fun ρ3 μ3 => μ3 = μ ∧ I (i + 1) ρ3, bk := D0.nx }) (hend : ∀ ρ', I xs.length ρ' → D0.nx ρ' μ)
    (hf : ∀ a, tt.fits (en a) := by intro _; first | trivial | rfl) (hw : nSet iter = true := by rfl) : WS1 C (.For tg iter body [] pos) ρ μ E D0 :=
  w1_forP (t := tt) I ht (hi q1 _ fun G hG => ⟨rfl, hG, h0, fun i x ρ' hx hI => by
    rw [List.getElem?_map] at hx
    obtain ⟨a, ha, rfl⟩ := Option.map_eq_some_iff.mp hx
    exact ⟨_, Tg.put_env (hf a), hs i a ρ' ha hI⟩, fun ρ' hI => hend ρ' (by rw [List.length_map] at hI; exact hI)⟩) (fsi hw)
/-- a walk over data, whatever the code changes -/
theorem w1_forM [Calm C] (I : Nat → Env → Mem → Prop) (ht : TgOk C tg tt) (hi : SD C tg iter ρ μ E P en xs) (q1 : P) (h0 : I 0 ρ μ)
    (hs : ∀ (i : Nat) a ρ' μ', xs[i]? = some a → I i ρ' μ' → WS C body (tt.env (en a) ρ') μ' E { D0 with nx := Wk μ'.length (I (i + 1)), ct := Wk μ'.length (I (i + 1)), bk := D0.nx }) (hend : ∀ ρ' μ', I xs.length ρ' μ' → D0.nx ρ' μ')
    (hf : ∀ a, tt.fits (en a) := by intro _; first | trivial | rfl) (hw : nSet iter = true := by rfl) : WS1 C (.For tg iter body [] pos) ρ μ E D0 :=
  w1_for (t := tt) ht (hi q1 _ ⟨I, h0, fun _ _ _ _ _ => trivial, fun i x ρ' μ' hx hI => by
    rw [List.getElem?_map] at hx
    obtain ⟨a, ha, rfl⟩ := Option.map_eq_some_iff.mp hx
    exact ⟨_, Tg.put_env (hf a), hs i a ρ' μ' ha hI⟩, fun ρ' μ' hI => hend ρ' μ' (by rw [List.length_map] at hI; exact hI)⟩) (fsi hw)
theorem SB.pb (h : SB C e ρ μ E P k) (q : P) : PB C e ρ μ E k := h q
theorem w1_addS {i : Nat} {y : Str} {py : Pos} {i1 i2 : Int} (nm : C.Nm i y) (hv : ρ[i]? = some (some (.d (.int i1)))) (h : SE C e ρ μ E P (.d (.int i2))) (q1 : P) (q : D0.nx (ρ.set i (some (.d (.int (i1 + i2))))) μ) : WS1 C (.AugAssign (.Name y py) .Add e pos) ρ μ E D0 := w1_addI nm hv (h q1 _ ⟨_, rfl, q⟩)
theorem w1_subS {i : Nat} {y : Str} {py : Pos} {i1 i2 : Int} (nm : C.Nm i y) (hv : ρ[i]? = some (some (.d (.int i1)))) (h : SE C e ρ μ E P (.d (.int i2))) (q1 : P) (q : D0.nx (ρ.set i (some (.d (.int (i1 - i2))))) μ) : WS1 C (.AugAssign (.Name y py) .Sub e pos) ρ μ E D0 := w1_subI nm hv (h q1 _ ⟨_, rfl, q⟩)
/-! ### calls by names, methods -/
theorem se_k1 [Calm C] {ca : α → D} {pre : α → Prop} {f : α → D} {a : α} {kk : Nat} {ps : List Str} {q : Str} (F : FnK C kk x ps (cP1 ca pre f) 0 [q] [0]) (h : SE C e1 ρ μ E P1 (.d (ca a))) (hk : kk ≤ C.room := by exact Nat.le_of_ble_eq_true rfl) (hg : C.Glob x := by rfl) (hdb : (x == ("__debug__" : Str)) = false := by decide) : SE C (.Call (.Name x p) [] [⟨some q, e1, kpos⟩] pos) ρ μ E (P1 ∧ pre a ∧ KwAll [⟨some q, e1, kpos⟩] pos [q]) (.d (f a)) := .mk fun w Q z =>
  we_callK0 F hk hg ((pk_cs (h w.1) pk_nl) _ ⟨rfl, calls_P (c := cP1 ca pre f) a w.2.1 rfl rfl (fun o h => h) z⟩) hdb w.2.2
theorem se_k2 [Calm C] {ca : α → D} {cb : β → D} {pre : α → β → Prop} {f : α → β → D} {a : α} {b : β} {kk : Nat} {ps : List Str} {q q2 : Str} (F : FnK C kk x ps (cP2 ca cb pre f) 0 [q, q2] [1, 0]) (h : SE C e1 ρ μ E P1 (.d (cb b))) (h2 : SE C e2 ρ μ E P2 (.d (ca a))) (hk : kk ≤ C.room := by exact Nat.le_of_ble_eq_true rfl) (hg : C.Glob x := by rfl) (hdb : (x == ("__debug__" : Str)) = false := by decide) : SE C (.Call (.Name x p) [] [⟨some q, e1, kpos⟩, ⟨some q2, e2, k2pos⟩] pos) ρ μ E (P1 ∧ P2 ∧ pre a b ∧ KwAll [⟨some q, e1, kpos⟩, ⟨some q2, e2, k2pos⟩] pos [q, q2]) (.d (f a b)) := .mk fun w Q z =>
  we_callK0 F hk hg ((pk_cs (h w.1) (pk_cs (h2 w.2.1) pk_nl)) _ ⟨rfl, calls_P (c := cP2 ca cb pre f) (a, b) w.2.2.1 rfl rfl (fun o h => h) z⟩) hdb w.2.2.2
theorem se_meth0 [Calm C] {ca : α → D} {pre : α → Prop} {f : α → D} {a : α} {kk : Nat} {ps : List Str} {m : Str} {Cl : Addr} {pl : PySem.Env → Sem Bool} (F : MtD C kk Cl m ps (cP1 ca pre f)) (h : SE C o ρ μ E P (.d (ca a))) (hk : kk ≤ C.room := by exact Nat.le_of_ble_eq_true rfl) (ha : ∃ fs ds, ca a = .ins Cl fs ds ∧ m ∉ fs := by exact ⟨_, _, rfl, by decide⟩) (ht : ∀ env, MethForm o m [] [] apos cpos (pl env) env := by intro _; rfl) : SE C (.Call (.Attribute o m apos) [] [] cpos) ρ μ E (P ∧ pre a) (.d (f a)) := .mk fun q => by
  obtain ⟨fs, ds, e1, e2⟩ := ha
  exact p_meth0 a F hk ((h q.1).eq (by rw [e1])) e1 e2 q.2 ht
theorem se_meth1 [Calm C] {ca : α → D} {cb : β → D} {pre : α → β → Prop} {f : α → β → D} {a : α} {b : β} {kk : Nat} {ps : List Str} {m : Str} {Cl : Addr} {pl : PySem.Env → Sem Bool} (F : MtD C kk Cl m ps (cP2 ca cb pre f)) (h : SE C o ρ μ E P (.d (ca a))) (h1 : SE C e1 ρ μ E P1 (.d (cb b))) (hk : kk ≤ C.room := by exact Nat.le_of_ble_eq_true rfl) (ha : ∃ fs ds, ca a = .ins Cl fs ds ∧ m ∉ fs := by exact ⟨_, _, rfl, by decide⟩) (ht : ∀ env, MethForm o m [e1] [] apos cpos (pl env) env := by intro _; rfl) (hs : nStar e1 = true := by rfl) : SE C (.Call (.Attribute o m apos) [e1] [] cpos) ρ μ E (P ∧ P1 ∧ pre a b) (.d (f a b)) := .mk fun q => by
  obtain ⟨fs, ds, w1, w2⟩ := ha
  exact p_meth1 a F hk ((h q.1).eq (by rw [w1])) w1 w2 (h1 q.2.1) q.2.2 ht (star1 hs)
theorem se_meth2 [Calm C] {ca : α → D} {cb : β → D} {cc : γ → D} {pre : α → β → γ → Prop} {f : α → β → γ → D} {a : α} {b : β} {c : γ} {kk : Nat} {ps : List Str} {m : Str} {Cl : Addr} {pl : PySem.Env → Sem Bool} (F : MtD C kk Cl m ps (cP3 ca cb cc pre f)) (h : SE C o ρ μ E P (.d (ca a))) (h1 : SE C e1 ρ μ E P1 (.d (cb b))) (h2 : SE C e2 ρ μ E P2 (.d (cc c))) (hk : kk ≤ C.room := by exact Nat.le_of_ble_eq_true rfl) (ha : ∃ fs ds, ca a = .ins Cl fs ds ∧ m ∉ fs := by exact ⟨_, _, rfl, by decide⟩) (ht : ∀ env, MethForm o m [e1, e2] [] apos cpos (pl env) env := by intro _; rfl) (hs : nStar e1 = true := by rfl) (hs2 : nStar e2 = true := by rfl) (hpl : ∀ env, (backTo cpos (starEach [e2] env)).any (·.1) = false := by intro _; rfl) : SE C (.Call (.Attribute o m apos) [e1, e2] [] cpos) ρ μ E (P ∧ P1 ∧ P2 ∧ pre a b c) (.d (f a b c)) := .mk fun q => by
  obtain ⟨fs, ds, w1, w2⟩ := ha
  exact p_meth2 a F hk ((h q.1).eq (by rw [w1])) w1 w2 (h1 q.2.1) (h2 q.2.2.1) q.2.2.2 ht (star1 hs) (star1 hs2) hpl
theorem se_fld {Cl : Addr} {f : Str} {fs : List Str} (hc : Cls C.K Cl) (hn : NoAttr C.K Cl f) (h : SE C e ρ μ E P (.d (.ins Cl fs ds))) (hf : fldD fs ds f = some d) (hb : ∀ env, attributeBase e f env (eval e env) = eval e env := by intro _; rfl) : SE C (.Attribute e f pos) ρ μ E P (.d d) := .mk fun q => p_fld hc hn (h q) hf hb
/-! ### two walks -/
theorem wi_lc2T {ifs ifs1 : List Expr} {en1 : α → β → XV} {ys : α → List β} {g : α → β → D} {f : α → Bool} {f1 : α → β → Bool} (hi : PWk C tg iter ρ μ E (xs.map en)) (hz : (xs.flatMap fun a => if f a then ((ys a).filter (f1 a)).map (g a) else []).length ≤ sizeLine)
    (h : ∀ a ∈ xs, ∃ ρ', tt.put (en a) (wipeE ρ (own.map (·.2))) ρ' ∧ PIf (C.blk scope) ifs ρ' μ (f a) ∧ (f a = true → PWk (C.blk scope) tg1 iter1 ρ' μ noE ((ys a).map (en1 a)) ∧ ∀ b ∈ ys a, ∃ ρ2, t1.put (en1 a b) (wipeE ρ' t1.slots) ρ2 ∧ PIf (C.blk scope) ifs1 ρ2 μ (f1 a b) ∧ (f1 a b = true → PV (C.blk scope) elt ρ2 μ noE (.d (g a b))))) (q : Q (.d (.lst (xs.flatMap fun a => if f a then ((ys a).filter (f1 a)).map (g a) else []))) μ) : WI C tg iter ρ μ E (LcI2 C scope tt t1 ifs ifs1 tg1 iter1 elt (own.map (·.2)) t1.slots ρ Q) := by
  generalize hF : (fun x => if f x then ((ys x).filter (f1 x)).map (g x) else []) = F at *
  refine hi _ fun G hG => ⟨fun i acc μ' => acc = (xs.take i).flatMap F ∧ μ' = μ, ⟨by simp, rfl⟩, fun _ _ _ _ hp => by rw [hp.2]; exact hG, fun i x acc μ' hx0 hp => ?_, fun acc μ' hp => ?_⟩
  · obtain ⟨rfl, rfl⟩ := hp
    rw [List.getElem?_map] at hx0
    obtain ⟨x, hx, rfl⟩ := Option.map_eq_some_iff.mp hx0
    obtain ⟨ρ', h1, h2, h3⟩ := h x (List.mem_of_getElem? hx)
    refine ⟨ρ', h1, h2 _ ⟨fun hf => ?_, fun hf => ⟨?_, rfl⟩⟩⟩
    · obtain ⟨hw, hy⟩ := h3 hf
      have eF : F x = ((ys x).filter (f1 x)).map (g x) := by rw [← hF]; simp [hf]
      refine hw _ fun G1 hG1 => ⟨fun j acc μ9 => acc = (xs.take i).flatMap F ++ (((ys x).take j).filter (f1 x)).map (g x) ∧ μ9 = μ', ⟨by simp, rfl⟩, fun _ _ _ _ hp => by rw [hp.2]; exact hG1, fun j y0 acc μ3 hyj0 hp => ?_, fun acc μ3 hp => ?_⟩
      · obtain ⟨rfl, rfl⟩ := hp
        rw [List.getElem?_map] at hyj0
        obtain ⟨y, hyj, rfl⟩ := Option.map_eq_some_iff.mp hyj0
        obtain ⟨ρ2, k1, k2, k3⟩ := hy y (List.mem_of_getElem? hyj)
        refine ⟨ρ2, k1, k2 _ ⟨fun hf1 => ⟨?_, k3 hf1 _ ⟨g x y, rfl, ?_, rfl⟩⟩, fun hf1 => ⟨?_, rfl⟩⟩⟩
        · have b1 := take_len_le (f := F) hx
          have b2 : (((ys x).take (j + 1)).filter (f1 x)).length ≤ ((ys x).filter (f1 x)).length := by
            have e : ys x = (ys x).take (j + 1) ++ (ys x).drop (j + 1) := (List.take_append_drop _ _).symm
            have := congrArg (fun l => (l.filter (f1 x)).length) e
            simp only [List.filter_append, List.length_append] at this
            omega
          rw [take_filter hyj, if_pos hf1, List.length_append] at b2
          rw [eF, List.length_map] at b1
          rw [List.length_append, List.length_map]
          simp only [List.length_cons, List.length_nil] at b2
          omega
        · rw [take_filter hyj, if_pos hf1, List.map_append, List.append_assoc]
          rfl
        · rw [take_filter hyj, hf1]
          simp
      · obtain ⟨rfl, rfl⟩ := hp
        refine ⟨?_, rfl⟩
        rw [take_flat hx, eF, List.length_map, List.take_length]
    · rw [take_flat hx, ← hF]; simp [hf]
  · obtain ⟨rfl, rfl⟩ := hp
    rw [List.length_map, List.take_length]
    exact q
theorem flat_plain {ys : α → List β} {g : α → β → D} : (xs.flatMap fun a => if (fun _ : α => true) a = true then ((ys a).filter ((fun (_ : α) (_ : β) => true) a)).map (g a) else []) = xs.flatMap fun a => (ys a).map (g a) := by
  congr 1; funext a; rw [if_pos rfl, filter_true]
/-- [elt for .. for ..] -/
theorem se_lc2 [Calm C] {en1 : α → β → XV} {ys : α → List β} {g : α → β → D} {Pa : α → Prop} {Pb : α → β → Prop} (ht : TgOk (C.blk scope) tg tt) (ht1 : TgOk (C.blk scope) tg1 t1) (nd : C.N.Nodup) (ok : BlkOk C.N C.sc scope own) (hsl : ∀ j ∈ tt.slots, j ∈ own.map (·.2)) (hsl1 : ∀ j ∈ t1.slots, j ∈ own.map (·.2))
    (hi : SI C tg iter ρ μ E P en xs) (hj : ∀ a : α, SI (C.blk scope) tg1 iter1 (tt.env (en a) (wipeE ρ (own.map (·.2)))) μ noE (Pa a) (en1 a) (ys a))
    (h : ∀ (a : α) (b : β), SE (C.blk scope) elt (t1.env (en1 a b) (wipeE (tt.env (en a) (wipeE ρ (own.map (·.2)))) t1.slots)) μ noE (Pb a b) (.d (g a b)))
    (hf : ∀ a, tt.fits (en a) := by intro _; first | trivial | rfl) (hf1 : ∀ a b, t1.fits (en1 a b) := by intro _ _; first | trivial | rfl) (hs : nSet iter = true := by rfl) (hs1 : nSet iter1 = true := by rfl) :
    SE C (.ListComp elt [⟨tg, iter, [], 0⟩, ⟨tg1, iter1, [], 0⟩] scope pos) ρ μ E (P ∧ (xs.flatMap fun a => (ys a).map (g a)).length ≤ sizeLine ∧ ∀ a ∈ xs, Pa a ∧ ∀ b ∈ ys a, Pb a b) (.d (.lst (xs.flatMap fun a => (ys a).map (g a)))) := .mk fun ⟨q1, q2, q3⟩ Q q =>
  we_lc2 ht ht1 nd ok hsl hsl1 (wi_lc2T (f := fun _ => true) (f1 := fun _ _ => true) (hi q1) (by rw [flat_plain]; exact q2) (fun a ha => ⟨_, Tg.put_env (hf a), pif_nil, fun _ => ⟨hj a (q3 a ha).1, fun b hb => ⟨_, Tg.put_env (hf1 a b), pif_nil, fun _ => h a b ((q3 a ha).2 b hb)⟩⟩⟩) (by rw [flat_plain]; exact q)) (fsi hs) (fsi hs1)
theorem w1_lc2 [Calm C] {en1 : α → β → XV} {ys : α → List β} {g : α → β → D} {Pa : α → Prop} {Pb : α → β → Prop} {y : Str} {py spos : Pos} {i : Nat} (nm : C.Nm i y) (hyl : C.sc.names.lookup y = some .local) (ht : TgOk (C.blk scope) tg tt) (ht1 : TgOk (C.blk scope) tg1 t1) (ok : BlkOk C.N C.sc scope own) (hsl : ∀ j ∈ tt.slots, j ∈ own.map (·.2)) (hsl1 : ∀ j ∈ t1.slots, j ∈ own.map (·.2))
    (hi : SI C tg iter ρ μ E P en xs) (hj : ∀ a : α, SI (C.blk scope) tg1 iter1 (tt.env (en a) (wipeE ρ (own.map (·.2)))) μ noE (Pa a) (en1 a) (ys a))
    (h : ∀ (a : α) (b : β), SE (C.blk scope) elt (t1.env (en1 a b) (wipeE (tt.env (en a) (wipeE ρ (own.map (·.2)))) t1.slots)) μ noE (Pb a b) (.d (g a b)))
    (hk : C.sc.kind = .function) (hl : (py.line == pos.line) = true) (ha : (scope.names.any fun (n, k) => n == y && (k == .local || k == .cell)) = false)
    (q1 : P ∧ (xs.flatMap fun a => (ys a).map (g a)).length ≤ sizeLine ∧ ∀ a ∈ xs, Pa a ∧ ∀ b ∈ ys a, Pb a b) (q : D0.nx (ρ.set i (some (.d (.lst (xs.flatMap fun a => (ys a).map (g a)))))) μ)
    (hf : ∀ a, tt.fits (en a) := by intro _; first | trivial | rfl) (hf1 : ∀ a b, t1.fits (en1 a b) := by intro _ _; first | trivial | rfl) (hs : nSet iter = true := by rfl) (hs1 : nSet iter1 = true := by rfl) :
    WS1 C (.Assign [.Name y py] (.ListComp elt [⟨tg, iter, [], 0⟩, ⟨tg1, iter1, [], 0⟩] scope pos) spos) ρ μ E D0 :=
  w1_setLc2 nm hyl ht ht1 ok hsl hsl1 (wi_lc2T (f := fun _ => true) (f1 := fun _ _ => true) (hi q1.1) (by rw [flat_plain]; exact q1.2.1) (fun a ha => ⟨_, Tg.put_env (hf a), pif_nil, fun _ => ⟨hj a (q1.2.2 a ha).1, fun b hb => ⟨_, Tg.put_env (hf1 a b), pif_nil, fun _ => h a b ((q1.2.2 a ha).2 b hb)⟩⟩⟩) (by rw [flat_plain]; exact q)) hk hl ha (fsi hs) (fsi hs1)
/-! ### dicts -/
class KeyC (x : XV) (kk : outParam Key) : Prop where
  r : x = .d (keyD kk)
instance : KeyC (.d (.txt l)) (.inr (SX.S l)) := ⟨rfl⟩
instance : KeyC (.d (.int i)) (.inl i) := ⟨rfl⟩
instance {kk : Key} : KeyC (.d (keyD kk)) kk := ⟨rfl⟩
/-- what a table has for a key -/
def zK {α : Type} [Inhabited α] (ps : List (Key × α)) (kk : Key) : α := (vz ps kk).getD default
theorem se_dget {ps : List (Key × D)} {kk : Key} (ho : SE C o ρ μ E P1 (.d (D.dc ps))) (hi : SE C b ρ μ E P2 y) [hr : KeyC y kk] (hs : NoSl b := by exact fun _ _ => rfl) : SE C (.Subscript o b pos) ρ μ E (P1 ∧ P2 ∧ (vz ps kk).isSome = true) (.d (zK ps kk)) := .mk fun ⟨q1, q2, q3⟩ => by
  have e := hr.r
  subst e
  refine p_dget (ho q1) (.d ps) (hi q2) ?_ hs
  rw [vz_map]
  unfold zK
  cases h : vz ps kk with
  | none => rw [h] at q3; cases q3
  | some w => rfl
theorem se_dgetC {ps : List (Key × XV)} {kk : Key} (ho : SE C o ρ μ E P1 (.l n)) (hm : μ[n]? = some (some (MO.dc ps))) (hi : SE C b ρ μ E P2 y) [hr : KeyC y kk] (hs : NoSl b := by exact fun _ _ => rfl) : SE C (.Subscript o b pos) ρ μ E (P1 ∧ P2 ∧ (vz ps kk).isSome = true) (zK ps kk) := .mk fun ⟨q1, q2, q3⟩ => by
  have e := hr.r
  subst e
  refine p_dget (ho q1) (.l hm) (hi q2) ?_ hs
  unfold zK
  cases h : vz ps kk with
  | none => rw [h] at q3; cases q3
  | some w => rfl
theorem se_dget2 {ps : List (Key × D)} {kk : Key} (ho : SE C o ρ μ E P1 (.d (D.dc ps))) (h1 : SE C e1 ρ μ E P2 y) (h2 : SE C e2 ρ μ E P3 (.d d)) [hr : KeyC y kk] (m : ∀ X : Cx, M2 X o "get" apos e1 e2 cpos := by exact fun _ => ⟨rfl, rfl, rfl, rfl⟩) : SE C (.Call (.Attribute o "get" apos) [e1, e2] [] cpos) ρ μ E (P1 ∧ P2 ∧ P3) (.d ((vz ps kk).getD d)) := .mk fun ⟨q1, q2, q3⟩ => by
  have e := hr.r
  subst e
  refine (p_dget2 (ho q1) (.d ps) (h1 q2) (h2 q3) m).eq ?_
  rw [vz_map]
  cases vz ps kk <;> rfl
theorem c_inD {ps : List (Key × D)} {kk : Key} [hr : KeyC y kk] : CmpR .In y (.d (D.dc ps)) True (vz ps kk).isSome := fun {C μ} _ => by
  have e := hr.r
  subst e
  have := o_inD (C := C) (μ := μ) (k := kk) (.d ps)
  rw [vz_map, Option.isSome_map] at this
  exact this
theorem c_ninD {ps : List (Key × D)} {kk : Key} [hr : KeyC y kk] : CmpR .NotIn y (.d (D.dc ps)) True (!(vz ps kk).isSome) := fun {C μ} _ => by
  have e := hr.r
  subst e
  have := o_ninD (C := C) (μ := μ) (k := kk) (.d ps)
  rw [vz_map, Option.isSome_map] at this
  exact this
instance {ps : List (Key × D)} {kk : Key} [KeyC y kk] : CmpC .In y (.d (D.dc ps)) True (vz ps kk).isSome := ⟨c_inD⟩
instance {ps : List (Key × D)} {kk : Key} [KeyC y kk] : CmpC .NotIn y (.d (D.dc ps)) True (!(vz ps kk).isSome) := ⟨c_ninD⟩
instance {ps qs : List (Key × D)} : CmpC .Eq (.d (D.dc ps)) (.d (D.dc qs)) ((∀ p ∈ ps, p.2.okEq) ∧ ∀ p ∈ qs, p.2.okEq) (dctEq ps qs) := ⟨fun h => o_eqDct (.d ps) (.d qs) h.1 h.2⟩
instance {ps qs : List (Key × D)} : CmpC .NotEq (.d (D.dc ps)) (.d (D.dc qs)) ((∀ p ∈ ps, p.2.okEq) ∧ ∀ p ∈ qs, p.2.okEq) (!dctEq ps qs) := ⟨fun h => o_neDct (.d ps) (.d qs) h.1 h.2⟩
theorem se_dct0 : SE C (.Dict [] [] pos) ρ μ E True (.d (D.dc [])) := .mk fun _ => p_dct0
theorem se_dct1 {kk : Key} (hk : SE C e1 ρ μ noE P1 y) (hv : SE C e2 ρ μ noE P2 (.d d)) [hr : KeyC y kk] : SE C (.Dict [some e1] [e2] pos) ρ μ E (P1 ∧ P2) (.d (D.dc [(kk, d)])) := .mk fun q => p_dct1 ((hk q.1).eq hr.r) (hv q.2)
theorem wi_dcT {ifs : List Expr} {kf : α → Key} {g : α → D} {f : α → Bool} (hi : PWk C tg iter ρ μ E (xs.map en)) (hz : xs.length ≤ sizeLine) (hn : ((xs.filter f).map kf).Nodup)
    (h : ∀ a ∈ xs, ∃ ρ', tt.put (en a) (wipeE ρ (own.map (·.2))) ρ' ∧ PIf (C.blk scope) ifs ρ' μ (f a) ∧ (f a = true → PV (C.blk scope) kx ρ' μ noE (.d (keyD (kf a))) ∧ PV (C.blk scope) vx ρ' μ noE (.d (g a)))) (q : Q (.d (D.dc ((xs.filter f).map fun a => (kf a, g a)))) μ) : WI C tg iter ρ μ E (DcI C scope tt ifs kx vx (own.map (·.2)) ρ Q) := by
  rw [← fold_pz0 hn] at q
  refine hi _ fun G hG => ⟨by rw [List.length_map]; exact hz, fun i acc μ' => acc = ((xs.take i).filter f).foldl (fun acc x => pz acc (kf x) (g x)) [] ∧ acc.length ≤ i ∧ μ' = μ, ⟨by simp, by simp, rfl⟩, fun _ _ _ _ hp => by rw [hp.2.2]; exact hG, fun i x0 acc μ' hx0 hp => ?_, fun acc μ' hp => ?_⟩
  · obtain ⟨ea, hl, rfl⟩ := hp
    rw [List.getElem?_map] at hx0
    obtain ⟨x, hx, rfl⟩ := Option.map_eq_some_iff.mp hx0
    obtain ⟨ρ', h1, h2, h3⟩ := h x (List.mem_of_getElem? hx)
    refine ⟨ρ', h1, h2 _ ⟨fun hf => ?_, fun hf => ⟨?_, by omega, rfl⟩⟩⟩
    · obtain ⟨k1, k2⟩ := h3 hf
      refine k1 _ (k2 _ ⟨kf x, g x, rfl, rfl, hl, ?_, Nat.le_trans (length_pz _ _ _) (by omega), rfl⟩)
      rw [take_filter hx, if_pos hf, List.foldl_append, ← ea]
      rfl
    · rw [take_filter hx, hf, ea]
      simp
  · obtain ⟨rfl, _, rfl⟩ := hp
    rw [List.length_map, List.take_length]
    exact q
/-- {k: v for ..} -/
theorem se_dc [Calm C] {Pk Pv : α → Prop} {kv : α → XV} {kf : α → Key} {g : α → D} (ht : TgOk (C.blk scope) tg tt) (nd : C.N.Nodup) (ok : BlkOk C.N C.sc scope own) (hsl : ∀ j ∈ tt.slots, j ∈ own.map (·.2)) (hi : SI C tg iter ρ μ E P en xs)
    (h1 : ∀ a : α, SE (C.blk scope) kx (tt.env (en a) (wipeE ρ (own.map (·.2)))) μ noE (Pk a) (kv a)) (h2 : ∀ a : α, SE (C.blk scope) vx (tt.env (en a) (wipeE ρ (own.map (·.2)))) μ noE (Pv a) (.d (g a))) [hr : ∀ a, KeyC (kv a) (kf a)]
    (hf : ∀ a, tt.fits (en a) := by intro _; first | trivial | rfl) (hs : nSet iter = true := by rfl) :
    SE C (.DictComp kx vx [⟨tg, iter, [], 0⟩] scope pos) ρ μ E (P ∧ xs.length ≤ sizeLine ∧ (xs.map kf).Nodup ∧ ∀ a ∈ xs, Pk a ∧ Pv a) (.d (D.dc (xs.map fun a => (kf a, g a)))) := .mk fun ⟨q1, q2, q3, q4⟩ Q q =>
  we_dc ht nd ok hsl (wi_dcT (f := fun _ => true) (kf := kf) (g := g) (hi q1) q2 (by rw [filter_true]; exact q3) (fun a ha => ⟨_, Tg.put_env (hf a), pif_nil, fun _ => ⟨(h1 a (q4 a ha).1).eq (hr a).r, h2 a (q4 a ha).2⟩⟩) (by rw [filter_true]; exact q)) (fsi hs)
theorem w1_dc [Calm C] {Pk Pv : α → Prop} {kv : α → XV} {kf : α → Key} {g : α → D} {y : Str} {py spos : Pos} {i : Nat} (nm : C.Nm i y) (hyl : C.sc.names.lookup y = some .local) (ht : TgOk (C.blk scope) tg tt) (ok : BlkOk C.N C.sc scope own) (hsl : ∀ j ∈ tt.slots, j ∈ own.map (·.2)) (hi : SI C tg iter ρ μ E P en xs)
    (h1 : ∀ a : α, SE (C.blk scope) kx (tt.env (en a) (wipeE ρ (own.map (·.2)))) μ noE (Pk a) (kv a)) (h2 : ∀ a : α, SE (C.blk scope) vx (tt.env (en a) (wipeE ρ (own.map (·.2)))) μ noE (Pv a) (.d (g a))) [hr : ∀ a, KeyC (kv a) (kf a)]
    (hk : C.sc.kind = .function) (hl : (py.line == pos.line) = true) (ha : (scope.names.any fun (n, k) => n == y && (k == .local || k == .cell)) = false)
    (q1 : P ∧ xs.length ≤ sizeLine ∧ (xs.map kf).Nodup ∧ ∀ a ∈ xs, Pk a ∧ Pv a) (q : D0.nx (ρ.set i (some (.d (D.dc (xs.map fun a => (kf a, g a)))))) μ)
    (hf : ∀ a, tt.fits (en a) := by intro _; first | trivial | rfl) (hs : nSet iter = true := by rfl) :
    WS1 C (.Assign [.Name y py] (.DictComp kx vx [⟨tg, iter, [], 0⟩] scope pos) spos) ρ μ E D0 :=
  w1_setDc nm hyl ht ok hsl (wi_dcT (f := fun _ => true) (kf := kf) (g := g) (hi q1.1) q1.2.1 (by rw [filter_true]; exact q1.2.2.1) (fun a ha => ⟨_, Tg.put_env (hf a), pif_nil, fun _ => ⟨(h1 a (q1.2.2.2 a ha).1).eq (hr a).r, h2 a (q1.2.2.2 a ha).2⟩⟩) (by rw [filter_true]; exact q)) hk hl ha (fsi hs)
end
end DL
set_option maxRecDepth 100000
set_option maxHeartbeats 2000000
/-! DE4: code that changes something: draws, calls of any contract, comprehensions that draw. -/
namespace DL
open PySem L2 PySem.Spec PyProof.Rows
section
variable {C : SC} {E : EPost} {ρ : Env} {μ μr : Mem} {a b c e e1 e2 e3 o : Expr} {es rest : List Expr} {kws : List Keyword} {pos p p2 p3 apos cpos kpos k2pos : Pos} {x : Str} {Q : XV → Mem → Prop} {QT : Bool → Mem → Prop} {v y z x1 x2 x3 : XV} {j n m : Nat} {P P1 P2 P3 P4 P5 : Prop} {k k1 k2 k3 : Bool} {D0 : DEnds} {i i1 i2 : Int} {l s t : List Nat} {ds ds1 ds2 : List D} {d d1 d2 : D} {tg iter elt kx vx tg1 iter1 : Expr} {scope : Scope} {own : List (Str × Nat)} {tt t1 : Tg} {α β γ : Type} {en : α → XV} {xs : List α} {body : List Stmt} {S : DS}
theorem go_bin {op : Operator} [hr : BinC op x1 x2 P z] (p : P) (q : Q z μ) : Go2 C (binaryOp op) x1 x2 μ Q := hr.r p Q q
theorem go_cmpE {op : CmpOp} [hr : CmpC op x1 x2 P k] (p : P) (q : Q (.d (.bl k)) μ) : Go2 C (compareOp op) x1 x2 μ Q := hr.r p Q q
/-- a comparison as a test -/
theorem go_cmpT {op : CmpOp} [hr : CmpC op x1 x2 P k] (p : P) (q : QT k μ) : Go2 C (compareOp op) x1 x2 μ (fun z μ3 => ∃ k, z = .d (.bl k) ∧ QT k μ3) := hr.r p _ ⟨k, rfl, q⟩
theorem go_ix [hr : IxC x1 x2 P z] (p : P) (q : Q z μ) : GoI C x1 x2 μ Q := hr.r p Q q
/-- an item of a list that is written out -/
theorem go_ixW {R : D → Prop} (h : ∀ d ∈ ds, R d) (h1 : 0 ≤ i) (h2 : i < (ds.length : Int)) (q : ∀ d, R d → Q (.d d) μ) : GoI C (.d (.lst ds)) (.d (.int i)) μ Q := by
  obtain ⟨d, hd, r⟩ := atI_all h h1 h2
  exact gi_lst hd (q d r)
/-- a def called: any contract -/
theorem we_C [Calm C] {kk : Nat} {ps : List Str} {cc : Con} {zs : List XV} (F : FnD C kk x ps cc) (h : SA C (e :: es) ρ μ E P zs) (q1 : P) (q : Calls cc zs μ Q fun Cl fl μ2 => E Cl fl ρ μ2) (hk : kk ≤ C.room := by exact Nat.le_of_ble_eq_true rfl) (hg : C.Glob x := by rfl) (hdb : (x == ("__debug__" : Str)) = false := by decide)
    (he : nStar e = true := by rfl) (hpl : ∀ env, (backTo pos (starEach es env)).any (·.1) = false := by intro _; rfl) : WE C (.Call (.Name x p) (e :: es) [] pos) ρ μ E Q := we_call F hk hg (h.go q1 q) hdb (star1 he) hpl
theorem we_CW [Calm C] {kk : Nat} {ps : List Str} {cc : Con} (F : FnD C kk x ps cc) (h : WA C (e :: es) ρ μ E fun zs μ1 => Calls cc zs μ1 Q fun Cl fl μ2 => E Cl fl ρ μ2) (hk : kk ≤ C.room := by exact Nat.le_of_ble_eq_true rfl) (hg : C.Glob x := by rfl) (hdb : (x == ("__debug__" : Str)) = false := by decide)
    (he : nStar e = true := by rfl) (hpl : ∀ env, (backTo pos (starEach es env)).any (·.1) = false := by intro _; rfl) : WE C (.Call (.Name x p) (e :: es) [] pos) ρ μ E Q := we_call F hk hg h hdb (star1 he) hpl
theorem calls_draw {n : Int} {EX : Addr → List (Str × D) → Mem → Prop} (hS : S.ok) (hn : 0 < n ∧ n ≤ 1000000000) (q : ∀ (r : Int) (S' : DS), S'.ok → 0 ≤ r → r < n → Q (.d (.int r)) (S'.mem ++ μr)) : Calls cDraw [.l 1, .d (.int n)] (S.mem ++ μr) Q EX :=
  calls_S n hS hn rfl fun d S' hS' ⟨r, e, h1, h2⟩ => by rw [e]; exact q r S' hS' h1 h2
theorem calls_begun {ns : List Int} {EX : Addr → List (Str × D) → Mem → Prop} (hl : ns.length ≤ 63) (q : ∀ S : DS, S.ok → Q (.l 1) (S.mem ++ [])) : Calls cBegun [.d (.scr ns)] [] Q EX :=
  ⟨ns, [], hl, rfl, rfl, fun o ho => by
    obtain ⟨S, hS, rfl⟩ := ho
    exact .inl ⟨.inr rfl, q S hS⟩⟩
/-- [elt for ..], elt may change things -/
theorem wi_lcE {vs : List Nat} (I : Nat → List D → Mem → Prop) (hi : SD C tg iter ρ μ E P en xs) (q1 : P) (hz : xs.length ≤ sizeLine) (h0 : I 0 [] μ)
    (step : ∀ (i : Nat) a acc μ', xs[i]? = some a → I i acc μ' → WE (C.blk scope) elt (tt.env (en a) (wipeE ρ vs)) μ' noE fun y μ3 => ∃ d, y = .d d ∧ I (i + 1) (acc ++ [d]) μ3) (hend : ∀ acc μ', I xs.length acc μ' → Q (.d (.lst acc)) μ') (hf : ∀ a, tt.fits (en a) := by intro _; first | trivial | rfl) :
    WI C tg iter ρ μ E (LcI C scope tt [] elt vs ρ Q) := by
  refine hi q1 _ ⟨by rw [List.length_map]; exact hz, I, h0, fun _ _ _ _ _ => trivial, fun i x acc μ' hx hI => ?_, fun acc μ' hI => hend acc μ' (by rw [List.length_map] at hI; exact hI)⟩
  rw [List.getElem?_map] at hx
  obtain ⟨a, ha, rfl⟩ := Option.map_eq_some_iff.mp hx
  exact ⟨_, Tg.put_env (hf a), ⟨fun _ => step i a acc μ' ha hI, fun h => nomatch h⟩⟩
theorem we_lcE [Calm C] (I : Nat → List D → Mem → Prop) (ht : TgOk (C.blk scope) tg tt) (nd : C.N.Nodup) (ok : BlkOk C.N C.sc scope own) (hsl : ∀ j ∈ tt.slots, j ∈ own.map (·.2)) (hi : SD C tg iter ρ μ E P en xs) (q1 : P) (hz : xs.length ≤ sizeLine) (h0 : I 0 [] μ)
    (step : ∀ (i : Nat) a acc μ', xs[i]? = some a → I i acc μ' → WE (C.blk scope) elt (tt.env (en a) (wipeE ρ (own.map (·.2)))) μ' noE fun y μ3 => ∃ d, y = .d d ∧ I (i + 1) (acc ++ [d]) μ3) (hend : ∀ acc μ', I xs.length acc μ' → Q (.d (.lst acc)) μ') (hf : ∀ a, tt.fits (en a) := by intro _; first | trivial | rfl) (hs : nSet iter = true := by rfl) :
    WE C (.ListComp elt [⟨tg, iter, [], 0⟩] scope pos) ρ μ E Q := we_lc ht nd ok hsl (wi_lcE I hi q1 hz h0 step hend hf) (fsi hs)
theorem w1_lcE [Calm C] (I : Nat → List D → Mem → Prop) {y : Str} {py spos : Pos} {i : Nat} (nm : C.Nm i y) (hyl : C.sc.names.lookup y = some .local) (ht : TgOk (C.blk scope) tg tt) (ok : BlkOk C.N C.sc scope own) (hsl : ∀ j ∈ tt.slots, j ∈ own.map (·.2)) (hk : C.sc.kind = .function) (hl : (py.line == pos.line) = true) (ha : (scope.names.any fun (n, k) => n == y && (k == .local || k == .cell)) = false)
    (hi : SD C tg iter ρ μ E P en xs) (q1 : P) (hz : xs.length ≤ sizeLine) (h0 : I 0 [] μ)
    (step : ∀ (i : Nat) a acc μ', xs[i]? = some a → I i acc μ' → WE (C.blk scope) elt (tt.env (en a) (wipeE ρ (own.map (·.2)))) μ' noE fun y μ3 => ∃ d, y = .d d ∧ I (i + 1) (acc ++ [d]) μ3) (hend : ∀ acc μ', I xs.length acc μ' → D0.nx (ρ.set i (some (.d (.lst acc)))) μ') (hf : ∀ a, tt.fits (en a) := by intro _; first | trivial | rfl) (hs : nSet iter = true := by rfl) :
    WS1 C (.Assign [.Name y py] (.ListComp elt [⟨tg, iter, [], 0⟩] scope pos) spos) ρ μ E D0 := w1_setLc nm hyl ht ok hsl (wi_lcE I hi q1 hz h0 step hend hf) hk hl ha (fsi hs)
/-- both names at once, pure -/
theorem w1_prS [Calm C] {i j : Nat} {a b : Expr} {y : Str} {px py pt pt2 : Pos} {kt k2 : Nat} {u v : XV} (n : C.Nm i x) (n2 : C.Nm j y) (hij : i ≠ j) (h1 : SE C a ρ μ E P1 u) (h2 : SE C b ρ μ E P2 v) (q1 : P1 ∧ P2) (q : D0.nx ((ρ.set i (some u)).set j (some v)) μ) (hx : C.sc.names.lookup x = some .local := by rfl) (hy : C.sc.names.lookup y = some .local := by rfl)
    (hw : ∀ env : PySem.Env, env.scope = C.sc → swappedStores [.Tuple [.Name x px, .Name y py] kt pt] (.Tuple [a, b] k2 pt2) env = pure (some [x, y]) := by intro env h; cases env; simp only at h; subst h; rfl) (hs : ∀ env, swapsWithSole [.Tuple [.Name x px, .Name y py] kt pt] (.Tuple [a, b] k2 pt2) pos.line env = pure false := by intro _; rfl)
    (hs1 : nStar a = true := by rfl) (hs2 : nStar b = true := by rfl) : WS1 C (.Assign [.Tuple [.Name x px, .Name y py] kt pt] (.Tuple [a, b] k2 pt2) pos) ρ μ E D0 := by
  first
  | exact w1_pr n n2 hij (h1.go q1.1 (h2.go q1.2 q)) hx hy hw hs (star1 hs1) (star1 hs2)
  | exact w1_pr n n2 hij (h1.go q1.1 (h2.go q1.2 q)) hx hy hw hs
  | exact w1_pr n n2 hij (h1.go q1.1 (h2.go q1.2 q)) hx hy hw
end
end DL
set_option maxRecDepth 100000
set_option maxHeartbeats 2000000
/-! DE5: a walk over a drawn range, slices behind draws, sorted(set()), key=len. -/
namespace DL
open PySem L2 PySem.Spec PyProof.Rows
section
variable {C : SC} {E : EPost} {ρ : Env} {μ μr : Mem} {a b c e e1 e2 e3 o : Expr} {es rest : List Expr} {kws : List Keyword} {pos p p2 p3 apos cpos kpos k2pos : Pos} {x : Str} {Q : XV → Mem → Prop} {QT : Bool → Mem → Prop} {v y z x1 x2 x3 : XV} {j n m : Nat} {P P1 P2 P3 P4 P5 : Prop} {k k1 k2 k3 : Bool} {D0 : DEnds} {i i1 i2 : Int} {l s t : List Nat} {ds ds1 ds2 : List D} {d d1 d2 : D} {tg iter elt kx vx tg1 iter1 : Expr} {scope : Scope} {own : List (Str × Nat)} {tt t1 : Tg} {α β γ : Type} {en : α → XV} {xs : List α} {body : List Stmt} {S : DS}
theorem lcI_rng {vs : List Nat} {lo : Int} {n j : Nat} (I : Nat → List D → Mem → Prop) (hz : n ≤ sizeLine) (h0 : I 0 [] μ)
    (step : ∀ (i : Nat) acc μ', i < n → I i acc μ' → WE (C.blk scope) elt ((wipeE ρ vs).set j (some (.d (.int (lo + (i : Nat)))))) μ' noE fun y μ3 => ∃ d, y = .d d ∧ I (i + 1) (acc ++ [d]) μ3) (hend : ∀ acc μ', I n acc μ' → Q (.d (.lst acc)) μ') :
    LcI C scope (.nm j) [] elt vs ρ Q (rng lo n) (fun _ => True) μ := by
  refine ⟨by rw [rng_len]; exact hz, I, h0, fun _ _ _ _ _ => trivial, fun i x acc μ' hx hI => ?_, fun acc μ' hI => hend acc μ' (by rw [rng_len] at hI; exact hI)⟩
  obtain ⟨hi, rfl⟩ := rng_get hx
  exact ⟨_, rfl, ⟨fun _ => step i acc μ' hi hI, fun h => nomatch h⟩⟩
theorem w1_setE {i : Nat} {y : Str} {py : Pos} (nm : C.Nm i y) (h : SE C e ρ μ E P v) (v' : XV) (q1 : P) (hv : v = v') (q : D0.nx (ρ.set i (some v')) μ) (hs : ∀ env, swapsWith e (some (.Name y py)) pos.line env = pure false := by intro _; rfl) : WS1 C (.Assign [.Name y py] e pos) ρ μ E D0 := w1_setS nm (h.eq hv) q1 q hs
theorem go_sl {lo hi : Option Int} [hr : SlC x1 lo hi P z] (p : P) (q : Q z μ) : GoS C x1 lo hi μ Q := hr.r p Q q
theorem se_sortSetL [Calm C] {ls : List (List Nat)} (B : Blts C.mg) (h : SE C e ρ μ E P (.d (.lst (ls.map D.txt)))) (g1 : C.Glob "sorted" := by rfl) (g2 : C.Glob "set" := by rfl) (he : nStar e = true := by rfl) (he2 : nStar (Expr.Call (.Name "set" p2) [e] [] p3) = true := by rfl) :
    SE C (.Call (.Name "sorted" p) [.Call (.Name "set" p2) [e] [] p3] [] pos) ρ μ E (P ∧ ls.length + 1 < scanBound) (.d (.lst ((riseT ls).map D.txt))) := .mk fun q => p_sortSetL B g1 g2 (h q.1) q.2 (star1 he) (star1 he2)
theorem go_neC {n : Nat} {ds : List D} {y : D} (hm : μ[n]? = some (some (.lst (ds.map XV.d)))) (hx : (D.lst ds).okEq) (hy : y.okEq) {k : Bool} (hk : (!PyData.eqv (D.lst ds).py y.py) = k) (q : QT k μ) : Go2 C (compareOp .NotEq) (.l n) (.d y) μ (fun z μ3 => ∃ k, z = .d (.bl k) ∧ QT k μ3) := go_ne_cell hm hx hy ⟨_, rfl, by rw [hk]; exact q⟩
end
end DL
set_option maxRecDepth 100000
set_option maxHeartbeats 2000000
/-! DL35: try .. except: what is caught is data. -/
namespace DL
open PySem L2 PySem.Spec PyProof.Rows
/-- a caught exception as data -/
def excD (Cl : Addr) (fl : List (Str × D)) : D := .exc Cl (fl.map (·.1)) (fl.map (·.2))
/-- where something raised is being handled -/
def SC.hot (C : SC) : SC := { C with cm := false, top := false }
abbrev hotX (X : Cx) (a : Addr) (pins : List (Addr × Obj)) : Cx := { X with A := X.A.mark (some (.ref a)), calm := false, pn := X.pn ++ pins, xe := fun _ _ => False }
section
variable {X : Cx} {pins : List (Addr × Obj)} {σ : L2.St} {H : Hp} {s : Shared} {a : Addr}
theorem excO_ne {C : Addr} {d : Option Addr} : (∀ x, ExcO a C d ≠ .own x) ∧ (∀ xs, ExcO a C d ≠ .tup xs) := ⟨fun _ z => (nomatch z), fun _ z => (nomatch z)⟩
theorem adopt {oe : Obj} {vs : Array Value} {Cl : Addr} {d : Option Addr} (I : Inv X pins σ H s) (ha : s.heap.get? a = some oe) (hz : Zc (.ref Cl) d oe) (hd : oe.data = .fields vs) (na : H a = none)
    (old : X.s_0.heap.get? a = none) (nL : a ≠ X.env.locals) (np : ∀ p ∈ X.pn ++ pins, p.1 ≠ a) : Inv X pins σ (upd H a (ExcO a Cl d)) s := by
  have other : ∀ {b u}, H b = some u → b ≠ a := fun {b u} e z => by rw [z, na] at e; cases e
  have stay : ∀ {b u}, H b = some u → upd H a (ExcO a Cl d) b = some u := fun {b u} e => by rw [upd_ne (other e)]; exact e
  have was : ∀ {b o}, X.s_0.heap.get? b = some o → b ≠ a := fun {b o} e z => by rw [z, old] at e; cases e
  refine ⟨I.ok, I.os, I.bare, ⟨I.base.keep, I.base.slot, fun b o e n hx => ?_, I.base.there, fun b xs e => stay (I.base.tups b xs e), fun b o u e => stay (I.base.frzs b o u e), fun b ps e => ?_⟩, I.loc, I.cell, ?_, fun x c e => ?_, fun p hp => ?_, fun b u e => ?_, I.len⟩
  · rw [upd_ne (was e)]; exact I.base.free b o e n hx
  · obtain ⟨more, q⟩ := I.base.tbls b ps e
    exact ⟨more, stay q⟩
  · rw [upd_ne (Ne.symm nL)]; exact I.free
  · have hca : c ≠ a := fun z => by
      obtain ⟨v, o, ho, hv⟩ := I.cell x c e
      rw [z, ha] at ho
      cases ho
      rw [hd] at hv
      cases hv
    rw [upd_ne hca]; exact I.freeC x c e
  · obtain ⟨e1, e2, e3⟩ := I.pin p hp
    exact ⟨e1, by rw [upd_ne (np p hp)]; exact e2, e3⟩
  · by_cases hb : b = a
    · subst hb
      rw [upd_same] at e
      cases e
      exact ⟨⟨oe, vs, ha, hz.1, hz.2, hd⟩, ⟨oe, ha⟩, fun h1 h2 ⟨o, ws, z1, z2, z3, z4⟩ k => ⟨o, ws, k o z1, z2, z3, z4⟩⟩
    · rw [upd_ne hb] at e
      exact (I.hok b u e).stay (fun _ _ _ q => q) (fun c q => stay q) fun c xs q => stay q
theorem heat (I : Inv X pins σ H s) : Inv (hotX X a pins) [] σ H s :=
  ⟨⟨I.ok.mod, I.ok.kind, I.ok.glob, I.ok.blt, I.ok.above, I.ok.inj, I.ok.has, I.ok.cab, (fun z => nomatch z), I.ok.frames, I.ok.stk, I.ok.exf, I.ok.bs, I.ok.bsz, I.ok.noex, I.ok.exfs, I.ok.funs, I.ok.frf⟩,
    I.os, I.bare, I.base, I.loc, I.cell, I.free, I.freeC, fun p hp => I.pin p (by rw [List.append_nil] at hp; exact hp), I.hok, I.len⟩
theorem cool (I : Inv (hotX X a pins) [] σ H s) (ok : X.Ok) : Inv X pins σ H s :=
  ⟨ok, I.os, I.bare, I.base, I.loc, I.cell, I.free, I.freeC, fun p hp => I.pin p (by rw [List.append_nil]; exact hp), I.hok, I.len⟩
end
section
variable {C : SC} {X : Cx} {E : EPost} {ρ : Env} {μ : Mem} {D0 : DEnds}
theorem hot_has (h : C.Has X) {a : Addr} {pins : List (Addr × Obj)} : C.hot.Has (hotX X a pins) :=
  ⟨h.P, h.wd, h.K, h.mg, h.base, h.N, h.sc, h.own, (fun z => (nomatch (show false = true from z))), h.un, (fun z => (nomatch (show false = true from z))), PassesOwn.never, fun g => h.gd g, (fun z => (nomatch (show false = true from z)))⟩
theorem ROk.drop {K : PySem.W.Frag} {H : Hp} {w : IA} {σ : L2.St} (R : ROk K μ H w ρ σ) (i : Nat) : ROk K μ H w (ρ.set i none) (σ.set i none) := ⟨by rw [List.length_set, List.length_set]; exact R.len, fun j x e => by
  by_cases hj : i = j
  · subst hj
    by_cases hl : i < ρ.length
    · rw [List.getElem?_set_self hl] at e; cases e
    · rw [List.getElem?_eq_none (by simpa using hl)] at e; cases e
  · rw [List.getElem?_set_ne hj] at e ⊢
    exact R.rep j x e⟩
theorem exc_rep {K : PySem.W.Frag} {H : Hp} {w : IA} {a Cl : Addr} {d : Option Addr} {fl : List (Str × DL.D)} (M : MOk K μ H w) (na : H a = none) (x : XRep K μ H w d fl) : RepX K μ (upd H a (ExcO a Cl d)) w (.d (excD Cl fl)) (.ref a) := by
  refine ⟨a, rfl, fun l => M.no_live na l, ?_⟩
  cases d with
  | none =>
    have e : fl = [] := x
    subst e
    exact .inl ⟨rfl, rfl, upd_same⟩
  | some dd =>
    obtain ⟨nl, gs, e, f, r⟩ := x
    have ne : dd ≠ a := fun z => by rw [z, na] at e; cases e
    exact .inr ⟨dd, gs, upd_same, nl, by rw [upd_ne ne]; exact e, f, Reps.grow r na⟩
theorem w1_tryAs {i : Nat} {n x : Str} {CS : Addr} {body suite : List Stmt} {b0 : Stmt} {np pos pos' : Pos} (ht : C.top = true) (nd : C.N.Nodup) (hi : C.N[i]? = some n) (hn : C.sc.names.lookup n = some .local) (hg : C.Glob x) (hm : C.mg x = some (.ref CS))
    (h : WS C body ρ μ (fun Cl fl ρ' μ' => ∃ b, PySem.W.exmOne C.K (.ref Cl) (.ref CS) = some b ∧ (b = true → WS C.hot (b0 :: suite) (ρ'.set i (some (.d (excD Cl fl)))) μ' noE { nx := fun ρ2 μ2 => D0.nx (ρ2.set i none) μ2, rt := D0.rt, bk := fun ρ2 μ2 => D0.bk (ρ2.set i none) μ2, ct := fun ρ2 μ2 => D0.ct (ρ2.set i none) μ2 }) ∧ (b = false → E Cl fl ρ' μ')) D0)
    (hdb : (x == ("__debug__" : Str)) = false := by decide) : WS1 C (.Try body [.ExceptHandler (some (.Name x np)) (some n) (b0 :: suite) pos'] [] [] pos) ρ μ E D0 := fun X σ H w A pins s I => by
  have ok := I.ok
  obtain ⟨hst, hfm, hex⟩ := A.has.fr ht
  have frames : X.A.frames = some (X.env :: X.outer) := by rw [ok.frames, hst]
  have locn : X.env.kindOf n = some .local := by show X.env.scope.names.lookup n = _; rw [A.has.sc]; exact hn
  have hiX : X.N[i]? = some n := by rw [A.has.N]; exact hi
  have ndX : X.N.Nodup := by rw [A.has.N]; exact nd
  refine wpAny_Try_except ?_
  have T : Takes (X.tr (X.pn ++ pins) fun e t1 => wpAny (model X.prog X.w) X.A (noteFrame e X.env) (fun _ t2 => wpAny (model X.prog X.w) X.A (setFlight e none) (fun _ t3 => wpAny (model X.prog X.w) X.A (handleBy e X.env [.ExceptHandler (some (.Name x np)) (some n) (b0 :: suite) pos']) (SP X pins (liftD C.K D0 μ H w)) X.xe t3) X.xe t2) X.xe t1)
      (liftE C.K (fun Cl fl ρ' μ' => ∃ b, PySem.W.exmOne C.K (.ref Cl) (.ref CS) = some b ∧ (b = true → WS C.hot (b0 :: suite) (ρ'.set i (some (.d (excD Cl fl)))) μ' noE { nx := fun ρ2 μ2 => D0.nx (ρ2.set i none) μ2, rt := D0.rt, bk := fun ρ2 μ2 => D0.bk (ρ2.set i none) μ2, ct := fun ρ2 μ2 => D0.ct (ρ2.set i none) μ2 }) ∧ (b = false → E Cl fl ρ' μ')) μ H w) := by
    intro u t0 air
    obtain ⟨a, B, sI, p2, σ1, H1, cls, d, rfl, J0, nb, up, sky, na, os, ag, Cl, fl, ρ1, μ1, w1, rfl, xr, M1, R1, S1, b, hb, yes, no⟩ := air
    have J : Inv X pins σ1 H1 sI := J0.ofTry ok
    have sky1 : Sky B (X.env :: X.outer) a (Zc (.ref Cl) d) X.env.locals t0.heap := by rw [← hst]; exact sky
    show wpAny (model X.prog X.w) X.A (noteFrame (.ref a) X.env) _ _ _
    refine Sky.land Zc.steady frames hfm sky1 fun g1 fly1 up1 => ?_
    have J1 : Inv X pins σ1 H1 { t0 with heap := g1 } := J.landed nb fly1.1 (up.trans up1) os ag
    obtain ⟨ob1, ws1, at1, z1, f1⟩ := fly1.there
    have nfr : a ∉ frs (X.env :: X.outer) := fun hm => by
      obtain ⟨_, o2, e2, k2⟩ := fly1.2.2.1.mem hm
      rw [at1] at e2
      cases e2
      exact k2 _ f1
    have nL : a ≠ X.env.locals := fun z => nfr (List.mem_filterMap.mpr ⟨X.env, List.mem_cons_self, by rw [hfm, z]⟩)
    have nF : a ∉ X.fs := fun hm => by
      obtain ⟨v, hv, q⟩ := List.mem_filterMap.mp hm
      exact nfr (List.mem_filterMap.mpr ⟨v, List.mem_cons_of_mem _ hv, q⟩)
    have fresh : sI.heap.get? a = none := by
      cases q : sI.heap.get? a with
      | none => rfl
      | some o =>
        have := nb a o q (by rw [hst]; exact nfr)
        rw [fly1.2.1] at this
        cases this
    have old : X.s_0.heap.get? a = none := by
      cases q : X.s_0.heap.get? a with
      | none => rfl
      | some o =>
        obtain ⟨o2, e2⟩ := J.base.there a o q (by rw [hex]; exact List.not_mem_nil)
        rw [fresh] at e2
        cases e2
    have np : ∀ p ∈ X.pn ++ pins, p.1 ≠ a := fun p hp z => by
      obtain ⟨e1, _⟩ := J.pin p hp
      rw [z, fresh] at e1
      cases e1
    have T1 := J1.suite at1 f1 na nL nF
    refine wpAny_handleBy_cons (codeAny_handlers_test ?_) (by intro q; cases q)
    have lk : PySem.W.Looks (model X.prog X.w) g1 (typeOf (.ref a)) (.ref Cl) := fun A2 Q2 E2 s2 k2 q2 => wpAny_typeOf_ref (k2 _ _ at1) (by rw [z1.1]; exact q2)
    have ex := PySem.W.exm_one (M := model X.prog X.w) J1.kIn lk (by rw [A.has.K]; exact hb)
    refine ld_glob (X := X.suite a ((a, ob1) :: (X.pn ++ pins))) T1 (by show X.env.scope.names.lookup x = _; rw [A.has.sc]; exact hg) (by show X.mg x = _; rw [A.has.mg]; exact hm) (ex.here ?_) hdb
    cases b with
    | true =>
      refine codeAny_handlers_suite_as (HandSPX.lands_againZ fly1 fun g2 fly2 up2 => ?_)
      have J2 : Inv X pins σ1 H1 { t0 with heap := g2 } := J.landed nb fly2.1 ((up.trans up1).trans up2) os ag
      obtain ⟨ob2, ws2, at2, z2, f2⟩ := fly2.there
      have J3 := heat (a := a) (adopt J2 at2 z2 f2 na old nL np)
      have G : Stp μ1 H1 w1 μ1 (upd H1 a (ExcO a Cl d)) w1 := Stp.grow (upd_grow na)
      refine store_ok (X := hotX X a pins) (v := .ref a) J3 ndX hiX (.inl locn) rfl (fun t4 J4 => ?_) (.inr locn)
      have A5 : At C.hot (hotX X a pins) noE (ρ1.set i (some (.d (excD Cl fl)))) μ1 (σ1.set i (some (.ref a))) (upd H1 a (ExcO a Cl d)) w1 := ⟨hot_has A.has, M1.grow (upd_grow na), (R1.stp G).put (exc_rep M1 na xr) i, takes_no⟩
      refine wpAny_mono (yes rfl _ _ _ _ A5 [] t4 J4) (fun f t5 hsp => ?_) (fun _ _ z => False.elim z)
      have fin : ∀ {σ6 : L2.St} {H6 : Hp} {Q6 : Shared → Prop}, Inv (hotX X a pins) [] σ6 H6 t5 → (∀ t6, Inv X pins (σ6.set i none) H6 t6 → Q6 t6) → wpAny (model X.prog X.w) X.A (do bindName X.env n .none; unbindBehindTheSuite X.env n pos') (fun _ t6 => Q6 t6) X.xe t5 := fun {σ6 H6 Q6} J6 hq => gone_ok (cool J6 ok) ndX hiX locn hq
      have S2 : ∀ {μ6 : Mem} {H6 : Hp} {w6 : IA}, Stp μ1 (upd H1 a (ExcO a Cl d)) w1 μ6 H6 w6 → Stp μ H w μ6 H6 w6 := fun z => (S1.trans G).trans z
      cases f with
      | next =>
        obtain ⟨σ6, H6, J6, ρ6, μ6, w6, R6, M6, S6, q6⟩ := hsp
        exact fin J6 fun t6 J7 => ⟨_, _, J7, _, μ6, w6, R6.drop i, M6, S2 S6, q6⟩
      | brk =>
        obtain ⟨σ6, H6, J6, ρ6, μ6, w6, R6, M6, S6, q6⟩ := hsp
        exact fin J6 fun t6 J7 => ⟨_, _, J7, _, μ6, w6, R6.drop i, M6, S2 S6, q6⟩
      | cont =>
        obtain ⟨σ6, H6, J6, ρ6, μ6, w6, R6, M6, S6, q6⟩ := hsp
        exact fin J6 fun t6 J7 => ⟨_, _, J7, _, μ6, w6, R6.drop i, M6, S2 S6, q6⟩
      | ret u =>
        obtain ⟨v6, σ6, H6, J6, r6, x6, μ6, w6, R6, M6, S6, q6⟩ := hsp
        exact fin J6 fun t6 J7 => ⟨v6, _, _, J7, r6, x6, μ6, w6, R6, M6, S2 S6, q6⟩
    | false =>
      show wpAny _ X.A (handleBy (.ref a) X.env []) _ _ _
      refine wpAny_handleBy_nil ?_
      obtain ⟨k1, k2, k3, ob3, ws3, tr, oT, ts3, at3, z3, f3, h3, rest3⟩ := id fly1
      unfold PySem.passOn
      refine wpAny_bind (wpAny_field at3 f3 h3 ?_)
      rw [if_neg (show ¬ ((Value.ref tr == Value.none) = true) from by simp)]
      have fly : wpAny (model X.prog X.w) X.A (setFlight (.ref a) X.env.frame) (fun _ t4 => wpAny (model X.prog X.w) X.A (throw (.ref a) : Sem Flow) (SP X pins (liftD C.K D0 μ H w)) X.xe t4) X.xe { t0 with heap := g1 } := by
        rw [hfm]
        refine HandSPX.setFlight_upZ fly1 fun g4 held4 up4 => wpAny_throw (A.T _ _ ?_)
        exact ⟨a, B, sI, pins, σ1, H1, .ref Cl, d, rfl, J, nb, (up.trans up1).trans up4, .inr (.inr (by rw [hst]; exact held4)), na, os, ag, Cl, fl, ρ1, μ1, w1, rfl, xr, M1, R1, S1, no rfl⟩
      first
        | exact wpAny_bind (wpAny_pure (wpAny_bind fly))
        | exact wpAny_bind fly
  refine wpAny_mono (h (X.tr (X.pn ++ pins) _) σ H w ⟨⟨A.has.P, A.has.wd, A.has.K, A.has.mg, A.has.base, A.has.N, A.has.sc, A.has.own, A.has.room, A.has.un, A.has.calm, PassesOwn.looking, A.has.gd, A.has.fr⟩, A.M, A.R, T⟩ [] s (I.toTry _)) (fun f t1 hsp => ?_) (fun e t1 he => he)
  cases f with
  | next =>
    obtain ⟨σ2, H2, J2, q2⟩ := hsp
    exact wpAny_execs_nil ⟨σ2, H2, J2.ofTry ok, q2⟩
  | brk =>
    obtain ⟨σ2, H2, J2, q2⟩ := hsp
    exact ⟨σ2, H2, J2.ofTry ok, q2⟩
  | cont =>
    obtain ⟨σ2, H2, J2, q2⟩ := hsp
    exact ⟨σ2, H2, J2.ofTry ok, q2⟩
  | ret u =>
    obtain ⟨v2, σ2, H2, J2, r2, q2⟩ := hsp
    exact ⟨v2, σ2, H2, J2.ofTry ok, r2, q2⟩
end
end DL
set_option maxRecDepth 100000
set_option maxHeartbeats 2000000
/-! DL36: exceptions: raised, asked for their class, their fields. -/
namespace DL
open PySem L2 PySem.Spec PyProof.Rows
/-- a class as data, as a value -/
inductive CV : D → Value → Prop where
  | ty (n : String) : CV (.ty n) (.type n)
  | own (a : Addr) : CV (.ref a) (.ref a)
theorem CV.eq {K : PySem.W.Frag} {L : Addr → Prop} {H : Hp} {c : D} {cv u : Value} {v : V} (k : CV c cv) (r : Rep K L H c v) (ru : RelV v u) : u = cv := by
  cases k with
  | ty n =>
    rw [show v = V.ty n from r] at ru
    exact ru
  | own a =>
    rw [show v = V.ref a from r] at ru
    exact ru
theorem CV.clsV {K : PySem.W.Frag} {L : Addr → Prop} {H : Hp} : ∀ {cs : List D} {us : List Value} {xs : List V}, Paired CV cs us → Reps K L H cs xs → Paired ClsV xs us
  | _, _, xs, .nil, r => by
    rw [show xs = [] from r]
    exact .nil
  | _, _, xs, .cons k t, r => by
    obtain ⟨x, q, rfl, r1, r2⟩ := r
    refine .cons ?_ (CV.clsV t r2)
    cases k with
    | ty n =>
      rw [show x = V.ty n from r1]
      exact .ty n
    | own a =>
      rw [show x = V.ref a from r1]
      exact .own a
section
variable {C : SC} {X : Cx} {E : EPost} {ρ : Env} {μ : Mem} {D0 : DEnds} {Q : XV → Mem → Prop} {e : Expr} {es : List Expr} {p pos : Pos} {x f : Str} {Cl : Addr} {fs : List Str} {ds : List D} {b : Bool} {cv : Value} {c : D}
theorem exc_inst {L : Addr → Prop} {K : PySem.W.Frag} {H : Hp} {pins : List (Addr × Obj)} {σ : L2.St} {s : Shared} {a : Addr} (I : Inv X pins σ H s) (r : Rep K L H (.exc Cl fs ds) (.ref a)) : ∃ oe od, PySem.W.InstAt s.heap a oe Cl od := by
  obtain ⟨a', ea, _, h⟩ := r
  cases ea
  rcases h with ⟨_, _, q⟩ | ⟨dd, gs, q, _, q2, _⟩
  · obtain ⟨⟨oe, vs, h1, h2, h3, h4⟩, _⟩ := I.hok a _ q
    exact ⟨oe, none, h1, h2, by unfold PySem.W.notCls; rw [h4] <;> rfl, by rw [h3]; trivial⟩
  · obtain ⟨⟨oe, vs, h1, h2, h3, h4⟩, _⟩ := I.hok a _ q
    have xd : ObjOk X.prog X.w H s.heap dd (.xd gs) := I.hok dd _ q2
    obtain ⟨mA, hns, _⟩ := xd
    obtain ⟨od, ho, _⟩ := lookIn_ns hns
    exact ⟨oe, some od, h1, h2, by unfold PySem.W.notCls; rw [h4] <;> rfl, by rw [h3]; exact ho⟩
theorem exc_kit {K : PySem.W.Frag} {a : Addr} {oe : Obj} {od : Option Obj} (T : ExcC K Cl) : PySem.W.KitX K (.ref a) (.ref Cl) (fun h => PySem.W.InstAt h a oe Cl od) := by
  obtain ⟨cd, hc, _⟩ := PySem.W.any_some T.hd
  exact PySem.W.kitx_exc (by rw [hc]; rfl) T.hg T.hk T.hs T.ha T.hn T.ht T.hm
/-- isinstance(e, c) of a caught exception -/
theorem gc_isiE (T : ExcC C.K Cl) (k : CV c cv) (hk : PySem.W.kitOne C.K (.ref Cl) cv = some b) (q : Q (.d (.bl b)) μ) : GoC C (.builtin "isinstance") [.d (.exc Cl fs ds), .d c] μ Q := fun X hX H w vs M rs => by
  obtain ⟨v, u, rfl, r, r2⟩ := rs.two
  intro pins s σ us I rv
  obtain ⟨u1, u2, rfl, e1, e2⟩ := vals2 rv
  obtain ⟨a, rfl⟩ : ∃ a, v = .ref a := by obtain ⟨a, e, _⟩ := r; exact ⟨a, e⟩
  cases (show u1 = Value.ref a from e1)
  have ec := k.eq r2 e2
  subst ec
  obtain ⟨oe, od, J⟩ := exc_inst I r
  exact PySem.W.kia_one (exc_kit (by rw [hX.K]; exact T)) I.kIn J (by rw [hX.K]; exact hk) (fun z => nomatch z) fun tk => ⟨.bl b, H, I.kept (t' := tk) fun _ _ z => z, rfl, lift.now M (x := .d (.bl b)) rfl q⟩
/-- isinstance(e, (c, ..)) -/
theorem gc_isiET (T : ExcC C.K Cl) {cs : List D} {us : List Value} (k : Paired CV cs us) (hk : PySem.W.kitAny C.K (.ref Cl) us = some b) (q : Q (.d (.bl b)) μ) : GoC C (.builtin "isinstance") [.d (.exc Cl fs ds), .d (.tup cs)] μ Q := fun X hX H w vs M rs => by
  obtain ⟨v, u, rfl, r, r2⟩ := rs.two
  intro pins s σ us' I rv
  obtain ⟨u1, u2, rfl, e1, e2⟩ := vals2 rv
  obtain ⟨a, rfl⟩ : ∃ a, v = .ref a := by obtain ⟨a, e, _⟩ := r; exact ⟨a, e⟩
  obtain ⟨tp, xs, rfl, _, eT, rT⟩ := r2
  cases (show u1 = Value.ref a from e1)
  cases (show u2 = Value.ref tp from e2)
  obtain ⟨oe, od, J⟩ := exc_inst I r
  obtain ⟨_, its, rits, o, h1, h2, n, h3⟩ := (show ObjOk X.prog X.w H s.heap tp (.tup xs) from I.hok tp _ eT)
  have ei := ClsV.all (CV.clsV k rT) rits
  subst ei
  obtain ⟨oc, od', oda, osl⟩ := o
  dsimp only at h2 h3
  subst h2 h3
  exact PySem.W.kia_tup (exc_kit (by rw [hX.K]; exact T)) I.kIn J h1 (by rw [hX.K]; exact hk) (fun z => nomatch z) fun tk => ⟨.bl b, H, I.kept (t' := tk) fun _ _ z => z, rfl, lift.now M (x := .d (.bl b)) rfl q⟩
/-- isinstance(x, (c, ..)) of other things -/
theorem gc_isiT {y : XV} {t : Value} (ty : TyD2 C.K y t) {cs : List D} {us : List Value} (k : Paired CV cs us) (hk : PySem.W.kitAny C.K t us = some b) (q : Q (.d (.bl b)) μ) : GoC C (.builtin "isinstance") [y, .d (.tup cs)] μ Q := fun X hX H w vs M rs => by
  obtain ⟨v, u, rfl, r, r2⟩ := rs.two
  obtain ⟨tp, xs, rfl, _, eT, rT⟩ := r2
  exact cS_of call_isiT ⟨v, tp, xs, t, us, b, rfl, eT, CV.clsV k rT, by rw [hX.K]; exact ty.tx r, by rw [hX.K]; exact hk, lift.now M (x := .d (.bl b)) rfl q⟩
/-- e.f, e an exception -/
theorem we_fldE (h : WE C e ρ μ E fun y μ1 => ∃ Cl fs ds d, y = .d (.exc Cl fs ds) ∧ XfC C.K Cl ∧ PySem.W.findIn C.K (.ref Cl) f = some none ∧ fldD fs ds f = some d ∧ Q (.d d) μ1) (hb : ∀ env, attributeBase e f env (eval e env) = eval e env := by intro _; rfl) : WE C (.Attribute e f pos) ρ μ E Q := fun X σ H w A pins s I => by
  refine attr_of (hb _) (thn (h.go A (P := fun v H1 => ∃ Cl fs ds d μ1 w1, RepX C.K μ1 H1 w1 (.d (.exc Cl fs ds)) v ∧ At C X E ρ μ1 σ H1 w1 ∧ Stp μ H w μ1 H1 w1 ∧ XfC C.K Cl ∧ PySem.W.findIn C.K (.ref Cl) f = some none ∧ fldD fs ds f = some d ∧ Q (.d d) μ1)
    (fun v H1 y μ1 w1 r1 A1 S1 ⟨Cl, fs, ds, d, ey, T, hn, hf, q⟩ => ⟨Cl, fs, ds, d, μ1, w1, by rw [← ey]; exact r1, A1, S1, T, hn, hf, q⟩) pins s I) fun u s1 ⟨v, H1, I1, rv, Cl, fs, ds, d, μ1, w1, r1, A1, S1, T, hn, hf, q⟩ => ?_)
  obtain ⟨a, rfl, nl, hh⟩ := r1
  obtain rfl : u = Value.ref a := rv
  rcases hh with ⟨rfl, rfl, _⟩ | ⟨dd, gs, q1, _, q2, g, r⟩
  · cases hf
  · obtain ⟨⟨oe, vs, h1, h2, h3, h4⟩, _⟩ := I1.hok a _ q1
    have xd : ObjOk X.prog X.w H1 s1.heap dd (.xd gs) := I1.hok dd _ q2
    obtain ⟨mA, hns, hr⟩ := xd
    obtain ⟨od, ho, hl⟩ := lookIn_ns hns
    obtain ⟨y, hu, ry⟩ := fld_rep g r hf
    obtain ⟨z, hz, rz⟩ := RelO.some_of (v := y) (o := mA f) (by rw [← hu]; exact hr f)
    have J : PySem.W.InstAt s1.heap a oe Cl (some od) := ⟨h1, h2, by unfold PySem.W.notCls; rw [h4] <;> rfl, by rw [h3]; exact ho⟩
    have kk : X.K = C.K := A.has.K
    exact HandSPX.exc_get I1.kIn J (by rw [kk]; exact T.ga) (by rw [kk]; exact T.gg) (by rw [kk]; exact T.exC) (PySem.W.findObj_own (by rw [kk]; exact T.hdC) (by rw [kk]; exact hn) rfl (by rw [hl, hz])) (handed_of rz)
      ⟨y, H1, I1.tok _, rz, .d d, μ1, w1, ry, A1.M, S1, q⟩
/-- raise, what makes the exception told -/
theorem w1_raiseM [Calm C] (h : ∀ X σ H w, At C X E ρ μ σ H w → ∃ t, PMk X e t ∧ t σ H fun cls d H' => liftE C.K E μ H w cls d σ H') : WS1 C (.Raise (some e) none pos) ρ μ E D0 := fun X σ H w A pins s I => by
  obtain ⟨t, hp, ht⟩ := h X σ H w A
  exact (ps_raise (A.has.calm Calm.h) A.T hp).run pins s σ H _ I ht
/-- an exception class that a text makes -/
structure ExcM (C : SC) (x : Str) (Cl : Addr) : Prop where
  m : C.mg x = some (.ref Cl)
  q : PySem.W.excIn C.K Cl [.type "ValueError", .type "Exception", .type "BaseException", .type "object"] "ValueError.__new__" = true
  k : PySem.W.keepIn C.K (.ref Cl) = true
  s : PySem.W.subIn C.K (.ref Cl) (.type "BaseException") = some true
  t : PySem.W.typeIn C.K (.ref Cl) = some (.type "type")
/-- raise X('..') -/
theorem w1_raise [Calm C] {m : Str} {j : Nat} {p2 p3 : Pos} (M : ExcM C x Cl) (hg : C.Glob x) (q : E Cl [] ρ μ) (hdb : (x == ("__debug__" : Str)) = false := by decide) : WS1 C (.Raise (some (.Call (.Name x p) [.Constant (.str m) j p2] [] p3)) none pos) ρ μ E D0 :=
  w1_raiseM fun X σ H w A => ⟨_, pmk_own PySem.F.excBase_ValueError (by rw [A.has.K]; exact M.q) (by rw [A.has.mg]; exact M.m) (by rw [A.has.K]; exact M.k) (raises_own (by rw [A.has.K]; exact M.s) (by rw [A.has.K]; exact M.t)) (by show X.env.scope.names.lookup x = _; rw [A.has.sc]; exact hg) hdb,
    Cl, [], ρ, μ, w, rfl, rfl, A.M, A.R, Stp.refl, q⟩
/-- an exception class with one field, kept by its __init__ -/
structure ExcI (C : SC) (x : Str) (Cl : Addr) (f : Str) : Prop where
  m : C.mg x = some (.ref Cl)
  T : OexC C.K Cl
  no : PySem.W.findIn C.K (.ref Cl) f = some none
  ini : ∃ (fI : Addr) (fd : FuncData) (qual : Str) (st : Stmt) (a y : Str) (p1 p2 p3 p4 : Pos), PySem.W.findIn C.K (.ref Cl) "__init__" = some (some (.ref fI)) ∧ PySem.W.typeIn C.K (.ref fI) = some (.type "function") ∧ Fun C.K "__init__" qual st fI fd ∧ Binds C.K fd [a, y] [] ∧
    FnScope [a, y] [a, y] (defScope st) ∧ defBody st = [.Assign [.Attribute (.Name a p1) f p2] (.Name y p3) p4] ∧ (a == ("__debug__" : Str)) = false ∧ (a == ("__classdict__" : Str)) = false ∧ (y == ("__debug__" : Str)) = false ∧ (y == ("__classdict__" : Str)) = false
def spI (K : PySem.W.Frag) (f : Str) : Sp := fun vs H Q _ => ∃ a Cl y, vs = [.ref a, y] ∧ OexC K Cl ∧ PySem.W.findIn K (.ref Cl) f = some none ∧ H a = some (exo a Cl none) ∧ ∀ dx, H dx = none → dx ≠ a → Q .non (upd (upd H dx (exd dx [(f, y)])) a (exo a Cl (some dx)))
theorem spI_ok {P : Program} {wd : World} {K : PySem.W.Frag} {mg : Str → Option Value} {base : Heap} {fI : Addr} {fd : FuncData} {qual : Str} {st : Stmt} {a y : Str} {p1 p2 p3 p4 : Pos} (F : Fun K "__init__" qual st fI fd) (S : FnScope [a, y] [a, y] (defScope st)) (hb : defBody st = [.Assign [.Attribute (.Name a p1) f p2] (.Name y p3) p4])
    (a1 : (a == ("__debug__" : Str)) = false) (a2 : (a == ("__classdict__" : Str)) = false) (y1 : (y == ("__debug__" : Str)) = false) (y2 : (y == ("__classdict__" : Str)) = false) : FnG P wd K mg base false 1 fI fd [a, y] (spI K f) := by
  refine DL.Fun.okG F (k := 0) S (fun vs H Q E ⟨_, _, _, e, _⟩ => by rw [e]; rfl) fun cdv A outer s H vs Q E _ _ h => ?_
  obtain ⟨ad, Cl, v, rfl, T, no, e, hq⟩ := h
  have vis : ∀ z, z ∈ [a, y] → L2.Vis (defScope st) z := fun z hz => (S.par z hz).imp id .inl
  rw [hb]
  refine ⟨_, pss_one (ps_ost (pe_var (i := 0) rfl (vis a (by simp)) a1 a2) (pe_var (i := 1) rfl (vis y (by simp)) y1 y2)), ?_⟩
  exact ⟨v, rfl, .ref ad, rfl, ad, Cl, rfl, T, no, .inl ⟨e, fun dx n ne => hq dx n ne⟩⟩
/-- raise X(e) -/
theorem w1_raiseI [Calm C] (M : ExcI C x Cl f) (hr : 2 ≤ C.room) (hg : C.Glob x) {ea : Expr} {p2 : Pos} (h : WA C [ea] ρ μ E fun xs μ1 => ∃ d, xs = [.d d] ∧ E Cl [(f, d)] ρ μ1) (hdb : (x == ("__debug__" : Str)) = false := by decide) (he : ∀ env, starEach [ea] env = (false, eval ea env) :: starEach [] env := by intro _; rfl) :
    WS1 C (.Raise (some (.Call (.Name x p) [ea] [] p2)) none pos) ρ μ E D0 :=
  w1_raiseM fun X σ H w A => by
    obtain ⟨fI, fd, qual, st, a, y, p1, p2', p3, p4, iC, tI, F, hb, S, hbd, a1, a2, y1, y2⟩ := M.ini
    have kk : X.K = C.K := A.has.K
    refine ⟨_, pmk_oex (k := 1) (sp := spI C.K f) (ds := []) (dvs := []) (ta := tA X [ea]) (by rw [kk]; exact M.T) (by rw [kk]; exact iC) (by rw [kk]; exact tI) (by rw [kk]; exact (spI_ok F S hbd a1 a2 y1 y2).fnok) ((A.has.room Calm.h).mono hr) (by rw [kk]; exact hb) .nil
      (fun pins σ' H' s' u s'' I c => A.T u s'' (XE.of_call I (fun _ _ _ q => q.elim) c)) (by show X.env.scope.names.lookup x = _; rw [A.has.sc]; exact hg) (by rw [A.has.mg]; exact M.m) pa_tA hdb (he _) rfl, ?_⟩
    refine h.go A fun vs H1 xs μ1 w1 rs A1 S1 ⟨d, ex, q⟩ => ?_
    subst ex
    cases rs with
    | @cons _ v _ _ r t =>
      cases t
      refine ⟨by simp, fun ad na => ⟨ad, Cl, v, rfl, M.T, M.no, upd_same, fun dx n ne => ⟨rfl, dx, [(f, v)], upd_same, by rw [upd_ne ne, upd_same], ?_, ?_⟩⟩⟩
      · rw [upd_ne ne] at n; exact n
      · have n1 : H1 dx = none := by rw [upd_ne ne] at n; exact n
        have eH : upd (L2.del (upd (upd (upd H1 ad (exo ad Cl none)) dx (exd dx [(f, v)])) ad (exo ad Cl (some dx))) ad) dx (.xd [(f, v)]) = upd H1 dx (.xd [(f, v)]) := by
          funext b
          by_cases hb : b = dx
          · rw [hb, upd_same, upd_same]
          · rw [upd_ne hb, upd_ne hb]
            by_cases ha : b = ad
            · rw [ha, del_same, na]
            · rw [del_ne ha, upd_ne ha, upd_ne hb, upd_ne ha]
        rw [eH]
        exact ⟨Cl, [(f, d)], ρ, μ1, w1, rfl, ⟨fun l => A1.M.no_live n1 l, [(f, v)], upd_same, rfl, v, [], rfl, Rep.grow2 n1 r, rfl⟩, A1.M.grow (upd_grow n1), A1.R.stp (Stp.grow (upd_grow n1)), S1.trans (Stp.grow (upd_grow n1)), q⟩
end
end DL
set_option maxRecDepth 100000
set_option maxHeartbeats 2000000
/-! DL37: enumerate over a list or a text. -/
namespace DL
open PySem L2 PySem.Spec PyProof.Rows
/-- the items in new pairs with their places -/
def Ite2 (K : PySem.W.Frag) (z : ZK) : It :=
  ⟨fun i H => ∃ xs, z.its K H xs ∧ i < xs.length,
    fun i H v H' => ∃ T x, v = .ref T ∧ H T = none ∧ H' = upd H T (.tup [.int (i : Nat), x]) ∧ ∀ xs, z.its K H xs → xs[i]? = some x,
    fun i H => ∃ xs, z.its K H xs ∧ i = xs.length⟩
theorem turn_enum2 {P : Program} {w : World} {K : PySem.W.Frag} {elts : List Expr} {kk : Nat} {tpos : Pos} {z : ZK} {en it : Addr} (apart : en ≠ it) (en1 : en ∉ z.own) (it1 : it ∉ z.own) :
    Turn P w K (.Tuple elts kk tpos) (Ite2 K z) [en, it] en (fun i h => (∃ old, IsEnum h en it (i : Int) old) ∧ z.at it i h) where
  mem := by simp
  obj := fun i h st b hb => by
    obtain ⟨⟨old, he⟩, s1⟩ := st
    have two : b = en ∨ b = it := by simpa using hb
    rcases two with q | q
    · rw [q]; exact ⟨_, he, fun v q => nomatch q⟩
    · rw [q]; exact ZK.at_obj s1
  keep := fun i h h' st k => by
    obtain ⟨⟨old, he⟩, s1⟩ := st
    exact ⟨⟨old, k en (by simp) _ he⟩, ZK.at_keep s1 fun o q => k it (by simp) o q⟩
  item := by
    intro X hP hw hK hc i pins s σ H E I hf st hg
    subst hP hw hK
    obtain ⟨⟨old, he⟩, st1⟩ := st
    obtain ⟨xs, qx, lx⟩ := hg
    obtain ⟨m1, P1, S1, d1⟩ := ZK.draw I hc it1 qx
    have below : en < s.heap.objs.size := Heap.lt_size he
    have below2 : it < s.heap.objs.size := by obtain ⟨_, e1, _⟩ := ZK.at_obj st1; exact Heap.lt_size e1
    have hef : en ∉ z.fp it := fun q => by
      rcases List.mem_cons.mp q with e | e
      · exact apart e
      · exact en1 e
    refine wpAny_pyNext_enum_itemC d1.dr he (d1.now _ st1) (by rw [d1.len]; exact lx) apart hef fun u h' tk hu ho st' hT hsz hk => ?_
    obtain ⟨x, hx, ru⟩ := d1.rel _ _ hu
    refine ⟨_, rfl, wpAny_letOwnedTupleGo_enum (s := { s with heap := h', toks := tk + 1 }) ho fun h'' he' sb => ?_⟩
    have pair : h''.get? s.heap.objs.size = some { cls := .type "tuple", data := .seq #[.int i tk, u] } := (sb.2 _ (Nat.ne_of_gt below)).trans hT
    have fresh : ObjOk X.prog X.w (upd H s.heap.objs.size (.tup [.int (i : Nat), x])) h'' s.heap.objs.size (.tup [.int (i : Nat), x]) :=
      ⟨by show 2 ≤ sizeLine; decide, [.int i tk, u], .cons ⟨_, rfl⟩ (.cons ru .nil), ⟨_, pair, rfl, _, rfl⟩⟩
    have Inew : Inv X pins σ (upd H s.heap.objs.size (.tup [.int (i : Nat), x])) { s with heap := h'', toks := tk + 1 } :=
      I.turnedNew (t' := tk + 1) (ch := [en, it]) (fun c o hb q => (sb.2 c (fun q' => hb (by simp [q']))).trans (hk c o (fun q' => hb (by simp [q'])) (fun q' => hb (by simp [q'])) q)) hf (Nat.le_refl _) fresh
    refine ⟨.ref s.heap.objs.size, _, Inew, rfl, ⟨_, x, rfl, I.hok.fresh (Nat.le_refl _), rfl, fun l hl => by rw [ZK.its_inj I hl qx]; exact hx⟩, ⟨⟨u, ?_⟩, ZK.at_keep (d1.back _ _ st') fun o q => (sb.2 _ (Ne.symm apart)).trans q⟩, fun c hcm => ?_⟩
    · have next : ((i + 1 : Nat) : Int) = (i : Int) + 1 := by omega
      rw [next]
      exact he'
    · have hlt : c < s.heap.objs.size := by
        have two : c = en ∨ c = it := by simpa using hcm
        rcases two with q | q
        · rw [q]; exact below
        · rw [q]; exact below2
      rw [upd_ne (Nat.ne_of_lt hlt)]
      exact (hf c hcm).1
  done := by
    intro X hP hw hK hc i pins s σ H E I hf st hg
    subst hP hw hK
    obtain ⟨⟨old, he⟩, st1⟩ := st
    obtain ⟨xs, qx, hend⟩ := hg
    obtain ⟨m1, P1, S1, d1⟩ := ZK.draw I hc it1 qx
    subst hend
    have st2 : S1 m1 s.heap := by rw [d1.len]; exact d1.now _ st1
    exact wpAny_pyNext_enum_endD d1.dr he st2 fun h' eb => ⟨rfl, I.turnedL (t' := s.toks) (ch := [en, it]) (fun c o hb q => eb c o (fun q' => hb (by simp [q'])) q) hf⟩
  self := fun A i s Q E st h => let ⟨⟨_, he⟩, _⟩ := st; wpAny_pyIter_enum he h
def iEnum2 (K : PySem.W.Frag) (ta : TA) : TI := fun σ H R => ta σ H fun vs H1 => ∃ z xs, vs = [ZK.v z] ∧ (∀ a, z ≠ .tup a) ∧ z.its K H1 xs ∧ R (Ite2 K z) H1
theorem pi_enum2 {X : Cx} {e : Expr} {ta : TA} {p pos tpos : Pos} {elts : List Expr} {kk : Nat} (hg : Gl X "enumerate") (hm : X.mg "enumerate" = none) (ha : L2.PA X [e] ta) (hs : starEach [e] X.env = [(false, eval e X.env)] := by rfl) :
    PI X (.Tuple elts kk tpos) (.Call (.Name "enumerate" p) [e] [] pos) (iEnum2 X.K ta) := by
  refine ⟨fun pins s σ H R I h => ?_⟩
  refine PyProof.Rows.Call_ (ld_blt I hg hm boot_enumerate (PyProof.Rows.callWith_type1 (thn (ha.run pos pins s σ H _ I h) fun us s1 ⟨vs, H1, I1, r1, q1⟩ => ?_) hs rfl))
  obtain ⟨z, xs, ex, nt, qx, q⟩ := q1
  subst ex
  cases r1 with
  | @cons _ u0 _ _ r rr =>
    cases rr
    have go : ∀ {h' : Heap}, (∀ b ∈ z.own, b < s1.heap.objs.size) → IsEnum h' (s1.heap.objs.size + 1) s1.heap.objs.size 0 .none → z.at s1.heap.objs.size 0 h' → (∀ b o, s1.heap.get? b = some o → h'.get? b = some o) →
        wpAny (model X.prog X.w) X.A (pyIter (.ref (s1.heap.objs.size + 1))) (PIE X pins σ (.Tuple elts kk tpos) R) X.xe { s1 with heap := h' } := fun {h'} low he hat hk => by
      refine wpAny_pyIter_enum he ?_
      have Inew : Inv X pins σ H1 { s1 with heap := h' } := I1.kept (t' := s1.toks) hk
      refine ⟨s1.heap.objs.size + 1, [s1.heap.objs.size + 1, s1.heap.objs.size], _, _, H1, rfl, Inew, turn_enum2 (Nat.succ_ne_self _) (fun q => Nat.lt_irrefl _ (Nat.lt_trans (Nat.lt_succ_self _) (low _ q))) (fun q => Nat.lt_irrefl _ (low _ q)), ⟨⟨.none, he⟩, hat⟩, fun c hcm => ?_, q⟩
      have two : c = s1.heap.objs.size + 1 ∨ c = s1.heap.objs.size := by simpa using hcm
      have hle : s1.heap.objs.size ≤ c := by rcases two with q | q <;> rw [q] <;> first | exact Nat.le_add_right _ _ | exact Nat.le_refl _
      exact I1.fpOk hle (I1.hok.fresh hle)
    cases z with
    | lst a =>
      cases (show u0 = .ref a from r)
      obtain ⟨its, rv, p', _⟩ := I1.list qx
      exact call_enumerate_list p'.isList fun h' he hit hsz hk => go (fun b hb => by rw [List.mem_singleton.mp hb]; exact p'.lt) he hit hk
    | tup a => exact absurd rfl (nt a)
    | str x =>
      obtain ⟨t, rfl⟩ := (show ∃ t, u0 = Value.str x t from r)
      exact call_enumerate_str fun h' he hit hsz hk => go (fun b hb => nomatch hb) he ⟨t, hit⟩ hk
def enumD (ds : List D) : List XV := (List.range ds.length).map fun i => XV.d (.tup [.int (i : Nat), ds.getD i .non])
/-- what enumerate goes through here: a list, a text -/
def D.noTup : D → Prop
  | .lst _ => True
  | .txt _ => True
  | _ => False
theorem Zi.has2 {K : PySem.W.Frag} {μ : Mem} {H : Hp} {w : IA} {x : D} {ds : List D} (z : Zi x ds) (n : x.noTup) {v : V} (r : RepX K μ H w (.d x) v) : ∃ k, v = ZK.v k ∧ (∀ a, k ≠ .tup a) ∧ ZHas K μ H w k ds := by
  cases x with
  | lst xs =>
    cases (show ds = xs from z)
    obtain ⟨a, vs, rfl, nl, e, rr⟩ := r
    exact ⟨.lst a, rfl, fun _ q => (nomatch q), fun μ' H' w' kp => ⟨vs, SqL.of (kp.keep a _ e nl).1, Reps.mono kp.keep _ _ rr⟩⟩
  | txt l =>
    cases (show ds = l.map (fun c => D.txt [c]) from z)
    refine ⟨.str (SX.S l), r, fun _ q => (nomatch q), fun μ' H' w' kp => ⟨l.map fun c => V.str ⟨#[c]⟩, ?_, reps_txt⟩⟩
    show _ = (SX.S l).cps.toList.map _
    simp [SX.S]
  | _ => exact n.elim
theorem dit_enum {K : PySem.W.Frag} {z : ZK} {ds : List D} {μ : Mem} {H : Hp} {w : IA} (h : ZHas K μ H w z ds) : DIt K (Ite2 K z) (enumD ds) (fun _ => True) μ H w := by
  intro μ' H' w' kp M _
  obtain ⟨xs, q1, r1⟩ := h μ' H' w' kp
  have l1 := r1.len
  refine ⟨fun i x hx => ?_, ⟨xs, q1, ?_⟩⟩
  · unfold enumD at hx
    rw [List.getElem?_map] at hx
    obtain ⟨j, hj, rfl⟩ := Option.map_eq_some_iff.mp hx
    have hi : i < ds.length := by
      have := (List.getElem?_eq_some_iff.mp hj).1
      rwa [List.length_range] at this
    rw [List.getElem?_range hi] at hj
    cases hj
    have hd : ds[i]? = some (ds.getD i .non) := by
      rw [List.getElem?_eq_getElem hi, List.getD_eq_getElem?_getD, List.getElem?_eq_getElem hi]
      rfl
    obtain ⟨v, hv, rv⟩ := Reps.get r1 hd
    refine ⟨⟨xs, q1, (List.getElem?_eq_some_iff.mp hv).1⟩, fun v' H'' y => ?_⟩
    obtain ⟨T, x', rfl, hT, rfl, f1⟩ := y
    have e1 := f1 xs q1
    rw [hv] at e1
    cases e1
    have up : ∀ a o, H' a = some o → upd H' T (.tup [.int (i : Nat), v]) a = some o := fun a o e => by
      rw [upd_ne (fun z => by rw [z, hT] at e; cases e)]
      exact e
    have nT : ¬ Live μ' w' T := fun z => M.no_live hT z
    exact ⟨up, ⟨T, [.int (i : Nat), v], rfl, nT, upd_same, ⟨_, [v], rfl, rfl, ⟨v, [], rfl, Rep.mono (fun a o e n => ⟨up a o e, n⟩) _ _ rv, rfl⟩⟩⟩⟩
  · unfold enumD; rw [List.length_map, List.length_range]; omega
section
variable {C : SC} {E : EPost} {ρ : Env} {μ : Mem} {a e : Expr} {p pos tpos : Pos}
/-- enumerate(a), the pair unpacked -/
theorem wi_enum {elts : List Expr} {kk : Nat} {R : List XV → (Mem → Prop) → Mem → Prop} (hr : C.mg "enumerate" = none) (hg : C.Glob "enumerate") (h : WE C a ρ μ E fun x μ1 => ∃ u ds, x = .d u ∧ u.noTup ∧ Zi u ds ∧ R (enumD ds) (fun _ => True) μ1)
    (hs : ∀ env, starEach [a] env = [(false, eval a env)] := by intro _; rfl) : WI C (.Tuple elts kk tpos) (.Call (.Name "enumerate" p) [a] [] pos) ρ μ E R := fun X σ H w A =>
  ⟨_, pi_enum2 (by show X.env.scope.names.lookup _ = _; rw [A.has.sc]; exact hg) (by rw [A.has.mg]; exact hr) (pa_cons pe_tE pa_nil (hs _)) (hs _), fun P k =>
    h.go A fun v H1 x μ1 w1 r1 A1 S1 ⟨u, ds, e1, nu, zu, q⟩ => by
      subst e1
      obtain ⟨z, ez, nt, zh⟩ := zu.has2 nu r1
      obtain ⟨xs, q1, _⟩ := zh _ _ _ ⟨fun a o e n => ⟨e, n⟩, fun n a e => e⟩
      subst ez
      exact ⟨z, xs, rfl, nt, by rw [A.has.K]; exact q1, k _ _ _ _ _ _ A1 S1 (by rw [A.has.K]; exact dit_enum zh) trivial q⟩⟩
end
end DL
set_option maxRecDepth 100000
set_option maxHeartbeats 2000000
/-! DE6: the most of a list, a sign's place, enumerate; exceptions told at once. -/
namespace DL
open PySem L2 PySem.Spec PyProof.Rows
/-! ### max of a list -/
def maxOf : List Int → Int
  | [] => 0
  | [x] => x
  | x :: y :: r => max x (maxOf (y :: r))
theorem maxOf_ge : ∀ {l : List Int} {y : Int}, y ∈ l → y ≤ maxOf l
  | [x], y, h => by rw [List.mem_singleton.mp h]; exact Int.le_refl _
  | x :: z :: r, y, h => by
    show y ≤ max x (maxOf (z :: r))
    rcases List.mem_cons.mp h with e | e
    · omega
    · have := maxOf_ge e; omega
theorem maxOf_mem : ∀ {l : List Int}, l ≠ [] → maxOf l ∈ l
  | [], h => (h rfl).elim
  | [x], _ => List.mem_singleton.mpr rfl
  | x :: z :: r, _ => by
    show max x (maxOf (z :: r)) ∈ _
    have := maxOf_mem (l := z :: r) (by simp)
    rcases Int.le_total x (maxOf (z :: r)) with q | q
    · rw [Int.max_eq_right q]; exact List.mem_cons_of_mem _ this
    · rw [Int.max_eq_left q]; exact List.mem_cons_self
theorem maxOf_eq {l : List Int} {m : Int} (h : m ∈ l) (ge : ∀ y ∈ l, y ≤ m) : m = maxOf l := Int.le_antisymm (maxOf_ge h) (ge _ (maxOf_mem (List.ne_nil_of_mem h)))
theorem maxOf_all {l : List Int} {m : Int} (hne : l ≠ []) (h : ∀ y ∈ l, y = m) : maxOf l = m := h _ (maxOf_mem hne)
theorem cr_maxLI {X : Cx} (hc : X.calm = true) : CallR X (.builtin "max") (fun xs H Q => ∃ p ns, xs = [.ref p] ∧ SqL X.K H p (ns.map V.int) ∧ 0 < ns.length ∧ Q (.int (maxOf ns)) H) := by
  intro pins s σ H xs us Q I rx h
  obtain ⟨p, ns, rfl, hs, hne, q⟩ := h
  obtain ⟨its, rv, hl, _⟩ := I.list hs
  rw [Vals.ref1 rx]
  have len : its.toArray.size = ns.length := by
    rw [List.size_toArray, ← rv.length, List.length_map]
  have val : ∀ (i : Nat) (v : Value), its.toArray[i]? = some v → ∃ t, v = .int (ns.getD i 0) t := fun i v hv => by
    have hv2 : its[i]? = some v := by simpa using hv
    have hi : i < ns.length := by
      have := (List.getElem?_eq_some_iff.mp hv2).1
      rw [← rv.length, List.length_map] at this
      exact this
    obtain ⟨u, hu, ru⟩ := rv.get (x := V.int (ns.getD i 0)) (by rw [List.getElem?_map, List.getElem?_eq_getElem hi, List.getD_eq_getElem?_getD, List.getElem?_eq_getElem hi]; rfl)
    rw [hv2] at hu
    cases hu
    exact ru
  refine call_max_walk (iter_anyList hl.isList fun s₂ e st hfp hlI => ?_)
  subst e
  refine ⟨_, _, _, _, _, _, _, rfl, Walks.list (A := X.A.in1) (show X.A.in1.handled = none from I.ok.hd hc) _ p hlI its.toArray, st, hfp, by omega, CmpOf.ints_gt (fun i => ns.getD i 0) val, fun v h' tk hP hk => ?_⟩
  obtain ⟨t, rfl⟩ := val _ _ hP
  obtain ⟨b1, b2⟩ := argBest_gt (fun i => ns.getD i 0) (its.toArray.size - 1)
  have b1' : argBest (fun i j => decide (ns.getD i 0 > ns.getD j 0)) (its.toArray.size - 1) ≤ its.toArray.size - 1 := b1
  have b2' : ∀ j, j ≤ its.toArray.size - 1 → ns.getD j 0 ≤ ns.getD (argBest (fun i j => decide (ns.getD i 0 > ns.getD j 0)) (its.toArray.size - 1)) 0 := b2
  refine ⟨.int (maxOf ns), H, I.kept (t' := tk) (PySem.old_kept hk), ⟨t, ?_⟩, q⟩
  refine congrArg (fun m => Value.int m t) (maxOf_eq (PySem.getD_mem (by omega)) fun y hy => ?_)
  obtain ⟨j, hj, e⟩ := List.mem_iff_getElem.mp hy
  have z := b2' j (by omega)
  have e3 : ns.getD j 0 = y := by rw [List.getD_eq_getElem?_getD, List.getElem?_eq_getElem hj, ← e] <;> rfl
  rw [e3] at z
  exact z
section
variable {C : SC} {E : EPost} {ρ : Env} {μ : Mem} {a b e o : Expr} {p p2 p3 pos apos cpos : Pos} {x : Str} {Q : XV → Mem → Prop} {P P1 P2 : Prop} {l : List Nat} {c : Nat}
theorem gc_maxL [Calm C] {ns : List Int} (hne : 0 < ns.length) (q : Q (.d (.int (maxOf ns))) μ) : GoC C (.builtin "max") [.d (.lst (ns.map D.int))] μ Q := fun X hX H w vs M rs => by
  obtain ⟨v, rfl, a, xs, rfl, nl, e, r⟩ := rs.one
  rw [Reps.ints r] at e
  exact cS_of (cr_maxLI (hX.calm Calm.h)) ⟨a, ns, rfl, SqL.of e, hne, lift.now M (x := .d (.int _)) rfl q⟩
instance {α : Type} {xs : List α} {f : α → Int} : B1C "max" (.d (.lst (xs.map fun a => .int (f a)))) (0 < xs.length) (.d (.int (maxOf (xs.map f)))) := ⟨fun {C} _ {E ρ μ e p pos} B hg q h he =>
  p_blt hg B.max bt_max (.inl ⟨_, rfl⟩) (pa_cs (PV.eq h (by rw [List.map_map]; rfl)) pa_nl he) (fun _ k => gc_maxL (ns := xs.map f) (by rw [List.length_map]; exact q) k) (by decide) (by decide) he⟩
/-! ### where a sign stands first -/
def firstAt (l : List Nat) (c : Nat) : Nat := (Builtin.Str.occurrences (SX.S l) (SX.S [c]) 0 (SX.S l).length 1).headD 0
theorem gm_index (hc : c ∈ l) (q : Q (.d (.int (firstAt l c : Nat))) μ) : GoM C "str.index" (.d (.txt l)) [.d (.txt [c])] μ Q := fun X hX H w vx vs M rx rs => by
  obtain ⟨v, rfl, r⟩ := rs.one
  have hne : (!(Builtin.Str.occurrences (SX.S l) (SX.S [c]) 0 (SX.S l).length 1).isEmpty) = true := by rw [SX.in_one]; exact decide_eq_true hc
  obtain ⟨i, rest, e⟩ : ∃ i rest, Builtin.Str.occurrences (SX.S l) (SX.S [c]) 0 (SX.S l).length 1 = i :: rest := by
    cases h : Builtin.Str.occurrences (SX.S l) (SX.S [c]) 0 (SX.S l).length 1 with
    | nil => rw [h] at hne; cases hne
    | cons i r => exact ⟨i, r, rfl⟩
  have ei : firstAt l c = i := by unfold firstAt; rw [e]; rfl
  rw [ei] at q
  exact mS_of mt_sindex ⟨SX.S l, SX.S [c], i, rest, rx, by rw [show v = V.str (SX.S [c]) from r], e, lift.now M (x := .d (.int (i : Nat))) rfl q⟩
theorem se_index (ho : SE C o ρ μ E P1 (.d (.txt l))) (h : SE C e ρ μ E P2 (.d (.txt [c]))) (hbase : ∀ env, attributeBase o "index" env (eval o env) = eval o env := by intro _; rfl)
    (hfew : ∀ env, ((backTo cpos (starEach [e] env)).all (fun x => !x.1) && (backToKw cpos (keywordEach [] env)).all (fun x => x.1.isSome) && decide ([e].length + ([] : List Keyword).length + (if ([] : List Keyword).isEmpty then 0 else 1) < 30)) = true := by intro _; rfl)
    (hline : (apos.endLine == cpos.line) = true := by rfl) (he : nStar e = true := by rfl) : SE C (.Call (.Attribute o "index" apos) [e] [] cpos) ρ μ E (P1 ∧ P2 ∧ c ∈ l) (.d (.int (firstAt l c : Nat))) := .mk fun ⟨q1, q2, q3⟩ Q k =>
  we_bm PySem.F.plainAttrs_str PySem.F.slot_str_index PySem.F.type_str_index (ho q1 _ ⟨rfl, (pa_cs (h q2) pa_nl (star1 he)) _ (gm_index q3 k)⟩) hbase hfew hline (star1 he)
/-! ### enumerate -/
class EnC {α : outParam Type} (x : XV) (g : outParam (α → D)) (xs : outParam (List α)) : Prop where
  r : ∃ u, x = .d u ∧ u.noTup ∧ Zi u (xs.map g)
instance {α : Type} {xs : List α} {g : α → D} : EnC (.d (.lst (xs.map g))) g xs := ⟨⟨_, rfl, trivial, rfl⟩⟩
instance : EnC (.d (.txt l)) (fun c : Nat => D.txt [c]) l := ⟨⟨_, rfl, trivial, rfl⟩⟩
theorem enumD_map {α : Type} (xs : List α) (g : α → D) : enumD (xs.map g) = xs.zipIdx.map fun q => XV.d (.tup [.int (q.2 : Nat), g q.1]) := by
  unfold enumD
  apply List.ext_getElem?
  intro i
  rw [List.getElem?_map, List.getElem?_map, List.getElem?_zipIdx, List.length_map]
  by_cases hi : i < xs.length
  · have e : (xs.map g).getD i D.non = g xs[i] := by
      rw [List.getD_eq_getElem?_getD, List.getElem?_map, List.getElem?_eq_getElem hi]
      rfl
    rw [List.getElem?_range hi, List.getElem?_eq_getElem hi]
    show some (XV.d (D.tup [D.int (i : Nat), (xs.map g).getD i D.non])) = some (XV.d (D.tup [D.int ((0 + i : Nat) : Int), g xs[i]]))
    rw [e, Nat.zero_add]
  · rw [List.getElem?_eq_none (by rw [List.length_range]; omega), List.getElem?_eq_none (by omega)]
    rfl
theorem si_enum {α : Type} {elts : List Expr} {kk : Nat} {tpos : Pos} {g : α → D} {xs : List α} {x1 : XV} (B : Blts C.mg) (h : SE C a ρ μ E P x1) [r1 : EnC x1 g xs] (hg : C.Glob "enumerate" := by rfl) (hs : nStar a = true := by rfl) :
    SD C (.Tuple elts kk tpos) (.Call (.Name "enumerate" p) [a] [] pos) ρ μ E P (fun q : α × Nat => .d (.tup [.int (q.2 : Nat), g q.1])) xs.zipIdx := .mk fun q R k => by
  obtain ⟨u, rfl, nu, z1⟩ := r1.r
  refine wi_enum B.enumerate hg (h q _ ⟨u, _, rfl, nu, z1, ?_⟩) (starL1 hs)
  rw [enumD_map]
  exact k
/-! ### exceptions -/
section
variable {Cl : Addr} {fs : List Str} {ds : List D} {k : Bool}
theorem se_isE {A : Addr} (B : Blts C.mg) (h : SE C e ρ μ E P (.d (.exc Cl fs ds))) (hm : C.mg x = some (.ref A)) (T : ExcC C.K Cl) (hk : PySem.W.kitOne C.K (.ref Cl) (.ref A) = some k) (hg : C.Glob "isinstance" := by rfl) (hg2 : C.Glob x := by rfl) (hd : (x == ("__debug__" : Str)) = false := by decide) (he : nStar e = true := by rfl) :
    SE C (.Call (.Name "isinstance" p) [e, .Name x p2] [] pos) ρ μ E P (.d (.bl k)) := .mk fun q =>
  p_blt hg B.isinstance bt_isinstance (.inl ⟨_, rfl⟩) (pa_cs (h q) (pa_cs (p_globR hg2 hm hd) pa_nl (by intro _; rfl)) (star1 he)) (fun _ k => gc_isiE T (.own A) hk k) (by decide) (by decide) (star1 he) (by intro _; rfl)
theorem se_isEB {T' : String} (B : Blts C.mg) (h : SE C e ρ μ E P (.d (.exc Cl fs ds))) (hm : C.mg x = none) (hv : bootBuiltins x = some (.type T')) (T : ExcC C.K Cl) (hk : PySem.W.kitOne C.K (.ref Cl) (.type T') = some k) (hg : C.Glob "isinstance" := by rfl) (hg2 : C.Glob x := by rfl) (hn : x ≠ "__name__" := by decide) (hd : (x == ("__debug__" : Str)) = false := by decide) (he : nStar e = true := by rfl) :
    SE C (.Call (.Name "isinstance" p) [e, .Name x p2] [] pos) ρ μ E P (.d (.bl k)) := .mk fun q =>
  p_blt hg B.isinstance bt_isinstance (.inl ⟨_, rfl⟩) (pa_cs (h q) (pa_cs (p_bty hg2 hm hv hn hd) pa_nl (by intro _; rfl)) (star1 he)) (fun _ k => gc_isiE T (.ty T') hk k) (by decide) (by decide) (star1 he) (by intro _; rfl)
theorem se_fldE {f : Str} {d : D} (h : SE C e ρ μ E P (.d (.exc Cl fs ds))) (T : XfC C.K Cl) (hn : PySem.W.findIn C.K (.ref Cl) f = some none) (hf : fldD fs ds f = some d := by rfl) (hb : ∀ env, attributeBase e f env (eval e env) = eval e env := by intro _; rfl) : SE C (.Attribute e f pos) ρ μ E P (.d d) := .mk fun q Q k =>
  we_fldE (h q _ ⟨Cl, fs, ds, d, rfl, T, hn, hf, k⟩) hb
end
end
end DL
set_option maxRecDepth 100000
set_option maxHeartbeats 2000000
/-! DL38: a cell that is changed no more, as data. -/
namespace DL
open PySem L2 PySem.Spec PyProof.Rows
section
variable {C : SC} {X : Cx} {E : EPost} {ρ ρ' : Env} {μ : Mem} {D0 : DEnds} {sts : List Stmt} {n : Nat} {K : PySem.W.Frag} {H : Hp} {w : IA} {σ : L2.St}
/-- the names that stand for the cell now stand for d -/
def Cooled (n : Nat) (d : D) (ρ ρ' : Env) : Prop := ρ'.length = ρ.length ∧ ∀ (i : Nat) (x : XV), ρ'[i]? = some (some x) → ρ[i]? = some (some x) ∨ (ρ[i]? = some (some (.l n)) ∧ x = .d d)
theorem Cooled.at {d : D} {j : Nat} (h : ρ[j]? = some (some (.l n))) : Cooled n d ρ (ρ.set j (some (.d d))) := ⟨List.length_set, fun i x e => by
  by_cases hj : j = i
  · subst hj
    have hl : j < ρ.length := (List.getElem?_eq_some_iff.mp h).1
    rw [List.getElem?_set_self hl] at e
    cases e
    exact .inr ⟨h, rfl⟩
  · rw [List.getElem?_set_ne hj] at e
    exact .inl e⟩
theorem reps_of_pz {L : Addr → Prop} : ∀ {ps : List (Key × D)} {kvs : List (Key × V)}, PZ (RepX K μ H w) (ps.map fun p => (p.1, XV.d p.2)) kvs → kvs.map (·.1) = ps.map (·.1) ∧ Reps K (Live μ w) H (ps.map (·.2)) (kvs.map (·.2)) := by
  intro ps kvs z
  have h1 := z.fst
  have h2 := z.snd
  rw [List.map_map] at h1 h2
  refine ⟨h1, ?_⟩
  have e : (ps.map ((fun p : Key × XV => p.2) ∘ fun p : Key × D => (p.1, XV.d p.2))) = (ps.map (·.2)).map XV.d := by rw [List.map_map]; rfl
  rw [e] at h2
  have go : ∀ (ds : List D) (vs : List V), RepXs K μ H w (ds.map XV.d) vs → Reps K (Live μ w) H ds vs := by
    intro ds
    induction ds with
    | nil => intro vs h; cases h; rfl
    | cons d ds ih =>
      intro vs h
      cases h with
      | cons r t => exact ⟨_, _, rfl, r, ih _ t⟩
  exact go _ _ h2
theorem ws_coolD {ps : List (Key × D)} (hm : μ[n]? = some (some (MO.dc (ps.map fun p => (p.1, XV.d p.2))))) (hc : Cooled n (D.dc ps) ρ ρ') (h : WS C sts ρ' (μ.set n none) E D0) : WS C sts ρ μ E D0 := fun X σ H w A pins s I => by
  obtain ⟨a, ha⟩ : ∃ a, w.ι[n]? = some a := by
    have hl : n < w.ι.length := by rw [A.M.len]; exact (List.getElem?_eq_some_iff.mp hm).1
    exact ⟨w.ι[n], List.getElem?_eq_getElem hl⟩
  obtain ⟨kvs, e, zz⟩ := cell_at A.M hm ha
  obtain ⟨od, I'⟩ := I.lock e trivial
  have k : ∀ b o, b ≠ a → H b = some o → upd H a (.frz od (.dK kvs)) b = some o := fun b o hb hq => by rw [upd_ne hb]; exact hq
  have S : Stp μ H w (μ.set n none) (upd H a (.frz od (.dK kvs))) w := Stp.set A.M hm ha k
  have M : MOk C.K (μ.set n none) (upd H a (.frz od (.dK kvs))) w := MOk.set A.M hm ha k fun m q => nomatch q
  have nl : ¬ Live (μ.set n none) w a := fun q => by
    rcases q with q | ⟨j, m, q1, q2⟩
    · exact A.M.nF n _ a hm ha q
    · by_cases hj : n = j
      · subst hj
        rw [List.getElem?_set_self (List.getElem?_eq_some_iff.mp hm).1] at q1
        cases q1
      · rw [List.getElem?_set_ne hj] at q1
        exact hj (A.M.inj n j _ m a hm q1 ha q2)
  obtain ⟨r1, r2⟩ := reps_of_pz (L := fun _ => True) zz
  have R : ROk C.K (μ.set n none) (upd H a (.frz od (.dK kvs))) w ρ' σ := by
    refine ⟨by rw [hc.1]; exact A.R.len, fun i x ei => ?_⟩
    rcases hc.2 i x ei with q | ⟨q, rfl⟩
    · obtain ⟨v, hv, rv⟩ := A.R.rep i x q
      exact ⟨v, hv, rv.stp S⟩
    · obtain ⟨v, hv, b, hb, rfl⟩ := A.R.rep i _ q
      rw [ha] at hb
      cases hb
      refine ⟨_, hv, a, od, kvs, rfl, nl, upd_same, r1, ?_⟩
      exact Reps.mono (fun b o hb nb => ⟨k b o (fun z => nb (z ▸ .inr ⟨n, _, hm, ha⟩)) hb, fun q => nb (live_set hm ha q)⟩) _ _ r2
  have A' : At C X E ρ' (μ.set n none) σ (upd H a (.frz od (.dK kvs))) w := ⟨A.has, M, R, A.T.imp fun _ _ _ _ q => liftE.from S q⟩
  refine wpAny_mono (h X σ _ w A' pins s I') (fun f t q => ?_) fun _ _ z => z
  exact SP_mono q (fun σ H => liftN.from S) (fun v H => lift.from S) (fun σ H => liftN.from S) fun σ H => liftN.from S
theorem ws_coolL {ds : List D} (hm : μ[n]? = some (some (.lst (ds.map XV.d)))) (hc : Cooled n (.lst ds) ρ ρ') (h : WS C sts ρ' (μ.set n none) E D0) : WS C sts ρ μ E D0 := fun X σ H w A pins s I => by
  obtain ⟨a, ha⟩ : ∃ a, w.ι[n]? = some a := by
    have hl : n < w.ι.length := by rw [A.M.len]; exact (List.getElem?_eq_some_iff.mp hm).1
    exact ⟨w.ι[n], List.getElem?_eq_getElem hl⟩
  obtain ⟨vs, e, rr⟩ := A.M.holds n _ a hm ha
  have k : ∀ b o, b ≠ a → H b = some o → H b = some o := fun b o hb hq => hq
  have S : Stp μ H w (μ.set n none) H w := Stp.set A.M hm ha k ⟨_, e⟩
  have M : MOk C.K (μ.set n none) H w := MOk.set A.M hm ha k (fun m q => nomatch q) ⟨_, e⟩
  have nl : ¬ Live (μ.set n none) w a := fun q => by
    rcases q with q | ⟨j, m, q1, q2⟩
    · exact A.M.nF n _ a hm ha q
    · by_cases hj : n = j
      · subst hj
        rw [List.getElem?_set_self (List.getElem?_eq_some_iff.mp hm).1] at q1
        cases q1
      · rw [List.getElem?_set_ne hj] at q1
        exact hj (A.M.inj n j _ m a hm q1 ha q2)
  have go : ∀ (ds : List D) (vs : List V), RepXs C.K μ H w (ds.map XV.d) vs → Reps C.K (Live μ w) H ds vs := by
    intro ds
    induction ds with
    | nil => intro vs h; cases h; rfl
    | cons d ds ih =>
      intro vs h
      cases h with
      | cons r t => exact ⟨_, _, rfl, r, ih _ t⟩
  have R : ROk C.K (μ.set n none) H w ρ' σ := by
    refine ⟨by rw [hc.1]; exact A.R.len, fun i x ei => ?_⟩
    rcases hc.2 i x ei with q | ⟨q, rfl⟩
    · obtain ⟨v, hv, rv⟩ := A.R.rep i x q
      exact ⟨v, hv, rv.stp S⟩
    · obtain ⟨v, hv, b, hb, rfl⟩ := A.R.rep i _ q
      rw [ha] at hb
      cases hb
      refine ⟨_, hv, a, vs, rfl, nl, e, ?_⟩
      exact Reps.mono (fun b o hb nb => ⟨hb, fun q => nb (live_set hm ha q)⟩) _ _ (go _ _ rr)
  have A' : At C X E ρ' (μ.set n none) σ H w := ⟨A.has, M, R, A.T.imp fun _ _ _ _ q => liftE.from S q⟩
  refine wpAny_mono (h X σ _ w A' pins s I) (fun f t q => ?_) fun _ _ z => z
  exact SP_mono q (fun σ H => liftN.from S) (fun v H => lift.from S) (fun σ H => liftN.from S) fun σ H => liftN.from S
end
end DL
set_option maxRecDepth 100000
set_option maxHeartbeats 2000000
/-! DE7: in lists of data, list(d.values()). -/
namespace DL
open PySem L2 PySem.Spec PyProof.Rows
section
variable {C : SC} {E : EPost} {ρ : Env} {μ : Mem} {a b e o : Expr} {p p2 p3 pos apos cpos : Pos} {x : Str} {Q : XV → Mem → Prop} {P P1 P2 : Prop} {d : D} {ds : List D}
theorem go_inL (h1 : d.okEq) (h2 : (D.lst ds).okEq) (q : Q (.d (.bl (ds.any fun z => PyData.eqv z.py d.py))) μ) : Go2 C (compareOp .In) (.d d) (.d (.lst ds)) μ Q := fun X hX H w vx vy M rx ry => by
  have dx := Rep.dp d vx h1.1 rx
  have dy := Rep.dp (.lst ds) vy h2.1 ry
  have e : (D.lst ds).py = .list (D.pys ds) := by unfold D.py; rfl
  have ea : (D.pys ds).any (fun z => PyData.eqv z d.py) = ds.any fun z => PyData.eqv z.py d.py := by
    clear h2 q ry dy e
    induction ds with
    | nil => unfold D.pys; rfl
    | cons y ys ih => unfold D.pys; rw [List.any_cons, List.any_cons, ih]
  refine rS_of (op_inD (by have := hX.un; omega)) ⟨d.py, D.pys ds, by rw [hX.K]; exact dx, by rw [hX.K, ← e]; exact dy, h1.shaped, by rw [← e]; exact h2.shaped, ?_⟩
  rw [ea]
  exact lift.now M (x := .d (.bl _)) rfl q
theorem go_ninL (h1 : d.okEq) (h2 : (D.lst ds).okEq) (q : Q (.d (.bl (!ds.any fun z => PyData.eqv z.py d.py))) μ) : Go2 C (compareOp .NotIn) (.d d) (.d (.lst ds)) μ Q := fun X hX H w vx vy M rx ry => by
  have dx := Rep.dp d vx h1.1 rx
  have dy := Rep.dp (.lst ds) vy h2.1 ry
  have e : (D.lst ds).py = .list (D.pys ds) := by unfold D.py; rfl
  have ea : (D.pys ds).any (fun z => PyData.eqv z d.py) = ds.any fun z => PyData.eqv z.py d.py := by
    clear h2 q ry dy e
    induction ds with
    | nil => unfold D.pys; rfl
    | cons y ys ih => unfold D.pys; rw [List.any_cons, List.any_cons, ih]
  refine rS_of (op_notInD (by have := hX.un; omega)) ⟨d.py, D.pys ds, by rw [hX.K]; exact dx, by rw [hX.K, ← e]; exact dy, h1.shaped, by rw [← e]; exact h2.shaped, ?_⟩
  rw [ea]
  exact lift.now M (x := .d (.bl _)) rfl q
instance (priority := 900) : CmpC .In (.d d) (.d (.lst ds)) (d.okEq ∧ (D.lst ds).okEq) (ds.any fun z => PyData.eqv z.py d.py) := ⟨fun h => fun _ q => go_inL h.1 h.2 q⟩
instance (priority := 900) : CmpC .NotIn (.d d) (.d (.lst ds)) (d.okEq ∧ (D.lst ds).okEq) (!ds.any fun z => PyData.eqv z.py d.py) := ⟨fun h => fun _ q => go_ninL h.1 h.2 q⟩
/-- list(d.values()) -/
theorem se_lvals [Calm C] {ps : List (Key × D)} (B : Blts C.mg) (h : SE C e ρ μ E P (.d (D.dc ps))) (hg : C.Glob "list" := by rfl) (hbase : ∀ env, attributeBase e "values" env (eval e env) = eval e env := by intro _; rfl) (hline : (apos.endLine == cpos.line) = true := by rfl)
    (hs : ∀ env, starEach [Expr.Call (.Attribute e "values" apos) [] [] cpos] env = (false, eval (.Call (.Attribute e "values" apos) [] [] cpos) env) :: starEach [] env := by intro _; rfl) : SE C (.Call (.Name "list" p) [.Call (.Attribute e "values" apos) [] [] cpos] [] pos) ρ μ E P (.d (.lst (ps.map (·.2)))) := .mk fun q Q k =>
  we_listV B hg (h q _ ⟨ps, .d ps, k⟩) hbase hline hs
end
end DL
set_option maxRecDepth 100000
set_option maxHeartbeats 2000000
/-! R9: rules of windows: the words in order, tables, what is put along a text. -/
namespace DL
open PySem L2 PySem.Spec PyProof.Rows
theorem Blts.to {C : SC} (B : Blts C.mg) {N : List Str} {sc : Scope} {k : Nat} : Blts (C.defC N sc k).mg := B
theorem Blts.tb {C : SC} (B : Blts C.mg) {N : List Str} {sc s2 : Scope} {k : Nat} : Blts ((C.defC N sc k).blk s2).mg := B
theorem Blts.th {C : SC} (B : Blts C.mg) {N : List Str} {sc : Scope} {k : Nat} : Blts (C.defC N sc k).hot.mg := B
class BoolV (x : XV) (k : outParam Bool) : Prop where
  r : x = .d (.bl k)
instance {k : Bool} : BoolV (.d (.bl k)) k := ⟨rfl⟩
section
variable {C : SC} {E : EPost} {ρ : Env} {μ : Mem} {e tg : Expr} {pos : Pos} {P : Prop} {D0 : DEnds} {t tt : Tg} {x v : XV} {k : Bool}
/-- a call's truth -/
theorem sb_valC (h : SE C e ρ μ E P x) [hr : BoolV x k] (he : ∀ env whole, isTrue e env whole = (do let v ← whole; standAt e.pos; holding [v] (truthy v)) := by intro _ _; rfl) : SB C e ρ μ E P k := sb_val (by rw [← hr.r]; exact h) he
/-- several names, of which comprehensions take some -/
theorem w1_asgC [Calm C] (ht : TgOk C tg t) (h : WE C e ρ μ E fun y μ' => ∃ ρ', t.put y ρ ρ' ∧ D0.nx ρ' μ') (hs : ∀ env, swapsWithSole [tg] e pos.line env = pure false := by intro _; rfl) (hw : ∀ env : PySem.Env, env.scope = C.sc → swappedStores [tg] e env = pure none := by intro env h; cases env; simp only at h; subst h; rfl)
    (h1 : ∀ env, (assignEach [tg] env).map (·.2) = [assign tg env] := by intro _; rfl) : WS1 C (.Assign [tg] e pos) ρ μ E D0 := fun X σ H w A =>
  tS1_of (ps_asg pe_tE (ht.pg A.has) (hs _) (hw _ A.has.sc) (h1 _)) (h.go A fun v H1 z μ1 w1 r1 A1 S1 ⟨ρ', hp, q⟩ => by
    rw [A.has.K]
    exact Tg.go hp r1 A1.R fun σ' R' => ⟨ρ', μ1, w1, R', A1.M, S1, q⟩)
theorem w1_tupC [Calm C] (ht : TgOk C tg tt) (h : SE C e ρ μ E P v) (q1 : P) (q : D0.nx (tt.env v ρ) μ) (hf : tt.fits v := by first | trivial | rfl) (hs : ∀ env, swapsWithSole [tg] e pos.line env = pure false := by intro _; rfl) (hw : ∀ env : PySem.Env, env.scope = C.sc → swappedStores [tg] e env = pure none := by intro env h; cases env; simp only at h; subst h; rfl)
    (h1 : ∀ env, (assignEach [tg] env).map (·.2) = [assign tg env] := by intro _; rfl) : WS1 C (.Assign [tg] e pos) ρ μ E D0 := w1_asgC ht ((h q1).go ⟨_, Tg.put_env hf, q⟩) hs hw h1
end
def D.txtOf : D → List Nat
  | .txt l => l
  | _ => []
instance (priority := 800) {α : Type} {xs : List α} {t : α → D} {s : List Nat} : JnC s (.d (.lst (xs.map t))) ((∀ a ∈ xs, t a = .txt (t a).txtOf) ∧ (xs.map fun a => (t a).txtOf.length).sum + xs.length * s.length ≤ 16777216) (TL.joinL s (xs.map fun a => (t a).txtOf)) := ⟨fun q => ⟨xs.map fun a => (t a).txtOf, by
  rw [List.map_map]
  exact congrArg (fun l => XV.d (.lst l)) (List.map_congr_left fun a h => q.1 a h), by rw [List.map_map, List.length_map]; exact q.2, rfl⟩⟩
theorem w1_setLcC {C : SC} [Calm C] {E : EPost} {ρ : Env} {μ : Mem} {D : DEnds} {tg iter : Expr} {pos : Pos} {elt : Expr} {ifs : List Expr} {scope : Scope} {own : List (Str × Nat)} {t : Tg} {i : Nat} {y : Str} {py spos : Pos} (n : C.Nm i y) (hyl : C.sc.names.lookup y = some .local) (ht : TgOk (C.blk scope) tg t) (ok : BlkOk C.N C.sc scope own) (hsl : ∀ j ∈ t.slots, j ∈ own.map (·.2))
    (h : WI C tg iter ρ μ E (LcI C scope t ifs elt (own.map (·.2)) ρ fun z μ' => ∃ acc : List DL.D, z = XV.d (DL.D.lst acc) ∧ D.nx (ρ.set i (some (XV.l μ'.length))) (μ' ++ [some (MO.lst (acc.map XV.d))]))) (hk : C.sc.kind = .function) (hl : (py.line == pos.line) = true) (ha : (scope.names.any fun (n, k) => n == y && (k == .local || k == .cell)) = false)
    (hs : ∀ env x, foldedSetIterable iter env x = pure x := by intro _ _; rfl) : WS1 C (.Assign [.Name y py] (.ListComp elt [⟨tg, iter, ifs, 0⟩] scope pos) spos) ρ μ E D := fun X σ H w A => by
  obtain ⟨wi, hi, hw⟩ := h X σ H w A
  refine tS1_of (ps_setLc (i := i) (own := own) (g := t.g X.K) (tt := fun σ' H' R => ∀ s0 H0 A0 cl fp, tIfs (X.blk s0 H0 scope (compEnvC scope cl A0 X.env) fp) ifs σ' H' R) (te := fun σ' H' R => ∀ s0 H0 A0 cl fp, tE (X.blk s0 H0 scope (compEnvC scope cl A0 X.env) fp) elt σ' H' R) (A.has.calm Calm.h) (by rw [A.has.N]; exact n.nd) (by rw [A.has.N]; exact n.at_) (by rw [A.has.sc]; exact hyl) (sw_true (by rw [A.has.sc]; exact hk) (by rw [A.has.sc]; exact hyl) hl ha) hi (by rw [A.has.N, A.has.sc]; exact ok) (fun s0 H0 A0 cl fp => ht.pg (blk_has A.has)) (fun s0 H0 A0 cl fp => ⟨fun pins s σ' H' R I h => pts_tIfs.run pins s σ' H' R I (h s0 H0 A0 cl fp)⟩)
    (fun s0 H0 A0 cl fp => ⟨fun pins s σ' H' R I h => h s0 H0 A0 cl fp pins s I⟩) (hs _)) ?_
  exact lc_read (Q := fun z μ' => ∃ acc : List DL.D, z = XV.d (DL.D.lst acc) ∧ D.nx (ρ.set i (some (XV.l μ'.length))) (μ' ++ [some (MO.lst (acc.map XV.d))])) (Qv := fun v H' => gName i v σ H' (liftD C.K D μ H w).nx) A hsl hw fun hDl M1 S1 B q => by
    obtain ⟨_, ea, q⟩ := q
    cases ea
    obtain ⟨z, μ', w', r, M, S, q⟩ := B.finC (Q := fun z μ' => D.nx (ρ.set i (some z)) μ') hDl M1 S1 q
    exact ⟨_, μ', w', (A.R.stp S).put r i, M, S, q⟩
/-- name = [.. for ..] as a cell -/
theorem w1_lcC {C : SC} [Calm C] {E : EPost} {ρ : Env} {μ : Mem} {D0 : DEnds} {tg iter elt : Expr} {pos : Pos} {scope : Scope} {own : List (Str × Nat)} {tt : Tg} {α : Type} {en : α → XV} {xs : List α} {P : Prop} {P' : α → Prop} {g : α → D} {y : Str} {py spos : Pos} {i : Nat} (nm : C.Nm i y) (hyl : C.sc.names.lookup y = some .local) (ht : TgOk (C.blk scope) tg tt) (ok : BlkOk C.N C.sc scope own) (hsl : ∀ j ∈ tt.slots, j ∈ own.map (·.2)) (hi : SI C tg iter ρ μ E P en xs)
    (h : ∀ a : α, SE (C.blk scope) elt (tt.env (en a) (wipeE ρ (own.map (·.2)))) μ noE (P' a) (.d (g a))) (hk : C.sc.kind = .function) (hl : (py.line == pos.line) = true) (ha : (scope.names.any fun (n, k) => n == y && (k == .local || k == .cell)) = false)
    (q1 : P ∧ xs.length ≤ sizeLine ∧ ∀ a ∈ xs, P' a) (q : D0.nx (ρ.set i (some (.l μ.length))) (μ ++ [some (.lst ((xs.map g).map XV.d))])) (hf : ∀ a, tt.fits (en a) := by intro _; first | trivial | rfl) (hs : nSet iter = true := by rfl) :
    WS1 C (.Assign [.Name y py] (.ListComp elt [⟨tg, iter, [], 0⟩] scope pos) spos) ρ μ E D0 :=
  w1_setLcC nm hyl ht ok hsl (wi_lc0 (hi q1.1) q1.2.1 (fun a ha => ⟨_, Tg.put_env (hf a), h a (q1.2.2 a ha)⟩) ⟨_, rfl, q⟩) hk hl ha (fsi hs)
theorem gs_scr {C : SC} {μ : Mem} {Q : XV → Mem → Prop} {ns : List Int} {lo hi : Option Int} (q : Q (.d (.lst ((cut ns lo hi).map D.int))) μ) : GoS C (.d (.scr ns)) lo hi μ Q := fun X hX H w vx M rx => by
  obtain ⟨p, rfl, e⟩ := scr_sql rx
  refine slS_of sl_list ⟨p, _, rfl, by rw [hX.K]; exact e, fun l hl => lift.new M hl (x := .lst ((cut ns lo hi).map D.int)) (fun nl => ⟨l, _, rfl, nl, upd_same, ?_⟩) q⟩
  have e2 : cutV (ns.map V.int) lo hi = (cut ns lo hi).map V.int := by
    unfold cutV cut
    rw [List.length_map, List.map_take, List.map_drop]
  rw [e2]
  exact reps_ints
instance {ns : List Int} {lo hi : Option Int} : SlC (.d (.scr ns)) lo hi True (.d (.lst ((cut ns lo hi).map D.int))) := ⟨fun _ _ q => gs_scr q⟩
theorem app_lt : ∀ {a b c d : List Nat}, a.length = b.length → a < b → a ++ c < b ++ d
  | [], [], _, _, _, h => (List.not_lt_nil _ h).elim
  | x :: a, y :: b, c, d, hl, h => by
    rcases List.cons_lt_cons_iff.mp h with q | ⟨q, r⟩
    · exact List.cons_lt_cons_iff.mpr (.inl q)
    · exact List.cons_lt_cons_iff.mpr (.inr ⟨q, app_lt (by simpa using hl) r⟩)
theorem app_lt2 : ∀ {a : List Nat} {c d : List Nat}, c < d → a ++ c < a ++ d
  | [], _, _, h => h
  | x :: a, _, _, h => List.cons_lt_cons_iff.mpr (.inr ⟨rfl, app_lt2 h⟩)
theorem allWords_rise {g : List Nat} (hg : g.Pairwise (· < ·)) : ∀ n, (allWords g n).Pairwise (· < ·)
  | 0 => by simp [allWords]
  | n + 1 => by
    rw [allWords, List.pairwise_flatMap]
    refine ⟨fun w _ => ?_, ?_⟩
    · rw [List.pairwise_map]
      exact hg.imp fun h => app_lt2 (one_lt.mpr h)
    · refine List.Pairwise.imp_of_mem (fun {a b} ha hb h x hx y hy => ?_) (allWords_rise hg n)
      obtain ⟨c, _, rfl⟩ := List.mem_map.mp hx
      obtain ⟨d, _, rfl⟩ := List.mem_map.mp hy
      exact app_lt (by rw [allWords_len ha, allWords_len hb]) h
theorem sort_words {ls : List (List Nat)} (h : ls.Pairwise (· < ·)) : sortD (ls.map D.txt) = ls.map D.txt := by
  rw [sortD_txts, List.mergeSort_of_pairwise]
  exact h.imp fun q => decide_eq_true (Std.le_of_lt q)
/-- a table of one letter for each word -/
def tabPs (ws : List (List Nat)) (f : List Nat → Nat) : List (Key × D) := ws.map fun w => (.inr (SX.S w), .txt [f w])
theorem vz_tab {ws : List (List Nat)} {f : List Nat → Nat} {w : List Nat} : vz (tabPs ws f) (.inr (SX.S w)) = if w ∈ ws then some (D.txt [f w]) else none := by
  unfold tabPs
  induction ws with
  | nil => rfl
  | cons v vs ih =>
    rw [List.map_cons]
    by_cases e : v = w
    · subst e
      rw [vz_pos rfl, if_pos List.mem_cons_self]
    · have ne : ¬ ((Sum.inr (SX.S v) : Key) = .inr (SX.S w)) := fun q => e (SX.S_inj (Sum.inr.inj q))
      rw [vz_neg ne, ih]
      by_cases h : w ∈ vs
      · rw [if_pos h, if_pos (List.mem_cons_of_mem _ h)]
      · rw [if_neg h, if_neg (fun q => (List.mem_cons.mp q).elim (fun z => e z.symm) h)]
theorem keys_tab {ws : List (List Nat)} {f : List Nat → Nat} : ((tabPs ws f).map fun p => keyD p.1) = ws.map D.txt := by
  unfold tabPs
  rw [List.map_map]
  rfl
theorem tab_len {ws : List (List Nat)} {f : List Nat → Nat} : (tabPs ws f).length = ws.length := List.length_map _
instance (priority := 1200) {ws : List (List Nat)} {f : List Nat → Nat} : ItC (.d (D.dc (tabPs ws f))) (fun w : List Nat => .d (.txt w)) ws := ⟨fun h R q => wi_dctK (h _ ⟨tabPs ws f, rfl, by
  have e : ((tabPs ws f).map fun p => XV.d (keyD p.1)) = ws.map fun w => XV.d (.txt w) := by unfold tabPs; rw [List.map_map]; rfl
  rw [e]; exact q⟩)⟩
instance (priority := 1200) {ws : List (List Nat)} {f : List Nat → Nat} : B1C "len" (.d (D.dc (tabPs ws f))) True (.d (.int (ws.length : Int))) := ⟨fun B hg _ h he => (p_lenDct B.len hg h (.d (tabPs ws f)) he).eq (by rw [List.length_map, tab_len])⟩
instance (priority := 1200) {ws : List (List Nat)} {f : List Nat → Nat} : B1C "list" (.d (D.dc (tabPs ws f))) True (.d (.lst (ws.map fun w => .txt w))) := ⟨fun B hg _ h he => (p_listDct B hg h (.d (tabPs ws f)) he).eq (by rw [List.map_map]; exact congrArg (fun l => XV.d (.lst l)) keys_tab)⟩
theorem sortK_tab {ws : List (List Nat)} {f : List Nat → Nat} (h : ws.Pairwise (· < ·)) : (sortK ((tabPs ws f).map (·.1))).map keyD = ws.map D.txt := by
  unfold sortK tabPs
  rw [List.map_map]
  have e : (ws.map ((fun p : Key × D => p.1) ∘ fun w => ((.inr (SX.S w) : Key), D.txt [f w]))) = ws.map fun w => (.inr (SX.S w) : Key) := rfl
  rw [e, List.mergeSort_of_pairwise, List.map_map]
  · rfl
  · rw [List.pairwise_map]
    refine h.imp fun {a b} q => ?_
    have := congrFun (congrFun (PySem.W.dataLe_str fun l : List Nat => SX.S l) a) b
    have e2 : PySem.W.dataLe false (fun k => (keyD k).py) (.inr (SX.S a) : Key) (.inr (SX.S b)) = PySem.W.dataLe false (fun l : List Nat => PyData.str (SX.S l)) a b := by
      show PySem.W.dataLe false (fun l : List Nat => (keyD (.inr (SX.S l))).py) a b = _
      first
        | rfl
        | (congr 1; funext l; show (D.txt (SX.S l).cps.toList).py = _; unfold D.py; rw [SX.S_tl])
    rw [e2, this]
    simpa [SX.S] using Std.le_of_lt q
instance (priority := 1200) {ws : List (List Nat)} {f : List Nat → Nat} : B1C "sorted" (.d (D.dc (tabPs ws f))) (ws.Pairwise (· < ·)) (.d (.lst (ws.map fun w => .txt w))) := ⟨fun {C} _ {E ρ μ e p pos} B hg q h he => by
  refine (p_sortedDct B hg h (.d (tabPs ws f)) ?_ he).eq ?_
  · have e : ((((tabPs ws f).map fun p => (p.1, XV.d p.2)).map (·.1)).map fun k => (keyD k).py) = (ws.map D.txt).map D.py := by
      rw [← keys_tab (f := f)]
      simp only [List.map_map]
      rfl
    rw [e]
    exact alike_txts ws
  · rw [List.map_map]
    exact congrArg (fun l => XV.d (.lst l)) (sortK_tab q)⟩
theorem se_lvalsT {C : SC} [Calm C] {E : EPost} {ρ : Env} {μ : Mem} {e : Expr} {p pos apos cpos : Pos} {P : Prop} {ws : List (List Nat)} {f : List Nat → Nat} (B : Blts C.mg) (h : SE C e ρ μ E P (.d (D.dc (tabPs ws f)))) (hg : C.Glob "list" := by rfl) (hbase : ∀ env, attributeBase e "values" env (eval e env) = eval e env := by intro _; rfl) (hline : (apos.endLine == cpos.line) = true := by rfl)
    (hs : ∀ env, starEach [Expr.Call (.Attribute e "values" apos) [] [] cpos] env = (false, eval (.Call (.Attribute e "values" apos) [] [] cpos) env) :: starEach [] env := by intro _; rfl) : SE C (.Call (.Name "list" p) [.Call (.Attribute e "values" apos) [] [] cpos] [] pos) ρ μ E P (.d (.lst (ws.map fun w => .txt [f w]))) := by
  have z := se_lvals (p := p) (pos := pos) B h hg hbase hline hs
  have e : (tabPs ws f).map (·.2) = ws.map fun w => D.txt [f w] := by unfold tabPs; rw [List.map_map]; rfl
  rw [e] at z
  exact z
/-- a rule: the letters that are read and put, its place, its width, its table -/
structure Rl where
  g : List Nat
  to : List Nat
  left : Int
  n : Nat
  f : List Nat → Nat
structure Rl.ok (r : Rl) : Prop where
  g : isSigns r.g = true
  to : isSigns r.to = true
  l1 : -9 ≤ r.left
  l2 : r.left ≤ 9
  n1 : 1 ≤ r.n
  n2 : r.n ≤ 5
  f : ∀ w ∈ allWords r.g r.n, r.f w ∈ r.to
abbrev Rl.ps (r : Rl) : List (Key × D) := tabPs (allWords r.g r.n) r.f
def ruleD (A : Addr) (r : Rl) : D := .ins A ["read_letters", "put_letters", "looks_back", "window_table"] [.txt r.g, .txt r.to, .int r.left, D.dc r.ps]
theorem pow_le {m n : Nat} (h : m ≤ 4) (hn : n ≤ 5) : m ^ n ≤ 1024 := Nat.le_trans (Nat.pow_le_pow_left h n) (Nat.le_trans (Nat.pow_le_pow_right (by decide) hn) (by decide))
theorem Rl.ok.many {r : Rl} (h : r.ok) : (allWords r.g r.n).length ≤ 1024 := by
  rw [allWords_many]
  exact pow_le (isSigns_iff.mp h.g).2.1 h.n2
theorem Rl.ok.ne {r : Rl} (h : r.ok) : allWords r.g r.n ≠ [] := fun e => by
  have := allWords_many (g := r.g) (n := r.n)
  rw [e] at this
  have g1 := (isSigns_iff.mp h.g).1
  have p := Nat.pow_pos (n := r.n) (show 0 < r.g.length by omega)
  rw [← this] at p
  exact absurd p (by decide)
theorem cut_midI {α : Type} {l : List α} {i j : Int} (h1 : 0 ≤ i) (h2 : i ≤ j) (h3 : j ≤ (l.length : Int)) : cut l (some i) (some j) = (l.drop i.toNat).take (j.toNat - i.toNat) := by
  have e1 : HT.sIx l.length 0 (some i) = min i.toNat l.length := if_neg (by omega)
  have e2 : HT.sIx l.length l.length (some j) = min j.toNat l.length := if_neg (by omega)
  unfold cut
  rw [e1, e2, show min i.toNat l.length = i.toNat by omega, show min j.toNat l.length = j.toNat by omega]
theorem cut_mid {α : Type} {l : List α} {i n : Nat} (h : i + n ≤ l.length) : cut l (some (i : Int)) (some ((i : Int) + (n : Int))) = (l.drop i).take n := by
  rw [cut_midI (by omega) (by omega) (by omega), show ((i : Int) + (n : Int)).toNat - (i : Int).toNat = n by omega, Int.toNat_natCast]
/-- the windows of a text -/
def wins (n : Nat) (l : List Nat) : List (List Nat) := (List.range (l.length + 1 - n)).map fun i => (l.drop i).take n
def along (r : Rl) (l : List Nat) : List Nat := (wins r.n l).map r.f
theorem zK_tab {ws : List (List Nat)} {f : List Nat → Nat} {w : List Nat} (h : w ∈ ws) : zK (tabPs ws f) (.inr (SX.S w)) = D.txt [f w] := by
  unfold zK
  rw [vz_tab, if_pos h]
  rfl
theorem vz_some {ws : List (List Nat)} {f : List Nat → Nat} {w : List Nat} (h : w ∈ ws) : (vz (tabPs ws f) (.inr (SX.S w))).isSome = true := by
  rw [vz_tab, if_pos h]
  rfl
theorem tab_same {ws : List (List Nat)} {f : List Nat → Nat} : (ws.map fun w => ((.inr (SX.S w) : Key), zK (tabPs ws f) (.inr (SX.S w)))) = tabPs ws f := by
  show _ = ws.map _
  exact List.map_congr_left fun w h => by rw [zK_tab h]
theorem keys_nd {ws : List (List Nat)} (h : ws.Pairwise (· < ·)) : (ws.map fun w => (.inr (SX.S w) : Key)).Nodup := by
  rw [List.nodup_iff_pairwise_ne, List.pairwise_map]
  exact h.imp fun {a b} q e => by
    have := SX.S_inj (Sum.inr.inj e)
    rw [this] at q
    exact absurd q (List.lt_irrefl _)
theorem wins_mem {n : Nat} {l w g : List Nat} (h : ∀ c ∈ l, c ∈ g) (hw : w ∈ wins n l) : w ∈ allWords g n := by
  obtain ⟨i, hi, rfl⟩ := List.mem_map.mp hw
  have hi := List.mem_range.mp hi
  refine mem_allWords.mpr ⟨by rw [List.length_take, List.length_drop]; omega, fun c hc => h c (List.mem_of_mem_drop (List.mem_of_mem_take hc))⟩
end DL
set_option maxRecDepth 100000
set_option maxHeartbeats 4000000
set_option pp.maxSteps 600
namespace DL
open PySem L2 PySem.Spec PyProof.Rows
def top (i : Nat) : Stmt := PySem.Challenge.pw_windowlaw_k21_what_is_put_along_words.main.body.getD i (.Pass ⟨0, 0, 0, 0⟩)
structure GK (C : SC) : Prop where
  c_SMALL : GT C.mg "SMALL" [97, 98, 99, 100, 101, 102, 103, 104, 105, 106, 107, 108, 109, 110, 111, 112, 113, 114, 115, 116, 117, 118, 119, 120, 121, 122]
  c_MOST_SIGNS : GI C.mg "MOST_SIGNS" 4
  c_MOST_WORD : GI C.mg "MOST_WORD" 60
  c_MOST_LEFT : GI C.mg "MOST_LEFT" 9
  c_MOST_WIDTH : GI C.mg "MOST_WIDTH" 5
  c_MOST_WORDS : GI C.mg "MOST_WORDS" 1024
theorem GK.to {C : SC} (h : GK C) {N : List Str} {sc : Scope} {k : Nat} : GK (C.defC N sc k) := ⟨h.1, h.2, h.3, h.4, h.5, h.6⟩
theorem GK.tb {C : SC} (h : GK C) {N : List Str} {sc s2 : Scope} {k : Nat} : GK ((C.defC N sc k).blk s2) := ⟨h.1, h.2, h.3, h.4, h.5, h.6⟩
theorem GK.th {C : SC} (h : GK C) {N : List Str} {sc : Scope} {k : Nat} : GK (C.defC N sc k).hot := ⟨h.1, h.2, h.3, h.4, h.5, h.6⟩
structure GX_WindowError (C : SC) (A : Addr) : Prop where
  mg : C.mg "WindowError" = some (.ref A)
  c : ExcC C.K A
  x : PySem.W.exmOne C.K (.ref A) (.ref A) = some true
  m : ExcM C "WindowError" A
theorem GX_WindowError.to {C : SC} {A : Addr} (h : GX_WindowError C A) {N : List Str} {sc : Scope} {k : Nat} : GX_WindowError (C.defC N sc k) A := ⟨h.mg, h.c, h.x, ⟨h.m.m, h.m.q, h.m.k, h.m.s, h.m.t⟩⟩
theorem GX_WindowError.tb {C : SC} {A : Addr} (h : GX_WindowError C A) {N : List Str} {sc s2 : Scope} {k : Nat} : GX_WindowError ((C.defC N sc k).blk s2) A := ⟨h.mg, h.c, h.x, ⟨h.m.m, h.m.q, h.m.k, h.m.s, h.m.t⟩⟩
theorem GX_WindowError.th {C : SC} {A : Addr} (h : GX_WindowError C A) {N : List Str} {sc : Scope} {k : Nat} : GX_WindowError (C.defC N sc k).hot A := ⟨h.mg, h.c, h.x, ⟨h.m.m, h.m.q, h.m.k, h.m.s, h.m.t⟩⟩
structure GX_BadRow (C : SC) (A : Addr) : Prop where
  mg : C.mg "BadRow" = some (.ref A)
  c : ExcC C.K A
  x : PySem.W.exmOne C.K (.ref A) (.ref A) = some true
  m : ExcM C "BadRow" A
theorem GX_BadRow.to {C : SC} {A : Addr} (h : GX_BadRow C A) {N : List Str} {sc : Scope} {k : Nat} : GX_BadRow (C.defC N sc k) A := ⟨h.mg, h.c, h.x, ⟨h.m.m, h.m.q, h.m.k, h.m.s, h.m.t⟩⟩
theorem GX_BadRow.tb {C : SC} {A : Addr} (h : GX_BadRow C A) {N : List Str} {sc s2 : Scope} {k : Nat} : GX_BadRow ((C.defC N sc k).blk s2) A := ⟨h.mg, h.c, h.x, ⟨h.m.m, h.m.q, h.m.k, h.m.s, h.m.t⟩⟩
theorem GX_BadRow.th {C : SC} {A : Addr} (h : GX_BadRow C A) {N : List Str} {sc : Scope} {k : Nat} : GX_BadRow (C.defC N sc k).hot A := ⟨h.mg, h.c, h.x, ⟨h.m.m, h.m.q, h.m.k, h.m.s, h.m.t⟩⟩
structure GX_NoRule (C : SC) (A : Addr) : Prop where
  mg : C.mg "NoRule" = some (.ref A)
  c : ExcC C.K A
  x : PySem.W.exmOne C.K (.ref A) (.ref A) = some true
  m : ExcM C "NoRule" A
theorem GX_NoRule.to {C : SC} {A : Addr} (h : GX_NoRule C A) {N : List Str} {sc : Scope} {k : Nat} : GX_NoRule (C.defC N sc k) A := ⟨h.mg, h.c, h.x, ⟨h.m.m, h.m.q, h.m.k, h.m.s, h.m.t⟩⟩
theorem GX_NoRule.tb {C : SC} {A : Addr} (h : GX_NoRule C A) {N : List Str} {sc s2 : Scope} {k : Nat} : GX_NoRule ((C.defC N sc k).blk s2) A := ⟨h.mg, h.c, h.x, ⟨h.m.m, h.m.q, h.m.k, h.m.s, h.m.t⟩⟩
theorem GX_NoRule.th {C : SC} {A : Addr} (h : GX_NoRule C A) {N : List Str} {sc : Scope} {k : Nat} : GX_NoRule (C.defC N sc k).hot A := ⟨h.mg, h.c, h.x, ⟨h.m.m, h.m.q, h.m.k, h.m.s, h.m.t⟩⟩
structure GX_NoPair (C : SC) (A : Addr) : Prop where
  mg : C.mg "NoPair" = some (.ref A)
  c : ExcC C.K A
  x : PySem.W.exmOne C.K (.ref A) (.ref A) = some true
  m : ExcM C "NoPair" A
theorem GX_NoPair.to {C : SC} {A : Addr} (h : GX_NoPair C A) {N : List Str} {sc : Scope} {k : Nat} : GX_NoPair (C.defC N sc k) A := ⟨h.mg, h.c, h.x, ⟨h.m.m, h.m.q, h.m.k, h.m.s, h.m.t⟩⟩
theorem GX_NoPair.tb {C : SC} {A : Addr} (h : GX_NoPair C A) {N : List Str} {sc s2 : Scope} {k : Nat} : GX_NoPair ((C.defC N sc k).blk s2) A := ⟨h.mg, h.c, h.x, ⟨h.m.m, h.m.q, h.m.k, h.m.s, h.m.t⟩⟩
theorem GX_NoPair.th {C : SC} {A : Addr} (h : GX_NoPair C A) {N : List Str} {sc : Scope} {k : Nat} : GX_NoPair (C.defC N sc k).hot A := ⟨h.mg, h.c, h.x, ⟨h.m.m, h.m.q, h.m.k, h.m.s, h.m.t⟩⟩
structure GX_TooWide (C : SC) (A : Addr) : Prop where
  mg : C.mg "TooWide" = some (.ref A)
  c : ExcC C.K A
  x : PySem.W.exmOne C.K (.ref A) (.ref A) = some true
  m : ExcM C "TooWide" A
theorem GX_TooWide.to {C : SC} {A : Addr} (h : GX_TooWide C A) {N : List Str} {sc : Scope} {k : Nat} : GX_TooWide (C.defC N sc k) A := ⟨h.mg, h.c, h.x, ⟨h.m.m, h.m.q, h.m.k, h.m.s, h.m.t⟩⟩
theorem GX_TooWide.tb {C : SC} {A : Addr} (h : GX_TooWide C A) {N : List Str} {sc s2 : Scope} {k : Nat} : GX_TooWide ((C.defC N sc k).blk s2) A := ⟨h.mg, h.c, h.x, ⟨h.m.m, h.m.q, h.m.k, h.m.s, h.m.t⟩⟩
theorem GX_TooWide.th {C : SC} {A : Addr} (h : GX_TooWide C A) {N : List Str} {sc : Scope} {k : Nat} : GX_TooWide (C.defC N sc k).hot A := ⟨h.mg, h.c, h.x, ⟨h.m.m, h.m.q, h.m.k, h.m.s, h.m.t⟩⟩
structure GX_NoWord (C : SC) (A : Addr) : Prop where
  mg : C.mg "NoWord" = some (.ref A)
  c : ExcC C.K A
  x : PySem.W.exmOne C.K (.ref A) (.ref A) = some true
  i : ExcI C "NoWord" A "at"
  xf : XfC C.K A
  na : PySem.W.findIn C.K (.ref A) "at" = some none
theorem GX_NoWord.to {C : SC} {A : Addr} (h : GX_NoWord C A) {N : List Str} {sc : Scope} {k : Nat} : GX_NoWord (C.defC N sc k) A := ⟨h.mg, h.c, h.x, ⟨h.i.m, h.i.T, h.i.no, h.i.ini⟩, h.xf, h.na⟩
theorem GX_NoWord.tb {C : SC} {A : Addr} (h : GX_NoWord C A) {N : List Str} {sc s2 : Scope} {k : Nat} : GX_NoWord ((C.defC N sc k).blk s2) A := ⟨h.mg, h.c, h.x, ⟨h.i.m, h.i.T, h.i.no, h.i.ini⟩, h.xf, h.na⟩
theorem GX_NoWord.th {C : SC} {A : Addr} (h : GX_NoWord C A) {N : List Str} {sc : Scope} {k : Nat} : GX_NoWord (C.defC N sc k).hot A := ⟨h.mg, h.c, h.x, ⟨h.i.m, h.i.T, h.i.no, h.i.ini⟩, h.xf, h.na⟩
structure GC_Rule (C : SC) (A : Addr) : Prop where
  mg : C.mg "Rule" = some (.ref A)
  k : Cls C.K A
  isi : IsiC C.K A
  n_read_letters : NoAttr C.K A "read_letters"
  n_put_letters : NoAttr C.K A "put_letters"
  n_looks_back : NoAttr C.K A "looks_back"
  n_window_table : NoAttr C.K A "window_table"
theorem GC_Rule.to {C : SC} {A : Addr} (h : GC_Rule C A) {N : List Str} {sc : Scope} {k : Nat} : GC_Rule (C.defC N sc k) A := ⟨h.1, h.2, h.3, h.4, h.5, h.6, h.7⟩
theorem GC_Rule.tb {C : SC} {A : Addr} (h : GC_Rule C A) {N : List Str} {sc s2 : Scope} {k : Nat} : GC_Rule ((C.defC N sc k).blk s2) A := ⟨h.1, h.2, h.3, h.4, h.5, h.6, h.7⟩
theorem GC_Rule.th {C : SC} {A : Addr} (h : GC_Rule C A) {N : List Str} {sc : Scope} {k : Nat} : GC_Rule (C.defC N sc k).hot A := ⟨h.1, h.2, h.3, h.4, h.5, h.6, h.7⟩
abbrev s_NoWord___init__ : Stmt := inClass (top 6) 0
def n_NoWord___init__ : List Str := ["self", "at"]
theorem sc_NoWord___init__ : FnScope n_NoWord___init__ ["self", "at"] (defScope s_NoWord___init__) := ⟨rfl, rfl, rfl, by decide +kernel, rfl, by decide +kernel, by decide +kernel⟩
abbrev s_is_signs : Stmt := top 11
def n_is_signs : List Str := ["thing", "sign", "one", "other"]
theorem sc_is_signs : FnScope n_is_signs ["thing"] (defScope s_is_signs) := ⟨rfl, rfl, rfl, by decide +kernel, rfl, by decide +kernel, by decide +kernel⟩
abbrev s_is_word : Stmt := top 12
def n_is_word : List Str := ["thing", "signs", "sign"]
theorem sc_is_word : FnScope n_is_word ["thing", "signs"] (defScope s_is_word) := ⟨rfl, rfl, rfl, by decide +kernel, rfl, by decide +kernel, by decide +kernel⟩
abbrev s_is_whole : Stmt := top 17
def n_is_whole : List Str := ["thing"]
theorem sc_is_whole : FnScope n_is_whole ["thing"] (defScope s_is_whole) := ⟨rfl, rfl, rfl, by decide +kernel, rfl, by decide +kernel, by decide +kernel⟩
abbrev s_many_words : Stmt := top 18
def n_many_words : List Str := ["base", "size", "many", "turn"]
theorem sc_many_words : FnScope n_many_words ["base", "size"] (defScope s_many_words) := ⟨rfl, rfl, rfl, by decide +kernel, rfl, by decide +kernel, by decide +kernel⟩
abbrev s_is_window : Stmt := top 19
def n_is_window : List Str := ["thing", "base", "word", "size"]
theorem sc_is_window : FnScope n_is_window ["thing", "base"] (defScope s_is_window) := ⟨rfl, rfl, rfl, by decide +kernel, rfl, by decide +kernel, by decide +kernel⟩
abbrev s_are_letters : Stmt := top 20
def n_are_letters : List Str := ["some", "base", "letter"]
theorem sc_are_letters : FnScope n_are_letters ["some", "base"] (defScope s_are_letters) := ⟨rfl, rfl, rfl, by decide +kernel, rfl, by decide +kernel, by decide +kernel⟩
abbrev s_Rule___init__ : Stmt := inClass (top 21) 0
def n_Rule___init__ : List Str := ["self", "signs", "to", "left", "table", "word"]
theorem sc_Rule___init__ : FnScope n_Rule___init__ ["self", "signs", "to", "left", "table"] (defScope s_Rule___init__) := ⟨rfl, rfl, rfl, by decide +kernel, rfl, by decide +kernel, by decide +kernel⟩
abbrev s_Rule_width : Stmt := inClass (top 21) 5
def n_Rule_width : List Str := ["self"]
theorem sc_Rule_width : FnScope n_Rule_width ["self"] (defScope s_Rule_width) := ⟨rfl, rfl, rfl, by decide +kernel, rfl, by decide +kernel, by decide +kernel⟩
abbrev s_Rule_signs : Stmt := inClass (top 21) 2
def n_Rule_signs : List Str := ["self"]
theorem sc_Rule_signs : FnScope n_Rule_signs ["self"] (defScope s_Rule_signs) := ⟨rfl, rfl, rfl, by decide +kernel, rfl, by decide +kernel, by decide +kernel⟩
abbrev s_put_along : Stmt := top 22
def n_put_along : List Str := ["rule", "text", "base", "size", "at"]
theorem sc_put_along : FnScope n_put_along ["rule", "text"] (defScope s_put_along) := ⟨rfl, rfl, rfl, by decide +kernel, rfl, by decide +kernel, by decide +kernel⟩
abbrev s_word_by : Stmt := top 23
def n_word_by : List Str := ["rule", "word", "at", "letter"]
theorem sc_word_by : FnScope n_word_by ["rule", "word"] (defScope s_word_by) := ⟨rfl, rfl, rfl, by decide +kernel, rfl, by decide +kernel, by decide +kernel⟩
section
variable {C : SC}
/-! ### signs and words -/
structure GWord (mg : Str → Option Value) : Prop where
  SMALL : GT mg "SMALL" small
  MOST_SIGNS : GI mg "MOST_SIGNS" 4
  MOST_WORD : GI mg "MOST_WORD" 60
abbrev cSigns : Con := cP1 (fun d : D => d) Thing fun d => .bl (isSignsD d)
abbrev cIsWord : Con := cP2 (fun d : D => d) D.txt (fun d g => Thing d ∧ g.length ≤ 4000) fun d g => .bl (isWordD d g)
def ltP : XV → D
  | .d (.tup [.txt a, .txt b]) => .bl (decide (a < b))
  | _ => .non
def ltN (p : Nat × Nat) : Bool := decide ([p.1] < [p.2])
theorem sz4 {n : Nat} (h : n ≤ 4000) : n ≤ sizeLine := sz_of (by omega)
theorem kind_txt {d : D} {k : Kind} (h : d.kind = some k) (s : k.isStr = true) : ∃ l, d = .txt l := by
  cases d <;> cases h <;> first | exact ⟨_, rfl⟩ | exact absurd s (by decide)
theorem kind_not {d : D} {k : Kind} (h : d.kind = some k) (s : k.isStr = false) : isSignsD d = false ∧ ∀ g, isWordD d g = false := by
  cases d <;> cases h <;> first | exact absurd s (by decide) | exact ⟨rfl, fun _ => rfl⟩
theorem W_is_signs (B : Blts C.mg) (G : GWord C.mg) : ∀ d, Thing d → WS (C.defC n_is_signs (defScope s_is_signs) 0) (defBody s_is_signs) (startE n_is_signs [.d d]) [] noE (endsP (.bl (isSignsD d))) := fun d hd => by
  have nd : n_is_signs.Nodup := sc_is_signs.nd
  obtain ⟨⟨k, hk⟩, hl⟩ := hd
  cases hs : k.isStr with
  | false =>
    obtain ⟨e1, _⟩ := kind_not hk hs
    refine ws_cons (PB.ite (PB.eq (k' := true) (b_bool (w_or (r2 := true) (PB.eq (k' := true) (b_not (b_val (p_isStr B rfl rfl hk (p_vr 0 rfl rfl)))) (by rw [hs]; rfl)) fun hb => nomatch hb)) rfl) (fun hc => ?_) (fun hc => nomatch hc))
    exact w1_retQ p_bl (by show XV.d (.bl false) = .d (.bl (isSignsD d)); rw [e1])
  | true =>
    obtain ⟨l, rfl⟩ := kind_txt hk hs
    have hz : l.length ≤ sizeLine := sz4 (hl l rfl).1
    refine ws_cons (PB.ite (PB.eq (k' := !(decide (1 ≤ (l.length : Int)) && decide ((l.length : Int) ≤ 4))) (b_bool (w_or (PB.eq (k' := false) (b_not (b_val (p_isStr B rfl rfl hk (p_vr 0 rfl rfl)))) (by rw [hs]; rfl)) fun hb => w_or1 (b_not (b_chain (p_int) (p_lenT B.len rfl (p_vr 0 rfl rfl) hz) o_le (p_gI rfl G.MOST_SIGNS) o_le)))) (by rw [Bool.false_or])) (fun hc => ?_) (fun hc => ?_))
    · refine w1_retQ p_bl ?_
      show XV.d (.bl false) = .d (.bl (isSigns l))
      rw [Bool.not_eq_true'] at hc
      unfold isSigns
      rw [hc, Bool.false_and]
    · rw [Bool.not_eq_false'] at hc
      refine ws_nil ?_
      refine w1_retP (PV.eq (p_and (r1 := (l.map fun c => decide (c ∈ small)).all id) (r2 := ((l.zip (l.drop 1)).map ltN).all id) ?_ fun hb => p_one ?_) ?_)
      · exact p_all (bs := l.map fun c => decide (c ∈ small)) B rfl (PV.eq (p_lcT (n := 1) (g := fun c => .bl (decide (c ∈ small))) (.nm (.of nd)) nd (show BlkOk n_is_signs (defScope s_is_signs) _ [("sign", 1)] from ⟨rfl, by decide +kernel, by decide +kernel, by decide +kernel, by decide +kernel⟩) (by decide) (p_vr 0 rfl rfl) (fun c hc => p_cmp (p_vr 1 rfl rfl) (p_gT rfl G.SMALL) o_in) hz) (by rw [List.map_map]; rfl))
      · refine p_all (bs := (l.zip (l.drop 1)).map ltN) B rfl (PV.eq (v := .d (.lst ((zipD (l.map fun c => D.txt [c]) ((l.drop 1).map fun c => D.txt [c])).map ltP))) ?_ ?_)
        · refine p_lcW (t := .tp [2, 3]) (g := ltP) (.tp (.cons (.of nd) (.cons (.of nd) .nil))) nd (show BlkOk n_is_signs (defScope s_is_signs) _ [("one", 2), ("other", 3)] from ⟨rfl, by decide +kernel, by decide +kernel, by decide +kernel, by decide +kernel⟩) (by decide) (pw_zip (u := .txt l) (v := .txt (l.drop 1)) B.zip rfl (p_vr 0 rfl rfl) (PV.eq (p_slT (p_vr 0 rfl rfl) (o_some p_int) o_none hz) (by rw [cut_from (by decide)]; rfl)) rfl rfl) ?_ (fun x hx => ?_)
          · unfold zipD
            rw [List.length_map, List.length_zip, List.length_map]
            exact Nat.le_trans (Nat.min_le_left _ _) hz
          · unfold zipD at hx
            obtain ⟨p, hp, rfl⟩ := List.mem_map.mp hx
            obtain ⟨p1, p2⟩ := p
            obtain ⟨m1, m2⟩ := List.of_mem_zip hp
            obtain ⟨a, _, e1⟩ := List.mem_map.mp m1
            obtain ⟨b, _, e2⟩ := List.mem_map.mp m2
            have e1 : D.txt [a] = p1 := e1
            have e2 : D.txt [b] = p2 := e2
            subst e1 e2
            exact ⟨_, ⟨_, rfl, rfl, rfl⟩, p_cmp (p_vr 2 rfl rfl) (p_vr 3 rfl rfl) o_ltT⟩
        · unfold zipD
          rw [List.zip_map, List.map_map, List.map_map, List.map_map]
          rfl
      · show XV.d (.bl (_ && _)) = .d (.bl (isSigns l))
        unfold isSigns
        rw [hc, Bool.true_and, List.all_map, List.all_map]
        rfl
theorem W_is_word (B : Blts C.mg) (G : GWord C.mg) : ∀ (d : D) (g : List Nat), (Thing d ∧ g.length ≤ 4000) → WS (C.defC n_is_word (defScope s_is_word) 0) (defBody s_is_word) (startE n_is_word [.d d, .d (.txt g)]) [] noE (endsP (.bl (isWordD d g))) := fun d g hp => by
  have nd : n_is_word.Nodup := sc_is_word.nd
  obtain ⟨⟨⟨k, hk⟩, hl⟩, hg⟩ := hp
  cases hs : k.isStr with
  | false =>
    obtain ⟨_, e1⟩ := kind_not hk hs
    refine w1_retP (PV.eq (p_and (r2 := false) (p_isStr B rfl rfl hk (p_vr 0 rfl rfl)) fun hb => absurd (hs.symm.trans hb) (by decide)) ?_)
    rw [hs, e1]
    rfl
  | true =>
    obtain ⟨l, rfl⟩ := kind_txt hk hs
    have hz : l.length ≤ sizeLine := sz4 (hl l rfl).1
    refine w1_retP (PV.eq (p_and (p_isStr B rfl rfl hk (p_vr 0 rfl rfl)) fun hb => p_and (p_cmp (p_lenT B.len rfl (p_vr 0 rfl rfl) hz) (p_gI rfl G.MOST_WORD) o_le) fun hb => p_one (p_all (bs := l.map fun c => decide (c ∈ g)) B rfl (PV.eq (p_lcT (n := 2) (g := fun c => .bl (decide (c ∈ g))) (.nm (.of nd)) nd (show BlkOk n_is_word (defScope s_is_word) _ [("sign", 2)] from ⟨rfl, by decide +kernel, by decide +kernel, by decide +kernel, by decide +kernel⟩) (by decide) (p_vr 0 rfl rfl) (fun c hc => p_cmp (p_vr 2 rfl rfl) (p_vr 1 rfl rfl) o_in) hz) (by rw [List.map_map]; rfl)))) ?_)
    rw [hs, Bool.true_and, List.all_map]
    rfl
theorem F_is_signs (B : Blts C.mg) (G : GWord C.mg) (D1 : Dn C "is_signs" s_is_signs ["thing"]) : FnD C 1 "is_signs" ["thing"] cSigns := D1.p1 sc_is_signs (W_is_signs B G)
theorem F_is_word (B : Blts C.mg) (G : GWord C.mg) (D1 : Dn C "is_word" s_is_word ["thing", "signs"]) : FnD C 1 "is_word" ["thing", "signs"] cIsWord := D1.p2 sc_is_word (W_is_word B G)
/-! ### rules of windows -/
abbrev cWhole : Con := cP1 (fun d : D => d) D.any fun d => .bl (d.isInt && !d.isBool)
abbrev cMany : Con := cP2 D.txt (fun n : Nat => D.int n) (fun g n => g.length ≤ 4 ∧ n ≤ 5) fun g n => .int ((g.length ^ n : Nat) : Int)
abbrev cWindow : Con := cP2 (fun r : Rl => D.dc r.ps) D.txt (fun r g => r.ok ∧ g = r.g) fun _ _ => .bl true
abbrev cAreLet : Con := cP2 (fun r : Rl => D.lst ((allWords r.g r.n).map fun w => .txt [r.f w])) D.txt (fun r g => r.ok ∧ g = r.to) fun _ _ => .bl true
theorem thing_txt {l : List Nat} (h1 : l.length ≤ 4000) (h2 : uni l = true) : Thing (.txt l) := ⟨⟨_, rfl⟩, fun m e => by cases e; exact ⟨h1, h2⟩⟩
theorem signs_uni {l : List Nat} (h : isSigns l = true) : uni l = true := uni_small (isSigns_iff.mp h).2.2.1
theorem uni_app {a b : List Nat} (h1 : uni a = true) (h2 : uni b = true) : uni (a ++ b) = true := uni_iff.mpr fun c hc => (List.mem_append.mp hc).elim (uni_iff.mp h1 c) (uni_iff.mp h2 c)
theorem uni_sub {a b : List Nat} (h : uni b = true) (s : ∀ c ∈ a, c ∈ b) : uni a = true := uni_iff.mpr fun c hc => uni_iff.mp h c (s c hc)
theorem Rl.ok.small {r : Rl} (h : r.ok) {w : List Nat} (hw : ∀ c ∈ w, c ∈ r.g) : uni w = true := uni_small fun c hc => (isSigns_iff.mp h.g).2.2.1 c (hw c hc)
theorem F_is_whole (B : Blts C.mg) (D1 : Dn C "is_whole" s_is_whole ["thing"]) : FnD C 1 "is_whole" ["thing"] cWhole := D1.p1 sc_is_whole fun d hd => by
  have nd : n_is_whole.Nodup := sc_is_whole.nd
  refine w1_retS (C := (C.defC n_is_whole (defScope s_is_whole) _)) (se_and (se_isInt B.to (se_vr 0 rfl rfl)) (se_one (se_not (se_isBool B.to (se_vr 0 rfl rfl))))) ?_ ?_
  · exact ⟨⟨trivial, hd⟩, fun _ => ⟨trivial, hd⟩⟩
  · rfl
theorem cmul_pow {m i : Nat} (h : m ≤ 4) (hi : i ≤ 5) : CMul ((m ^ i : Nat) : Int) (m : Int) := cmul_s (by omega) (by have := pow_le h hi; omega)
theorem F_many_words (B : Blts C.mg) (D1 : Dn C "many_words" s_many_words ["base", "size"]) : FnD C 1 "many_words" ["base", "size"] cMany := D1.p2 sc_many_words fun g n hp => by
  have nd : n_many_words.Nodup := sc_many_words.nd
  obtain ⟨h1, h2⟩ := hp
  refine ws_cons (w1_setS (i := 2) (.of nd) (se_int) ?_ ?_)
  · trivial
  refine ws_cons (w1_forS (tt := .nm 3) (fun i ρ' => ∃ (o3 : Option XV), ρ' = [some (.d (.txt g)), some (.d (.int (n : Int))), some (.d (.int ((g.length ^ i : Nat) : Int))), o3]) (.nm (.of nd)) (SD.si (si_rng1 B.to (se_vr 1 rfl rfl))) ?_ ?_ ?_ ?_)
  · exact ⟨trivial, by omega, by omega⟩
  · exact ⟨none, rfl⟩
  · rintro i a ρ' hx ⟨o3, rfl⟩
    refine ws_cons (w1_setS (i := 2) (.of nd) (se_bin (se_vr 2 rfl rfl) (se_b1 B.to (se_vr 0 rfl rfl))) ?_ ?_)
    · exact ⟨trivial, ⟨trivial, sz_of (by omega)⟩, cmul_pow h1 (by have := (List.getElem?_eq_some_iff.mp hx).1; rw [List.length_range] at this; omega)⟩
    refine ws_nil ⟨rfl, some (.d (.int (a : Int))), ?_⟩
    have e : ((g.length ^ i : Nat) : Int) * (g.length : Int) = ((g.length ^ (i + 1) : Nat) : Int) := by rw [Nat.pow_succ, Int.natCast_mul]
    rw [e]
    rfl
  rintro ρ' ⟨o3, rfl⟩
  refine w1_retS (C := (C.defC n_many_words (defScope s_many_words) _)) (se_vr 2 rfl rfl) ?_ ?_
  · trivial
  · show XV.d (.int _) = XV.d (.int _)
    rw [List.length_range]
    rfl
theorem F_are_letters (B : Blts C.mg) (D1 : Dn C "are_letters" s_are_letters ["some", "base"]) : FnD C 1 "are_letters" ["some", "base"] cAreLet := D1.p2 sc_are_letters fun r g hp => by
  have nd : n_are_letters.Nodup := sc_are_letters.nd
  obtain ⟨ok, rfl⟩ := hp
  have hm := ok.many
  refine w1_retS (C := (C.defC n_are_letters (defScope s_are_letters) _)) (se_b1 B.to (se_lc (tt := .nm 2) (.nm (.of nd)) nd (show BlkOk n_are_letters (defScope s_are_letters) _ [("letter", 2)] from ⟨rfl, by decide +kernel, by decide +kernel, by decide +kernel, by decide +kernel⟩) (by decide) (SD.si (se_it (se_vr 0 rfl rfl))) (fun a => se_and (se_isi B.tb (se_vr 2 rfl rfl)) (se_and (se_cmp (se_b1 B.tb (se_vr 2 rfl rfl)) (se_int)) (se_one (se_cmp (se_vr 2 rfl rfl) (se_vr 1 rfl rfl))))))) ?_ ?_
  · simp only [true_and, and_true, implies_true, forall_const]
    exact ⟨sz_of (by omega), fun _ _ => sz_of (by simp)⟩
  · refine congrArg (fun b => XV.d (.bl b)) (List.all_eq_true.mpr fun w hw => ?_)
    rw [decide_eq_true (ok.f w hw)]
    rfl
theorem F_is_window (B : Blts C.mg) (G : GK C) (F_many_words : FnD C 1 "many_words" ["base", "size"] cMany) (F_is_word : FnD C 1 "is_word" ["thing", "signs"] cIsWord) (D1 : Dn C "is_window" s_is_window ["thing", "base"]) : FnD C 2 "is_window" ["thing", "base"] cWindow := D1.p2 sc_is_window fun r g hp => by
  have nd : n_is_window.Nodup := sc_is_window.nd
  obtain ⟨ok, rfl⟩ := hp
  have hm := ok.many
  have hp : 0 < (allWords r.g r.n).length := List.length_pos_iff.mpr ok.ne
  have hw : ∀ w ∈ allWords r.g r.n, w.length = r.n := fun w h => allWords_len h
  have n1 := ok.n1
  have n2 := ok.n2
  have g4 := (isSigns_iff.mp ok.g).2.1
  have hz : ∀ w ∈ allWords r.g r.n, w.length ≤ sizeLine := fun w h => sz_of (by rw [hw w h]; omega)
  refine ws_cons (SB.ite (sb_bool (sw_or (sb_not (sb_val (se_isi B.to (se_vr 0 rfl rfl)))) (sw_or1 (sb_not (sb_chain (se_int) (se_b1 B.to (se_vr 0 rfl rfl)) (se_gI rfl G.to.c_MOST_WORDS)))))) ?_ (fun hc => ?_) (fun hc => ?_))
  · simp only [true_and, and_true, implies_true, forall_const]
  · rw [decide_eq_true (show (1 : Int) ≤ ((allWords r.g r.n).length : Int) by omega), decide_eq_true (show ((allWords r.g r.n).length : Int) ≤ 1024 by omega)] at hc
    cases hc
  refine ws_nil ?_
  refine ws_cons (SB.ite (sb_not (sb_val (se_b1 B.to (se_lc (tt := .nm 2) (.nm (.of nd)) nd (show BlkOk n_is_window (defScope s_is_window) _ [("word", 2)] from ⟨rfl, by decide +kernel, by decide +kernel, by decide +kernel, by decide +kernel⟩) (by decide) (SD.si (se_it (se_vr 0 rfl rfl))) (fun a => se_and (se_isi B.tb (se_vr 2 rfl rfl)) (se_one (se_chain (se_int) (se_b1 B.tb (se_vr 2 rfl rfl)) (se_gI rfl G.tb.c_MOST_WIDTH)))))))) ?_ (fun hc => ?_) (fun hc => ?_))
  · simp only [true_and, and_true, implies_true, forall_const]
    exact ⟨sz_of (by omega), hz⟩
  · rw [List.all_eq_true.mpr fun w h => by rw [hw w h, decide_eq_true (show (1 : Int) ≤ (r.n : Int) by omega), decide_eq_true (show (r.n : Int) ≤ 5 by omega)]; rfl] at hc
    cases hc
  refine ws_nil ?_
  refine ws_cons (w1_setE (i := 3) (.of nd) (se_b1 B.to (se_lc (tt := .nm 2) (.nm (.of nd)) nd (show BlkOk n_is_window (defScope s_is_window) _ [("word", 2)] from ⟨rfl, by decide +kernel, by decide +kernel, by decide +kernel, by decide +kernel⟩) (by decide) (SD.si (se_it (se_vr 0 rfl rfl))) (fun a => se_b1 B.tb (se_vr 2 rfl rfl)))) (.d (.int (r.n : Int))) ?_ ?_ ?_)
  · simp only [true_and, and_true, implies_true, forall_const]
    exact ⟨⟨sz_of (by omega), hz⟩, hp⟩
  · rw [maxOf_all (m := (r.n : Int)) (fun e => by rw [List.map_eq_nil_iff] at e; exact ok.ne e) fun y hy => ?_]
    obtain ⟨w, h, rfl⟩ := List.mem_map.mp hy
    rw [hw w h]
  refine ws_cons (SB.ite (sb_cmp (se_b1 B.to (se_vr 0 rfl rfl)) (se_call2 F_many_words.to (se_vr 1 rfl rfl) (se_vr 3 rfl rfl))) ?_ (fun hc => ?_) (fun hc => ?_))
  · simp only [true_and, and_true, implies_true, forall_const]
    exact ⟨g4, n2⟩
  · rw [allWords_many, decide_eq_true rfl] at hc
    cases hc
  refine ws_nil ?_
  refine w1_retS (C := (C.defC n_is_window (defScope s_is_window) _)) (se_b1 B.to (se_lc (tt := .nm 2) (.nm (.of nd)) nd (show BlkOk n_is_window (defScope s_is_window) _ [("word", 2)] from ⟨rfl, by decide +kernel, by decide +kernel, by decide +kernel, by decide +kernel⟩) (by decide) (SD.si (se_it (se_vr 0 rfl rfl))) (fun a => se_and (se_cmp (se_b1 B.tb (se_vr 2 rfl rfl)) (se_vr 3 rfl rfl)) (se_one (se_call2 F_is_word.tb (se_vr 2 rfl rfl) (se_vr 1 rfl rfl)))))) ?_ ?_
  · simp only [true_and, and_true, implies_true, forall_const]
    exact ⟨sz_of (by omega), fun w h => ⟨hz w h, fun _ => ⟨thing_txt (by rw [hw w h]; omega) (ok.small (mem_allWords.mp h).2), by omega⟩⟩⟩
  · refine congrArg (fun b => XV.d (.bl b)) (List.all_eq_true.mpr fun w h => ?_)
    rw [hw w h, decide_eq_true rfl]
    show isWord w r.g = true
    unfold isWord
    rw [hw w h, decide_eq_true (show (r.n : Int) ≤ 60 by omega), Bool.true_and]
    exact List.all_eq_true.mpr fun c hc => decide_eq_true ((mem_allWords.mp h).2 c hc)
/-! ### the class Rule -/
def cRule (A : Addr) : Con := ⟨Rl, fun r => [.l 0, .d (.txt r.g), .d (.txt r.to), .d (.int r.left), .d (D.dc r.ps)], fun _ => [some (.ins A [] [])], fun r => r.ok, fun r o => o = .ret (.d .non) [some (.ins A ["read_letters", "put_letters", "looks_back", "window_table"] [.d (.txt r.g), .d (.txt r.to), .d (.int r.left), .d (D.dc r.ps)])]⟩
theorem wf_cRule (A : Addr) : (cRule A).Wf := by
  refine ⟨fun a _ x hx => ?_, fun a _ m hm => ?_, fun a o _ ho => by cases ho; exact Nat.le_refl _⟩
  · have hx' : x ∈ [XV.l 0, .d (.txt a.g), .d (.txt a.to), .d (.int a.left), .d (D.dc a.ps)] := hx
    simp only [List.mem_cons, List.not_mem_nil, or_false] at hx'
    rcases hx' with rfl | rfl | rfl | rfl | rfl
    · show 0 < 1; decide
    all_goals trivial
  · have hm' : some m ∈ [some (MO.ins A [] [])] := hm
    simp only [List.mem_cons, Option.some.injEq, List.not_mem_nil, or_false] at hm'
    subst hm'
    exact fun x hx => (List.not_mem_nil hx).elim
theorem signs_thing {l : List Nat} (h : isSigns l = true) : Thing (.txt l) := thing_txt (by have := (isSigns_iff.mp h).2.1; omega) (signs_uni h)
theorem B_Rule_init {A_Rule : Addr} (G_Rule : GC_Rule C A_Rule) (B : Blts C.mg) (G : GK C) (F_is_signs : FnD C 1 "is_signs" ["thing"] cSigns) (F_is_whole : FnD C 1 "is_whole" ["thing"] cWhole) (F_is_window : FnD C 2 "is_window" ["thing", "base"] cWindow) (F_are_letters : FnD C 1 "are_letters" ["some", "base"] cAreLet) : Body C (cRule A_Rule) n_Rule___init__ s_Rule___init__ 2 := fun r ok => by
  have nd : n_Rule___init__.Nodup := sc_Rule___init__.nd
  have ok : Rl.ok r := ok
  have gt := signs_thing ok.g
  have tt := signs_thing ok.to
  have ri : (allWords (Rl.g r) (Rl.n r)).Pairwise (· < ·) := allWords_rise (isSigns_iff.mp ok.g).2.2.2 _
  refine ws_cons (SB.ite (sb_bool (sw_or (sb_not (sb_valC (se_call1 F_is_signs.to (se_vr 1 rfl rfl)))) (sw_or (sb_not (sb_valC (se_call1 F_is_signs.to (se_vr 2 rfl rfl)))) (sw_or (sb_not (sb_valC (se_call1 F_is_whole.to (se_vr 3 rfl rfl)))) (sw_or1 (sb_not (sb_chain (se_neg (se_gI rfl G.to.c_MOST_LEFT)) (se_vr 3 rfl rfl) (se_gI rfl G.to.c_MOST_LEFT)))))))) ?_ (fun hc => ?_) (fun hc => ?_))
  · simp only [true_and, and_true, implies_true, forall_const]
    exact ⟨gt, fun _ => ⟨tt, fun _ => ⟨_, rfl⟩⟩⟩
  · rw [show isSignsD (D.txt (Rl.g r)) = true from ok.g, show isSignsD (D.txt (Rl.to r)) = true from ok.to, decide_eq_true ok.l1, decide_eq_true ok.l2] at hc
    cases hc
  refine ws_nil ?_
  refine ws_cons (SB.ite (sb_bool (sw_or (sb_not (sb_valC (se_call2 F_is_window.to (se_vr 4 rfl rfl) (se_vr 1 rfl rfl)))) (sw_or1 (sb_not (sb_valC (se_call2 F_are_letters.to (se_lvalsT B.to (se_vr 4 rfl rfl)) (se_vr 2 rfl rfl))))))) ?_ (fun hc => ?_) (fun hc => ?_))
  · simp only [true_and, and_true, implies_true, forall_const]
    exact ⟨ok, fun _ => ok⟩
  · cases hc
  refine ws_nil ?_
  refine ws_cons (w1_newFld G_Rule.to.k G_Rule.to.n_read_letters (SE.go (se_vr 1 rfl rfl) ?_ (SE.go (se_vr 0 rfl rfl) ?_ ?_)))
  · trivial
  · trivial
  refine ⟨0, [], [], rfl, rfl, (by simp), (by simp), ?_⟩
  refine ws_cons (w1_newFld G_Rule.to.k G_Rule.to.n_put_letters (SE.go (se_vr 2 rfl rfl) ?_ (SE.go (se_vr 0 rfl rfl) ?_ ?_)))
  · trivial
  · trivial
  refine ⟨0, _, _, rfl, rfl, (by decide), (by decide), ?_⟩
  refine ws_cons (w1_newFld G_Rule.to.k G_Rule.to.n_looks_back (SE.go (se_vr 3 rfl rfl) ?_ (SE.go (se_vr 0 rfl rfl) ?_ ?_)))
  · trivial
  · trivial
  refine ⟨0, _, _, rfl, rfl, (by decide), (by decide), ?_⟩
  refine ws_cons (w1_newFld G_Rule.to.k G_Rule.to.n_window_table (SE.go (se_dc (tt := .nm 5) (.nm (.of nd)) nd (show BlkOk n_Rule___init__ (defScope s_Rule___init__) _ [("word", 5)] from ⟨rfl, by decide +kernel, by decide +kernel, by decide +kernel, by decide +kernel⟩) (by decide) (SD.si (se_it (se_b1 B.to (se_vr 4 rfl rfl)))) (fun a => se_vr 5 rfl rfl) (fun a => se_dget (se_vr 4 rfl rfl) (se_vr 5 rfl rfl))) ?_ (SE.go (se_vr 0 rfl rfl) ?_ ?_)))
  · simp only [true_and, and_true, implies_true, forall_const]
    exact ⟨ri, sz_of (by have := ok.many; omega), keys_nd ri, fun w hw => vz_some hw⟩
  · trivial
  refine ⟨0, _, _, rfl, rfl, (by decide), (by decide), ?_⟩
  rw [tab_same]
  refine ws_nil ⟨_, rfl, ⟨[], by simp [cRule]⟩, trivial, fun m hm => ?_⟩
  simp only [List.mem_cons, Option.some.injEq, List.not_mem_nil, or_false] at hm
  subst hm
  intro x hx
  simp only [List.mem_cons, List.not_mem_nil, or_false] at hx
  rcases hx with rfl | rfl | rfl | rfl <;> trivial
theorem F_Rule_width {A_Rule : Addr} (G_Rule : GC_Rule C A_Rule) (B : Blts C.mg) (D1 : Mn C A_Rule "width" "Rule.width" s_Rule_width ["self"]) : MtD C 1 A_Rule "width" ["self"] (cP1 (fun r : Rl => ruleD A_Rule r) (fun r => r.ok) fun r => .int (r.n : Int)) := D1.p1 G_Rule.k sc_Rule_width fun r ok => by
  have nd : n_Rule_width.Nodup := sc_Rule_width.nd
  have hp : 0 < (allWords r.g r.n).length := List.length_pos_iff.mpr ok.ne
  have hi : inB (allWords r.g r.n).length 0 := ⟨by omega, by omega⟩
  have hl := allWords_len (atX_mem (xs := allWords r.g r.n) hi)
  have n2 := ok.n2
  refine w1_retS (C := (C.defC n_Rule_width (defScope s_Rule_width) _)) (se_b1 B.to (se_ix (se_b1 B.to (se_fld G_Rule.to.k G_Rule.to.n_window_table (se_vr 0 rfl rfl) rfl)) (se_int))) ?_ ?_
  · simp only [true_and, and_true, implies_true, forall_const]
    exact ⟨hi, sz_of (by rw [hl]; omega)⟩
  · show XV.d (.int _) = XV.d (.int _)
    rw [hl]
theorem F_Rule_signs {A_Rule : Addr} (G_Rule : GC_Rule C A_Rule) (D1 : Mn C A_Rule "signs" "Rule.signs" s_Rule_signs ["self"]) : MtD C 1 A_Rule "signs" ["self"] (cP1 (fun r : Rl => ruleD A_Rule r) (fun r => r.ok) fun r => .txt r.g) := D1.p1 G_Rule.k sc_Rule_signs fun r ok => by
  have nd : n_Rule_signs.Nodup := sc_Rule_signs.nd
  refine w1_retS (C := (C.defC n_Rule_signs (defScope s_Rule_signs) _)) (se_fld G_Rule.to.k G_Rule.to.n_read_letters (se_vr 0 rfl rfl) rfl) ?_ ?_
  · trivial
  · rfl
abbrev cPut (A : Addr) : Con := cP2 (fun r : Rl => ruleD A r) D.txt (fun r l => r.ok ∧ l.length ≤ 4000 ∧ ∀ c ∈ l, c ∈ r.g) fun r l => .txt (along r l)
theorem F_put_along {A_Rule : Addr} (G_Rule : GC_Rule C A_Rule) (B : Blts C.mg) (M_Rule_width : MtD C 1 A_Rule "width" ["self"] (cP1 (fun r : Rl => ruleD A_Rule r) (fun r => r.ok) fun r => .int (r.n : Int))) (D1 : Dn C "put_along" s_put_along ["rule", "text"]) : FnD C 2 "put_along" ["rule", "text"] (cPut A_Rule) := D1.p2 sc_put_along fun r l hp => by
  have nd : n_put_along.Nodup := sc_put_along.nd
  obtain ⟨ok, hl, hg⟩ := hp
  have n1 := ok.n1
  have n2 := ok.n2
  have hr : ((l.length : Int) - (r.n : Int) + 1).toNat = l.length + 1 - r.n := by omega
  have hw : ∀ a, a ∈ List.range (l.length + 1 - r.n) → cut l (some (a : Int)) (some ((a : Int) + (r.n : Int))) = (l.drop a).take r.n ∧ (l.drop a).take r.n ∈ allWords r.g r.n := fun a ha => by
    have := List.mem_range.mp ha
    exact ⟨cut_mid (by omega), wins_mem hg (List.mem_map.mpr ⟨a, ha, rfl⟩)⟩
  have hz : ∀ a, a ∈ List.range (l.length + 1 - r.n) → zK r.ps (.inr (SX.S (cut l (some (a : Int)) (some ((a : Int) + (r.n : Int)))))) = D.txt [r.f ((l.drop a).take r.n)] := fun a ha => by
    rw [(hw a ha).1]
    exact zK_tab (hw a ha).2
  refine ws_cons (w1_tupC (tt := .tp [2, 3]) (.tp (.cons (.of nd) (.cons (.of nd) .nil))) (se_tup (sa_cs (se_fld G_Rule.to.k G_Rule.to.n_window_table (se_vr 0 rfl rfl) rfl) (sa_cs (se_meth0 M_Rule_width.to (se_vr 0 rfl rfl) ) (sa_nl)))) ?_ ?_)
  · simp only [true_and, and_true, implies_true, forall_const]
    exact ok
  refine w1_retS (C := (C.defC n_put_along (defScope s_put_along) _)) (se_join (se_txt (l := []) rfl) (se_lc (tt := .nm 4) (.nm (.of nd)) nd (show BlkOk n_put_along (defScope s_put_along) _ [("at", 4)] from ⟨rfl, by decide +kernel, by decide +kernel, by decide +kernel, by decide +kernel⟩) (by decide) (SD.si (si_rng1 B.to (se_bin (se_bin (se_b1 B.to (se_vr 1 rfl rfl)) (se_vr 3 rfl rfl)) (se_int)))) (fun a => se_dget (se_vr 2 rfl rfl) (se_sl (se_vr 1 rfl rfl) (so_some (se_vr 4 rfl rfl)) (so_some (se_bin (se_vr 4 rfl rfl) (se_vr 3 rfl rfl))))))) ?_ ?_
  · simp only [true_and, and_true, implies_true, forall_const]
    rw [hr]
    refine ⟨⟨⟨sz_of (by omega), by omega, by omega⟩, sz_of (by rw [List.length_range]; omega), fun a ha => ⟨sz_of (by omega), by rw [(hw a ha).1]; exact vz_some (hw a ha).2⟩⟩, fun a ha => by rw [hz a ha]; rfl, ?_⟩
    rw [List.map_congr_left (g := fun _ => 1) fun a ha => by rw [hz a ha]; rfl]
    have e1 : ∀ l : List Nat, (l.map fun _ => 1).sum = l.length := fun l => by
      induction l with
      | nil => rfl
      | cons x l ih => rw [List.map_cons, List.sum_cons, ih, List.length_cons]; omega
    rw [e1, List.length_range, List.length_nil, Nat.mul_zero]
    omega
  · rw [hr, List.map_congr_left (g := fun a => [r.f ((l.drop a).take r.n)]) fun a ha => by rw [hz a ha]; rfl]
    show XV.d (.txt _) = XV.d (.txt _)
    have e : ((List.range (l.length + 1 - r.n)).map fun a => [r.f ((l.drop a).take r.n)]) = (along r l).map fun c => [c] := by
      unfold along wins
      rw [List.map_map, List.map_map]
      rfl
    rw [e, joinL_ones]
end
end DL
set_option maxRecDepth 100000
set_option maxHeartbeats 4000000
set_option pp.maxSteps 600
namespace DL
open PySem L2 PySem.Spec PyProof.Rows
abbrev s__law_told : Stmt := top 32
def n__law_told : List Str := ["_law_maker", "_law_line", "_law_found", "e", "_law_others"]
theorem sc__law_told : FnScope n__law_told ["_law_maker", "_law_line"] (defScope s__law_told) := ⟨rfl, rfl, rfl, by decide +kernel, rfl, by decide +kernel, by decide +kernel⟩
section
variable {C : SC}
/-! ### what is put along a word, or the first letter that isn't read -/
def bad (g l : List Nat) : List Nat := (List.range l.length).filter fun i => !decide (atX l (i : Int) ∈ g)
theorem bad_head {g l : List Nat} {i : Nat} (hi : i < l.length) (hb : atX l (i : Int) ∉ g) (hg : ∀ j, j < i → atX l (j : Int) ∈ g) : (bad g l).head? = some i := by
  unfold bad
  rw [List.head?_filter, List.find?_range_eq_some]
  exact ⟨by rw [decide_eq_false hb]; rfl, List.mem_range.mpr hi, fun j hj => by rw [decide_eq_true (hg j hj)]; rfl⟩
theorem bad_nil {g l : List Nat} : bad g l = [] ↔ ∀ c ∈ l, c ∈ g := by
  unfold bad
  rw [List.filter_eq_nil_iff]
  constructor
  · intro h c hc
    obtain ⟨i, hi, e⟩ := List.mem_iff_getElem.mp hc
    have := h i (List.mem_range.mpr hi)
    rw [atX_nat (x := c) (by rw [List.getElem?_eq_getElem hi, e])] at this
    simpa using this
  · intro h i hi
    have hi := List.mem_range.mp hi
    rw [atX_nat (List.getElem?_eq_getElem hi), decide_eq_true (h _ (List.getElem_mem hi))]
    decide
def wordR (r : Rl) : D → List Nat ⊕ Int
  | .txt l => match (bad r.g l).head? with
    | none => .inl (along r l)
    | some i => .inr (i : Int)
  | _ => .inr 0
theorem wordR_other {r : Rl} {d : D} (h : d.isStr = false) : wordR r d = .inr 0 := by
  cases d <;> first | rfl | cases h
theorem wordR_good {r : Rl} {l : List Nat} (h : ∀ c ∈ l, c ∈ r.g) : wordR r (.txt l) = .inl (along r l) := by
  show (match (bad r.g l).head? with | none => Sum.inl (along r l) | some i => Sum.inr (i : Int)) = _
  rw [bad_nil.mpr h]
  rfl
theorem wordR_bad {r : Rl} {l : List Nat} {i : Nat} (h : (bad r.g l).head? = some i) : wordR r (.txt l) = .inr (i : Int) := by
  show (match (bad r.g l).head? with | none => Sum.inl (along r l) | some i => Sum.inr (i : Int)) = _
  rw [h]
def cWordBy (A X : Addr) : Con := ⟨Rl × D, fun a => [.d (ruleD A a.1), .d a.2], fun _ => [], fun a => a.1.ok ∧ Thing a.2, fun a o => match wordR a.1 a.2 with
  | .inl l => o = .ret (.d (.txt l)) []
  | .inr i => o = .exc X [("at", .int i)] []⟩
theorem wf_cWordBy (A X : Addr) : (cWordBy A X).Wf := by
  refine ⟨fun a _ x hx => ?_, fun a _ m hm => (List.not_mem_nil hm).elim, fun a o _ ho => Nat.zero_le _⟩
  have hx' : x ∈ [XV.d (ruleD A a.1), .d a.2] := hx
  simp only [List.mem_cons, List.not_mem_nil, or_false] at hx'
  rcases hx' with rfl | rfl <;> trivial
theorem B_word_by {A_Rule : Addr} (G_Rule : GC_Rule C A_Rule) {A_NoWord : Addr} (G_NoWord : GX_NoWord C A_NoWord) (B : Blts C.mg) (M_Rule_signs : MtD C 1 A_Rule "signs" ["self"] (cP1 (fun r : Rl => ruleD A_Rule r) (fun r => r.ok) fun r => .txt r.g)) (F_put_along : FnD C 2 "put_along" ["rule", "text"] (cPut A_Rule)) : Body C (cWordBy A_Rule A_NoWord) n_word_by s_word_by 2 := fun a hp => by
  have nd : n_word_by.Nodup := sc_word_by.nd
  obtain ⟨r, d⟩ := a
  obtain ⟨ok, hd⟩ := hp
  have ok : r.ok := ok
  have hd : Thing d := hd
  change WS _ _ (startE n_word_by [.d (ruleD A_Rule r), .d d]) [] _ _
  have fx : ∀ {i : Int} {μ2 : Mem}, wordR r d = .inr i → FitsX ((cWordBy A_Rule A_NoWord).out (r, d)) A_NoWord [("at", .int i)] μ2 := fun {i μ2} h => ⟨[], by show (match wordR r d with | .inl l => _ | .inr i => _); rw [h], ⟨μ2, rfl⟩, fun m hm => (List.not_mem_nil hm).elim⟩
  refine ws_cons (SB.ite (sb_not (sb_val (se_isStr B.to (se_vr 1 rfl rfl)))) ?_ (fun hc => ?_) (fun hc => ?_))
  · exact ⟨trivial, hd.1⟩
  · have hs : d.isStr = false := by simpa using hc
    refine ws_cons (w1_raiseI G_NoWord.to.i (by exact Nat.le_of_ble_eq_true rfl) rfl (SA.go (sa_cs (se_int) (sa_nl)) ?_ ⟨_, rfl, ?_⟩))
    · exact ⟨trivial, trivial⟩
    exact fx (wordR_other hs)
  have hs : d.isStr = true := by simpa using hc
  obtain ⟨l, rfl⟩ : ∃ l, d = .txt l := by cases d <;> first | exact ⟨_, rfl⟩ | cases hs
  obtain ⟨h1, h2⟩ := hd.2 l rfl
  refine ws_nil ?_
  refine ws_cons (w1_forS (tt := .tp [2, 3]) (fun i ρ' => ∃ (o2 o3 : Option XV), ρ' = [some (.d (ruleD A_Rule r)), some (.d (.txt l)), o2, o3] ∧ ∀ j, j < i → atX l (j : Int) ∈ r.g) (.tp (.cons (.of nd) (.cons (.of nd) .nil))) (SD.si (si_enum B.to (se_vr 1 rfl rfl))) ?_ ?_ ?_ ?_)
  · trivial
  · exact ⟨none, none, rfl, fun j hj => absurd hj (Nat.not_lt_zero j)⟩
  · rintro i a ρ' hx ⟨o2, o3, rfl, hg⟩
    rw [List.getElem?_zipIdx] at hx
    obtain ⟨c, hc', rfl⟩ := Option.map_eq_some_iff.mp hx
    have hi := (List.getElem?_eq_some_iff.mp hc').1
    have hx := atX_nat hc'
    change WS _ _ ([some (.d (ruleD A_Rule r)), some (.d (.txt l)), some (.d (.int ((0 + i : Nat) : Int))), some (.d (.txt [c]))]) _ _ _
    refine ws_cons (SB.ite (sb_cmp (se_vr 3 rfl rfl) (se_meth0 M_Rule_signs.to (se_vr 0 rfl rfl) )) ?_ (fun hc => ?_) (fun hc => ?_))
    · exact ⟨trivial, ⟨trivial, ok⟩, trivial⟩
    · have hn : atX l (i : Int) ∉ r.g := by rw [hx]; simpa using hc
      refine ws_cons (w1_raiseI G_NoWord.to.i (by exact Nat.le_of_ble_eq_true rfl) rfl (SA.go (sa_cs (se_vr 2 rfl rfl) (sa_nl)) ?_ ⟨_, rfl, ?_⟩))
      · exact ⟨trivial, trivial⟩
      rw [Nat.zero_add]
      exact fx (wordR_bad (bad_head hi hn hg))
    refine ws_nil (ws_nil ⟨rfl, _, _, rfl, fun j hj => ?_⟩)
    rcases Nat.lt_succ_iff_lt_or_eq.mp hj with q | q
    · exact hg j q
    · rw [q, hx]; simpa using hc
  rintro ρ' ⟨o2, o3, rfl, hg⟩
  rw [List.length_zipIdx] at hg
  have all : ∀ c ∈ l, c ∈ r.g := fun c hc => by
    obtain ⟨i, hi, e⟩ := List.mem_iff_getElem.mp hc
    have := hg i hi
    rw [atX_nat (x := c) (by rw [List.getElem?_eq_getElem hi, e])] at this
    exact this
  refine w1_retS (C := (C.defC n_word_by (defScope s_word_by) _)) (se_call2 F_put_along.to (se_vr 0 rfl rfl) (se_vr 1 rfl rfl)) ?_ ?_
  · exact ⟨trivial, trivial, ok, h1, all⟩
  · exact ⟨[], by show (match wordR r (.txt l) with | .inl l => _ | .inr i => _); rw [wordR_good all], ⟨[], rfl⟩, trivial, fun m hm => (List.not_mem_nil hm).elim⟩
abbrev cTold (A : Addr) : Con := cP2 (fun r : Rl => ruleD A r) (fun d : D => d) (fun r d => r.ok ∧ Thing d) fun r d => match wordR r d with | .inl l => .txt l | .inr i => .int i
theorem F_law_told {A_Rule : Addr} (G_Rule : GC_Rule C A_Rule) {A_NoWord : Addr} (G_NoWord : GX_NoWord C A_NoWord) {A_BadRow : Addr} (G_BadRow : GX_BadRow C A_BadRow) {A_NoPair : Addr} (G_NoPair : GX_NoPair C A_NoPair) {A_NoRule : Addr} (G_NoRule : GX_NoRule C A_NoRule) {A_TooWide : Addr} (G_TooWide : GX_TooWide C A_TooWide) {A_WindowError : Addr} (G_WindowError : GX_WindowError C A_WindowError) (K_NoWord_BadRow : PySem.W.kitOne C.K (.ref A_NoWord) (.ref A_BadRow) = some false) (K_NoWord_NoPair : PySem.W.kitOne C.K (.ref A_NoWord) (.ref A_NoPair) = some false) (K_NoWord_NoRule : PySem.W.kitOne C.K (.ref A_NoWord) (.ref A_NoRule) = some false) (K_NoWord_TooWide : PySem.W.kitOne C.K (.ref A_NoWord) (.ref A_TooWide) = some false) (K_NoWord_WindowError : PySem.W.kitOne C.K (.ref A_NoWord) (.ref A_WindowError) = some true) (K_NoWord_ValueError : PySem.W.kitOne C.K (.ref A_NoWord) (.type "ValueError") = some true) (N_ValueError : C.mg "ValueError" = none) (B : Blts C.mg) (F_word_by : FnD C 3 "word_by" ["rule", "word"] (cWordBy A_Rule A_NoWord)) (D1 : Dn C "_law_told" s__law_told ["_law_maker", "_law_line"]) : FnD C 4 "_law_told" ["_law_maker", "_law_line"] (cTold A_Rule) := D1.p2 sc__law_told fun r d hp => by
  have nd : n__law_told.Nodup := sc__law_told.nd
  obtain ⟨ok, hd⟩ := hp
  refine ws_cons (w1_setS (i := 2) (.of nd) (se_non) ?_ ?_)
  · trivial
  refine ws_cons (w1_tryAs (i := 3) rfl nd rfl rfl rfl G_NoWord.to.mg ?_)
  refine ws_cons (w1_set (i := 2) (.of nd) (we_C F_word_by.to (sa_cs (se_vr 0 rfl rfl) (sa_cs (se_vr 1 rfl rfl) (sa_nl))) ?_ ?_))
  · exact ⟨trivial, trivial, trivial⟩
  refine ⟨(r, d), [], ⟨ok, hd⟩, rfl, rfl, fun o ho => ?_⟩
  have ho : (match wordR r d with | .inl l => o = .ret (.d (.txt l)) [] | .inr i => o = .exc A_NoWord [("at", .int i)] []) := ho
  cases hw : wordR r d with
  | inl l =>
    rw [hw] at ho
    subst ho
    refine .inl ⟨.inr rfl, ws_nil ?_⟩
    refine w1_retS (C := (C.defC n__law_told (defScope s__law_told) _)) (se_vr 2 rfl rfl) ?_ ?_
    · trivial
    · rfl
  | inr i =>
    rw [hw] at ho
    subst ho
    refine .inl ⟨.inr rfl, true, G_NoWord.x, fun _ => ?_, fun z => nomatch z⟩
    refine ws_cons (w1_setS (i := 4) (.of nd) (se_lst (sa_cs (se_isE B.th (se_vr 3 rfl rfl) G_BadRow.th.mg G_NoWord.th.c K_NoWord_BadRow) (sa_cs (se_isE B.th (se_vr 3 rfl rfl) G_NoPair.th.mg G_NoWord.th.c K_NoWord_NoPair) (sa_cs (se_isE B.th (se_vr 3 rfl rfl) G_NoRule.th.mg G_NoWord.th.c K_NoWord_NoRule) (sa_cs (se_isE B.th (se_vr 3 rfl rfl) G_TooWide.th.mg G_NoWord.th.c K_NoWord_TooWide) (sa_nl)))))) ?_ ?_)
    · simp only [true_and, and_true, implies_true, forall_const]
    have k1 : (D.bl true).okEq := ⟨rfl, by decide⟩
    have k2 : (D.lst [.bl false, .bl false, .bl false, .bl false]).okEq := ⟨rfl, by decide⟩
    refine w1_retS (C := (C.defC n__law_told (defScope s__law_told) _).hot) (se_ite (sb_bool (sw_and (sb_cmp (se_bl) (se_vr 4 rfl rfl)) (sw_and (sb_val (se_isE B.th (se_vr 3 rfl rfl) G_WindowError.th.mg G_NoWord.th.c K_NoWord_WindowError)) (sw_and1 (sb_val (se_isEB (T' := "ValueError") B.th (se_vr 3 rfl rfl) N_ValueError (by decide +kernel) G_NoWord.th.c K_NoWord_ValueError)))))) (se_fldE (se_vr 3 rfl rfl) G_NoWord.th.xf G_NoWord.th.na) (se_txt (l := [111, 116, 104, 101, 114]) rfl)) ?_ ?_
    · exact ⟨⟨⟨trivial, trivial, k1, k2⟩, fun _ => ⟨trivial, fun _ => trivial⟩⟩, fun _ => trivial, fun _ => trivial⟩
    · rfl
end
end DL
set_option maxRecDepth 100000
set_option maxHeartbeats 4000000
set_option pp.maxSteps 600
namespace DL
open PySem L2 PySem.Spec PyProof.Rows
abbrev s__law_state : Stmt := top 25
def n__law_state : List Str := ["_law_script", "_law_cells", "_law_cell"]
theorem sc__law_state : FnScope n__law_state ["_law_script"] (defScope s__law_state) := ⟨rfl, rfl, rfl, by decide +kernel, rfl, by decide +kernel, by decide +kernel⟩
abbrev s__law_draw : Stmt := top 26
def n__law_draw : List Str := ["_law_state_here", "_law_many", "_law_cells", "_law_at", "_law_cell"]
theorem sc__law_draw : FnScope n__law_draw ["_law_state_here", "_law_many"] (defScope s__law_draw) := ⟨rfl, rfl, rfl, by decide +kernel, rfl, by decide +kernel, by decide +kernel⟩
abbrev s__law_letters : Stmt := top 27
def n__law_letters : List Str := ["_law_state_here", "_law_least", "_law_most", "_law_pool", "_law_some", "_law_k"]
theorem sc__law_letters : FnScope n__law_letters ["_law_state_here", "_law_least", "_law_most"] (defScope s__law_letters) := ⟨rfl, rfl, rfl, by decide +kernel, rfl, by decide +kernel, by decide +kernel⟩
abbrev s__law_words : Stmt := top 28
def n__law_words : List Str := ["_law_base", "_law_size_here", "_law_some", "_law_k", "_law_longer", "_law_line", "_law_letter"]
theorem sc__law_words : FnScope n__law_words ["_law_base", "_law_size_here"] (defScope s__law_words) := ⟨rfl, rfl, rfl, by decide +kernel, rfl, by decide +kernel, by decide +kernel⟩
abbrev s__law_window : Stmt := top 29
def n__law_window : List Str := ["_law_state_here", "_law_base", "_law_goal", "_law_size_here", "_law_way", "_law_at", "_law_some", "_law_line", "_law_letter"]
theorem sc__law_window : FnScope n__law_window ["_law_state_here", "_law_base", "_law_goal", "_law_size_here"] (defScope s__law_window) := ⟨rfl, rfl, rfl, by decide +kernel, rfl, by decide +kernel, by decide +kernel⟩
abbrev s__law_size : Stmt := top 30
def n__law_size : List Str := ["_law_state_here", "_law_base", "_law_most", "_law_size_here"]
theorem sc__law_size : FnScope n__law_size ["_law_state_here", "_law_base", "_law_most"] (defScope s__law_size) := ⟨rfl, rfl, rfl, by decide +kernel, rfl, by decide +kernel, by decide +kernel⟩
abbrev s__law_word : Stmt := top 31
def n__law_word : List Str := ["_law_state_here", "_law_base", "_law_least", "_law_most", "_law_k"]
theorem sc__law_word : FnScope n__law_word ["_law_state_here", "_law_base", "_law_least", "_law_most"] (defScope s__law_word) := ⟨rfl, rfl, rfl, by decide +kernel, rfl, by decide +kernel, by decide +kernel⟩
section
variable {C : SC}
/-! ### the law's store -/
theorem erase_perm {α : Type} {l : List α} {i : Nat} {x : α} (h : l[i]? = some x) : l.Perm (x :: l.eraseIdx i) := by
  induction l generalizing i with
  | nil => cases h
  | cons y l ih =>
    cases i with
    | zero => cases h; exact List.Perm.refl _
    | succ i => exact ((ih (i := i) (by simpa using h)).cons y).trans (List.Perm.swap _ _ _)
theorem map_erase {α β : Type} (f : α → β) : ∀ (l : List α) (i : Nat), (l.map f).eraseIdx i = (l.eraseIdx i).map f
  | [], _ => rfl
  | _ :: _, 0 => rfl
  | x :: l, i + 1 => by show f x :: (l.map f).eraseIdx i = f x :: (l.eraseIdx i).map f; rw [map_erase f l i]
theorem small_nd : small.Nodup := by decide
theorem F_law_draw (B : Blts C.mg) (D1 : Dn C "_law_draw" s__law_draw ["_law_state_here", "_law_many"]) : FnD C 1 "_law_draw" ["_law_state_here", "_law_many"] cDraw := by
  have nd : n__law_draw.Nodup := sc__law_draw.nd
  refine D1.fnd sc__law_draw wf_cSt (fun _ _ => rfl) fun a hp => ?_
  obtain ⟨S, n⟩ := a
  obtain ⟨hS, h6, h7⟩ := hp
  have hS : S.ok := hS
  obtain ⟨h1, h1b, h2, h3, h4, h5⟩ := id hS
  have h6 : 0 < n := h6
  have h7 : n ≤ 1000000000 := h7
  have lc : 0 < S.cells.length := List.length_pos_iff.mpr h1
  have m1 := Int.emod_nonneg S.at_ (by omega : (S.cells.length : Int) ≠ 0)
  have m2 := Int.emod_lt_of_pos S.at_ (by omega : (0 : Int) < S.cells.length)
  generalize hsp : S.at_ % (S.cells.length : Int) = sp at m1 m2
  generalize hcl : S.cells.getD sp.toNat 0 = cl
  have hcl0 : 0 ≤ cl := by
    rw [← hcl, List.getD_eq_getElem?_getD, List.getElem?_eq_getElem (by omega)]
    exact h2 _ (List.getElem_mem _)
  have at0 : atI (S.cells.map fun i => XV.d (.int i)) sp = some (.d (.int cl)) := by
    rw [atI_in m1 (by rw [List.length_map]; exact m2) (.d (.int 0)), ← hcl, List.getD_eq_getElem?_getD, List.getElem?_map, List.getD_eq_getElem?_getD]
    cases S.cells[sp.toNat]? <;> rfl
  change WS _ _ (startE _ [.l 1, .d (.int n)]) S.mem _ _
  refine ws_cons (w1_set (i := 2) (.of nd) (PV.go (p_ixC (m := 1) (p_vr 0 rfl rfl) rfl p_int rfl) ?_))
  refine ws_cons (w1_set (i := 3) (.of nd) (PV.go (p_modI (p_ixC (m := 1) (p_vr 0 rfl rfl) rfl p_int rfl) (p_lenC (m := 0) B.len rfl (p_vr 2 rfl rfl) rfl) (by rw [List.length_map]; omega)) ?_))
  rw [List.length_map, hsp]
  refine ws_cons (w1_set (i := 4) (.of nd) (PV.go (p_ixC (m := 0) (p_vr 2 rfl rfl) rfl (p_vr 3 rfl rfl) at0) ?_))
  refine ws_cons (PB.ite (b_cmp (p_vr 4 rfl rfl) p_int o_ge) (fun hc => ?_) (fun hc => ?_))
  · refine ws_cons (w1_setIx (PV.go (p_fdivI (p_vr 4 rfl rfl) (p_vr 1 rfl rfl) ⟨h6, by omega⟩) (PV.go (p_vr 2 rfl rfl) (PV.go (p_vr 3 rfl rfl) ⟨0, _, sp, sp.toNat, rfl, rfl, rfl, ?_, ?_⟩))))
    · unfold ixN; rw [if_pos m1, if_pos (by rw [List.length_map]; exact m2)]
    · refine w1_retQ (p_modI (p_vr 4 rfl rfl) (p_vr 1 rfl rfl) h6) ?_
      have r1 := Int.emod_nonneg cl (by omega : n ≠ 0)
      have r2 := Int.emod_lt_of_pos cl h6
      exact draw_big hS hsp m1 m2 hcl0 h6 r1 r2
  · refine ws_nil ?_
    have q1 := Int.emod_nonneg (S.mix * 48271 + cl + 12345) (by decide : (2147483647 : Int) ≠ 0)
    have q2 := Int.emod_lt_of_pos (S.mix * 48271 + cl + 12345) (by decide : (0 : Int) < 2147483647)
    refine ws_cons (w1_setIx (PV.go (p_addI (p_ixC (m := 1) (p_vr 0 rfl rfl) rfl p_int rfl) p_int) (PV.go (p_vr 0 rfl rfl) (PV.go p_int ⟨1, _, 1, 1, rfl, rfl, rfl, rfl, ?_⟩))))
    refine ws_cons (w1_setIx (PV.go (p_modI (p_addI (p_addI (p_mulI (i := S.mix) (k := 48271) (p_ixC (m := 1) (p_vr 0 rfl rfl) rfl p_int rfl) p_int (cmul_s (by omega) (by omega))) (p_vr 4 rfl rfl)) p_int) p_int (by decide)) (PV.go (p_vr 0 rfl rfl) (PV.go p_int ⟨1, _, 2, 2, rfl, rfl, rfl, rfl, ?_⟩))))
    generalize hm : (S.mix * 48271 + cl + 12345) % 2147483647 = mx at *
    have e1 := Int.emod_nonneg (mx * mx) (by decide : (2147483629 : Int) ≠ 0)
    have r1 := Int.emod_nonneg (mx * mx % 2147483629 / 16) (by omega : n ≠ 0)
    have r2 := Int.emod_lt_of_pos (mx * mx % 2147483629 / 16) h6
    refine w1_retQ (p_modI (p_fdivI (p_modI (p_mulI (i := mx) (k := mx) (p_ixC (m := 1) (p_vr 0 rfl rfl) rfl p_int rfl) (p_ixC (m := 1) (p_vr 0 rfl rfl) rfl p_int rfl) (cmul_s (by omega) (by omega))) p_int (by decide)) p_int ⟨by decide, by decide⟩) (p_vr 1 rfl rfl) h6) ?_
    exact draw_mix hS q1 q2 r1 r2
theorem F_law_state (B : Blts C.mg) (D1 : Dn C "_law_state" s__law_state ["_law_script"]) : FnD C 3 "_law_state" ["_law_script"] cBegun := by
  have nd : n__law_state.Nodup := sc__law_state.nd
  refine D1.fnd sc__law_state wf_cBegun (fun _ _ => rfl) fun (ns : List Int) hl => ?_
  have hl : ns.length ≤ 63 := hl
  have hcut : cut ns none (some 63) = ns := by rw [cut_to (by decide)]; exact List.take_of_length_le hl
  change WS _ _ (startE n__law_state [.d (.scr ns)]) [] _ _
  have fit : ∀ (l : List Int) (μ2 : Mem), l ≠ [] → l.length ≤ 63 → (∀ i ∈ l, 0 ≤ i) → μ2 = DS.mem ⟨l, 0, 1⟩ → Fits (cBegun.out ns) (.l 1) μ2 := fun l μ2 h1 h2 h3 e => ⟨DS.mem ⟨l, 0, 1⟩, ⟨⟨l, 0, 1⟩, ⟨h1, by show l.length ≤ 64; omega, h3, Int.le_refl 0, (by decide : (0 : Int) ≤ 1), (by decide : (1 : Int) < 2147483647)⟩, rfl⟩, ⟨[], by rw [e, List.append_nil]⟩, by show 1 < 2; decide, DS.mem_below _⟩
  by_cases hn : ns = []
  · subst hn
    refine ws_cons (w1_lc (i := 1) (nm := .of nd) rfl (tt := .nm 2) (.nm (.of nd)) (show BlkOk n__law_state (defScope s__law_state) _ [("_law_cell", 2)] from ⟨rfl, by decide +kernel, by decide +kernel, by decide +kernel, by decide +kernel⟩) (by decide) (SD.si (se_it (se_sl (se_vr 0 rfl rfl) so_none (so_some (se_int))))) (fun a => se_b1 B.tb (se_vr 2 rfl rfl)) rfl rfl (by decide +kernel) ?_ ?_)
    · simp only [true_and, and_true, implies_true, forall_const]
      rw [hcut]
      exact Nat.zero_le _
    refine ws_cons (SB.ite (sb_cmp (se_b1 B.to (se_vr 1 rfl rfl)) (se_int)) ?_ (fun hc => ?_) (fun hc => ?_))
    · simp only [true_and, and_true, implies_true, forall_const]
    · refine ws_cons (w1_set (i := 1) (.of nd) (we_lstC (SA.go (sa_cs (se_int) (sa_nl)) ?_ ⟨by decide, ?_⟩)))
      · simp only [true_and, and_true, implies_true, forall_const]
      refine ws_nil ?_
      refine w1_retW (C := (C.defC n__law_state (defScope s__law_state) _)) (we_lstC (SA.go (sa_cs (se_vr 1 rfl rfl) (sa_cs (se_int) (sa_cs (se_int) (sa_nl)))) ?_ ⟨by decide, ?_⟩))
      · simp only [true_and, and_true, implies_true, forall_const]
      exact fit [5] _ (by decide) (by decide) (by decide) rfl
    · cases hc
  · refine ws_cons (w1_lcC (i := 1) (nm := .of nd) rfl (tt := .nm 2) (.nm (.of nd)) (show BlkOk n__law_state (defScope s__law_state) _ [("_law_cell", 2)] from ⟨rfl, by decide +kernel, by decide +kernel, by decide +kernel, by decide +kernel⟩) (by decide) (SD.si (se_it (se_sl (se_vr 0 rfl rfl) so_none (so_some (se_int))))) (fun a => se_b1 B.tb (se_vr 2 rfl rfl)) rfl rfl (by decide +kernel) ?_ ?_)
    · simp only [true_and, and_true, implies_true, forall_const]
      exact sz_of (by rw [hcut]; omega)
    refine ws_cons (SB.ite (sb_cmp (se_lenC B.to (se_vr 1 rfl rfl) rfl) (se_int)) ?_ (fun hc => ?_) (fun hc => ?_))
    · simp only [true_and, and_true, implies_true, forall_const]
    · have h0 := of_decide_eq_true hc
      rw [hcut, List.length_map, List.length_map] at h0
      exact absurd (List.length_eq_zero_iff.mp (by omega)) hn
    refine ws_nil ?_
    refine w1_retW (C := (C.defC n__law_state (defScope s__law_state) _)) (we_lstC (SA.go (sa_cs (se_vr 1 rfl rfl) (sa_cs (se_int) (sa_cs (se_int) (sa_nl)))) ?_ ⟨by decide, ?_⟩))
    · simp only [true_and, and_true, implies_true, forall_const]
    refine fit (ns.map fun c => if c < 0 then -c else c) _ (by simpa using hn) (by rw [List.length_map]; exact hl) (fun i hi => by obtain ⟨c, _, rfl⟩ := List.mem_map.mp hi; split <;> omega) ?_
    rw [hcut]
    unfold DS.mem
    simp only [List.map_map]
    rfl
abbrev cWords : Con := cP2 D.txt (fun n : Nat => D.int n) (fun g n => g.length ≤ 4 ∧ n ≤ 5) fun g n => .lst ((allWords g n).map D.txt)
theorem F_law_words (B : Blts C.mg) (D1 : Dn C "_law_words" s__law_words ["_law_base", "_law_size_here"]) : FnD C 1 "_law_words" ["_law_base", "_law_size_here"] cWords := D1.p2 sc__law_words fun g n hp => by
  have nd : n__law_words.Nodup := sc__law_words.nd
  obtain ⟨h1, h2⟩ := hp
  refine ws_cons (w1_setS (i := 2) (.of nd) (se_lst (sa_cs (se_txt (l := []) rfl) (sa_nl))) ?_ ?_)
  · simp only [true_and, and_true, implies_true, forall_const]
  refine ws_cons (w1_forS (tt := .nm 3) (fun i ρ' => ∃ (o3 o4 o5 o6 : Option XV), ρ' = [some (.d (.txt g)), some (.d (.int (n : Int))), some (.d (.lst ((allWords g i).map D.txt))), o3, o4, o5, o6]) (.nm (.of nd)) (SD.si (si_rng1 B.to (se_vr 1 rfl rfl))) ?_ ?_ ?_ ?_)
  · exact ⟨trivial, by omega, by omega⟩
  · exact ⟨none, none, none, none, rfl⟩
  · rintro i a ρ' hx ⟨o3, o4, o5, o6, rfl⟩
    have hi : i < n := by have := (List.getElem?_eq_some_iff.mp hx).1; rw [List.length_range] at this; omega
    change WS _ _ ([some (.d (.txt g)), some (.d (.int (n : Int))), some (.d (.lst ((allWords g i).map D.txt))), some (.d (.int (a : Int))), o4, o5, o6]) _ _ _
    refine ws_cons (w1_setS (i := 4) (.of nd) (se_lst (sa_nl)) ?_ ?_)
    · simp only [true_and, and_true, implies_true, forall_const]
    have full : ∀ k, (((allWords g i).take k).flatMap fun w => g.map fun c => w ++ [c]).length ≤ 1024 := fun k => by
      have e : ((allWords g i).flatMap fun w => g.map fun c => w ++ [c]) = (((allWords g i).take k).flatMap fun w => g.map fun c => w ++ [c]) ++ (((allWords g i).drop k).flatMap fun w => g.map fun c => w ++ [c]) := by rw [← List.flatMap_append, List.take_append_drop]
      have l1 : ((allWords g i).flatMap fun w => g.map fun c => w ++ [c]).length = g.length ^ (i + 1) := allWords_many (n := i + 1)
      have l2 := pow_le h1 (show i + 1 ≤ 5 by omega)
      rw [e, List.length_append] at l1
      omega
    refine ws_cons (w1_forS (tt := .nm 5) (fun j ρ' => ∃ (o5 o6 : Option XV), ρ' = [some (.d (.txt g)), some (.d (.int (n : Int))), some (.d (.lst ((allWords g i).map D.txt))), some (.d (.int (a : Int))), some (.d (.lst ((((allWords g i).take j).flatMap fun w => g.map fun c => w ++ [c]).map D.txt))), o5, o6]) (.nm (.of nd)) (SD.si (se_it (se_vr 2 rfl rfl))) ?_ ?_ ?_ ?_)
    · trivial
    · exact ⟨_, _, rfl⟩
    · rintro j w ρ' hx ⟨o5, o6, rfl⟩
      change WS _ _ ([some (.d (.txt g)), some (.d (.int (n : Int))), some (.d (.lst ((allWords g i).map D.txt))), some (.d (.int (a : Int))), some (.d (.lst ((((allWords g i).take j).flatMap fun w => g.map fun c => w ++ [c]).map D.txt))), some (.d (.txt w)), o6]) _ _ _
      have hw := allWords_len (List.mem_of_getElem? hx)
      have e : (((allWords g i).take (j + 1)).flatMap fun w => g.map fun c => w ++ [c]) = (((allWords g i).take j).flatMap fun w => g.map fun c => w ++ [c]) ++ g.map fun c => w ++ [c] := by
        rw [List.take_succ, hx, List.flatMap_append]
        simp
      have f1 := full (j + 1)
      rw [e, List.length_append] at f1
      refine ws_cons (w1_setE (i := 4) (.of nd) (se_bin (se_vr 4 rfl rfl) (se_lc (tt := .nm 6) (.nm (.of nd)) nd (show BlkOk n__law_words (defScope s__law_words) _ [("_law_letter", 6)] from ⟨rfl, by decide +kernel, by decide +kernel, by decide +kernel, by decide +kernel⟩) (by decide) (SD.si (se_it (se_vr 0 rfl rfl))) (fun a => se_bin (se_vr 5 rfl rfl) (se_vr 6 rfl rfl)))) (.d (.lst ((((allWords g i).take (j + 1)).flatMap fun w => g.map fun c => w ++ [c]).map D.txt))) ?_ ?_ ?_)
      · simp only [true_and, and_true, implies_true, forall_const]
        rw [List.length_map] at *
        exact ⟨⟨sz_of (by omega), fun c _ => sz_of (by rw [hw]; simp; omega)⟩, sz_of (by rw [List.length_map]; omega)⟩
      · rw [e, List.map_append, List.map_map]
        rfl
      exact ws_nil ⟨rfl, _, _, rfl⟩
    rintro ρ' ⟨o5, o6, rfl⟩
    refine ws_cons (w1_setS (i := 2) (.of nd) (se_vr 4 rfl rfl) ?_ ?_)
    · trivial
    refine ws_nil ⟨rfl, some (.d (.int (a : Int))), some (.d (.lst ((((allWords g i).take (allWords g i).length).flatMap fun w => g.map fun c => w ++ [c]).map D.txt))), o5, o6, ?_⟩
    rw [List.take_length]
    rfl
  rintro ρ' ⟨o3, o4, o5, o6, rfl⟩
  refine w1_retS (C := (C.defC n__law_words (defScope s__law_words) _)) (se_vr 2 rfl rfl) ?_ ?_
  · trivial
  · rw [List.length_range]
    rfl
abbrev cLetters : Con := cSt (Int × Int) (fun a => [.int a.1, .int a.2]) (fun a => 1 ≤ a.1 ∧ a.1 ≤ a.2 ∧ a.2 ≤ 4) fun _ d => ∃ l, d = .txt l ∧ isSigns l = true
theorem F_law_letters (B : Blts C.mg) (F__law_draw : FnD C 1 "_law_draw" ["_law_state_here", "_law_many"] cDraw) (D1 : Dn C "_law_letters" s__law_letters ["_law_state_here", "_law_least", "_law_most"]) : FnD C 2 "_law_letters" ["_law_state_here", "_law_least", "_law_most"] cLetters := D1.sto sc__law_letters (fun _ _ => rfl) fun S a hS hp => by
  have nd : n__law_letters.Nodup := sc__law_letters.nd
  obtain ⟨lo, hi⟩ := a
  obtain ⟨p1, p2, p3⟩ := hp
  have p1 : 1 ≤ lo := p1
  have p2 : lo ≤ hi := p2
  have p3 : hi ≤ 4 := p3
  refine ws_cons (w1_set (i := 3) (.of nd) (we_listTC B.to rfl (PV.go (p_txt (l := small) rfl) ⟨small, rfl, by decide, ?_⟩)))
  rw [List.append_nil]
  change WS _ _ [some (.l 1), some (.d (.int lo)), some (.d (.int hi)), some (.l 2), none, none] (S.mem ++ [some (.lst (small.map fun c => XV.d (sgD c)))]) _ _
  refine ws_cons (w1_setLc (i := 4) (.of nd) rfl (t := .nm 5) (.nm (.of nd)) (show BlkOk n__law_letters (defScope s__law_letters) _ [("_law_k", 5)] from ⟨rfl, by decide +kernel, by decide +kernel, by decide +kernel, by decide +kernel⟩) (by decide) (wi_range1 rfl B.range (we_bin (SE.go (se_vr 1 rfl rfl) ?_ (we_C F__law_draw.to (sa_cs (se_vr 0 rfl rfl) (sa_cs (se_bin (se_bin (se_vr 2 rfl rfl) (se_vr 1 rfl rfl)) (se_int)) (sa_nl))) ?_ ?_)))) rfl rfl (by decide +kernel))
  · trivial
  · simp only [true_and, and_true, implies_true, forall_const]
  refine calls_draw hS ⟨by omega, by omega⟩ fun r S hS r1 r2 => go_add_int ⟨lo + r, rfl, by omega, by omega, lcI_rng (fun i acc μ' => ∃ (S : DS) (left here : List Nat), μ' = S.mem ++ [some (.lst (left.map fun c => XV.d (sgD c)))] ∧ S.ok ∧ acc = here.map sgD ∧ small.Perm (here ++ left) ∧ here.length = i) (sz_of (by omega)) ⟨S, small, [], rfl, hS, rfl, List.Perm.refl _, rfl⟩ ?_ ?_⟩
  · rintro i acc μ2 hii ⟨S, bs, cs, hμ, hS, ha, hpm, hl⟩
    rw [hμ, ha]
    have l26 : cs.length + bs.length = 26 := by rw [← List.length_append, ← hpm.length_eq]; rfl
    refine we_popAt (SE.go (se_vr 3 rfl rfl) ?_ ⟨_, rfl, ⟨_, rfl⟩, we_C F__law_draw.tb (sa_cs (se_vr 0 rfl rfl) (sa_cs (se_lenC B.tb (se_vr 3 rfl rfl) rfl) (sa_nl))) ?_ ?_⟩)
    · trivial
    · simp only [true_and, and_true, implies_true, forall_const]
    rw [List.length_map]
    refine calls_draw hS ⟨by omega, by omega⟩ fun q S hS q1 q2 => ?_
    have hq : q.toNat < bs.length := by omega
    obtain ⟨c, hc⟩ : ∃ c, bs[q.toNat]? = some c := ⟨bs[q.toNat], List.getElem?_eq_getElem hq⟩
    refine ⟨_, q, .d (sgD c), rfl, rfl, q1, by omega, by rw [List.getElem?_map, hc]; rfl, ?_⟩
    refine ⟨_, rfl, S, bs.eraseIdx q.toNat, cs ++ [c], ?_, hS, by rw [List.map_append]; rfl, ?_, by rw [List.length_append, hl]; rfl⟩
    · rw [← map_erase]
      rfl
    · refine hpm.trans ?_
      rw [List.append_assoc]
      exact (erase_perm hc).append_left cs
  rintro acc μ2 ⟨S, bs, cs, hμ, hS, ha, hpm, hl⟩
  rw [hμ, ha]
  have nd2 : (cs ++ bs).Nodup := hpm.nodup_iff.mp small_nd
  have ndh : cs.Nodup := (List.nodup_append.mp nd2).1
  have hs : ∀ c ∈ cs, c ∈ small := fun c hc => hpm.mem_iff.mpr (List.mem_append_left _ hc)
  have ok : SortOk (cs.map sgD) := by
    have e2 : cs.map sgD = (cs.map fun c => [c]).map D.txt := by rw [List.map_map]; rfl
    rw [e2]
    exact sortOk_txts fun l hl => by
      obtain ⟨c, hc, rfl⟩ := List.mem_map.mp hl
      exact uni_small fun d hd => by rw [List.mem_singleton.mp hd]; exact hs c hc
  have ll : (riseN cs).length ≤ 4 := by rw [riseN_len_nd ndh]; omega
  refine w1_retS (C := C.defC n__law_letters (defScope s__law_letters) _) (se_join (se_txt (l := []) rfl) (SE.eq (y := .d (.lst ((riseN cs).map fun c => .txt [c]))) (se_b1 B.to (se_vr 4 rfl rfl)) (by rw [sortD_letters ndh]))) ?_ ?_
  · simp only [true_and, and_true, implies_true, forall_const]
    exact ⟨ok, by omega⟩
  · exact ⟨.txt (riseN cs), S, _, by simp, rfl, hS, riseN cs, rfl, signs_of ndh (by omega) (by omega) hs⟩
abbrev cSize : Con := cSt (List Nat) (fun g => [.txt g, .int 5]) (fun g => isSigns g = true) fun _ d => ∃ n : Nat, d = .int (n : Int) ∧ 1 ≤ n ∧ n ≤ 5
theorem F_law_size (B : Blts C.mg) (F__law_draw : FnD C 1 "_law_draw" ["_law_state_here", "_law_many"] cDraw) (F__law_words : FnD C 1 "_law_words" ["_law_base", "_law_size_here"] cWords) (D1 : Dn C "_law_size" s__law_size ["_law_state_here", "_law_base", "_law_most"]) : FnD C 2 "_law_size" ["_law_state_here", "_law_base", "_law_most"] cSize := D1.sto sc__law_size (fun _ _ => rfl) fun S g hS hp => by
  have nd : n__law_size.Nodup := sc__law_size.nd
  have hg : isSigns g = true := hp
  have g4 := (isSigns_iff.mp hg).2.1
  refine ws_cons (w1_set (i := 3) (.of nd) (we_bin (SE.go (se_int) ?_ (we_C F__law_draw.to (sa_cs (se_vr 0 rfl rfl) (sa_cs (se_vr 2 rfl rfl) (sa_nl))) ?_ ?_))))
  · trivial
  · simp only [true_and, and_true, implies_true, forall_const]
  refine calls_draw hS ⟨by decide, by decide⟩ fun r S hS r1 r2 => go_add_int ?_
  change WS _ _ [some (.l 1), some (.d (.txt g)), some (.d (.int 5)), some (.d (.int (1 + r)))] _ _ _
  refine ws_cons (w1_whileP (fun m ρ' => 1 ≤ m ∧ m ≤ 5 ∧ ρ' = [some (.l 1), some (.d (.txt g)), some (.d (.int 5)), some (.d (.int (m : Int)))]) (1 + r).toNat ?_ ?_)
  · exact ⟨by omega, by omega, by rw [show (((1 + r).toNat : Nat) : Int) = 1 + r by omega]⟩
  · rintro m ρ' ⟨m1, m2, rfl⟩
    refine ⟨_, SB.pb (sb_cmp (se_b1 B.to (se_call2 F__law_words.to (se_vr 1 rfl rfl) (se_vr 3 rfl rfl))) (se_int)) ?_, fun hc => ?_, fun hc => ?_⟩
    · simp only [true_and, and_true, implies_true, forall_const]
      exact ⟨g4, m2⟩
    · have hc := of_decide_eq_true hc
      have hm : m ≠ 1 := fun e => by
        subst e
        rw [allWords_many, Nat.pow_one] at hc
        omega
      refine ws_cons (w1_setS (i := 3) (.of nd) (se_bin (se_vr 3 rfl rfl) (se_int)) ?_ ?_)
      · simp only [true_and, and_true, implies_true, forall_const]
      exact ws_nil ⟨rfl, m - 1, by omega, by omega, by omega, by rw [show ((m - 1 : Nat) : Int) = (m : Int) - 1 by omega]; rfl⟩
    · refine w1_retS (C := (C.defC n__law_size (defScope s__law_size) _)) (se_vr 3 rfl rfl) ?_ ?_
      · trivial
      · exact ⟨.int (m : Int), S, _, rfl, rfl, hS, m, rfl, m1, m2⟩
abbrev cWordL : Con := cSt (List Nat × Int × Int) (fun a => [.txt a.1, .int a.2.1, .int a.2.2]) (fun a => isSigns a.1 = true ∧ 0 ≤ a.2.1 ∧ a.2.1 ≤ a.2.2 ∧ a.2.2 ≤ 60) fun a d => ∃ w, d = .txt w ∧ (∀ c ∈ w, c ∈ a.1) ∧ a.2.1 ≤ (w.length : Int) ∧ (w.length : Int) ≤ a.2.2
theorem F_law_word (B : Blts C.mg) (F__law_draw : FnD C 1 "_law_draw" ["_law_state_here", "_law_many"] cDraw) (D1 : Dn C "_law_word" s__law_word ["_law_state_here", "_law_base", "_law_least", "_law_most"]) : FnD C 2 "_law_word" ["_law_state_here", "_law_base", "_law_least", "_law_most"] cWordL := D1.sto sc__law_word (fun _ _ => rfl) fun S a hS hp => by
  have nd : n__law_word.Nodup := sc__law_word.nd
  obtain ⟨g, lo, hi⟩ := a
  obtain ⟨hg, p1, p2, p3⟩ := hp
  have hg : isSigns g = true := hg
  have p1 : 0 ≤ lo := p1
  have p2 : lo ≤ hi := p2
  have p3 : hi ≤ 60 := p3
  obtain ⟨g1, g4, _, _⟩ := isSigns_iff.mp hg
  change WS (C.defC n__law_word (defScope s__law_word) _) _ [some (.l 1), some (.d (.txt g)), some (.d (.int lo)), some (.d (.int hi)), none] _ _ _
  refine w1_retW (C := (C.defC n__law_word (defScope s__law_word) _)) (w_join (SE.pv (se_txt (l := []) rfl) (by trivial)) (we_lc (t := .nm 4) (.nm (.of nd)) nd (show BlkOk n__law_word (defScope s__law_word) _ [("_law_k", 4)] from ⟨rfl, by decide +kernel, by decide +kernel, by decide +kernel, by decide +kernel⟩) (by decide) (wi_range1 rfl B.range (we_bin (SE.go (se_vr 2 rfl rfl) ?_ (we_C F__law_draw.to (sa_cs (se_vr 0 rfl rfl) (sa_cs (se_bin (se_bin (se_vr 3 rfl rfl) (se_vr 2 rfl rfl)) (se_int)) (sa_nl))) ?_ ?_))))))
  · trivial
  · simp only [true_and, and_true, implies_true, forall_const]
  refine calls_draw hS ⟨by omega, by omega⟩ fun r S hS r1 r2 => go_add_int ⟨lo + r, rfl, by omega, by omega, lcI_rng (fun i acc μ' => ∃ (S : DS) (w : List Nat), μ' = S.mem ++ [] ∧ S.ok ∧ acc = w.map (fun c => D.txt [c]) ∧ w.length = i ∧ ∀ c ∈ w, c ∈ g) (sz_of (by omega)) ⟨S, [], rfl, hS, rfl, rfl, fun c hc => (List.not_mem_nil hc).elim⟩ ?_ ?_⟩
  · rintro i acc μ2 hii ⟨S, w, hμ, hS, ha, hl, hw⟩
    rw [hμ, ha]
    refine we_ix (SE.go (se_vr 1 rfl rfl) ?_ (we_C F__law_draw.tb (sa_cs (se_vr 0 rfl rfl) (sa_cs (se_b1 B.tb (se_vr 1 rfl rfl)) (sa_nl))) ?_ ?_))
    · trivial
    · simp only [true_and, and_true, implies_true, forall_const]
      exact sz_of (by omega)
    refine calls_draw hS ⟨by omega, by omega⟩ fun q S hS q1 q2 => go_ix ⟨sz_of (by omega), by omega, q2⟩ ⟨_, rfl, S, w ++ [atX g q], rfl, hS, by rw [List.map_append]; rfl, by rw [List.length_append, hl]; rfl, fun c hc => ?_⟩
    rcases List.mem_append.mp hc with h | h
    · exact hw c h
    · rw [List.mem_singleton.mp h]; exact atX_mem ⟨by omega, q2⟩
  rintro acc μ2 ⟨S, w, hμ, hS, ha, hl, hw⟩
  rw [hμ, ha]
  refine ⟨w.map fun c => [c], by rw [List.map_map]; rfl, ?_, .txt w, S, _, by rw [joinL_ones], rfl, hS, w, rfl, hw, by show lo ≤ _; omega, by show _ ≤ hi; omega⟩
  rw [sum_one, List.length_nil, Nat.mul_zero]
  omega
/-! ### a drawn table -/
def cellPs (ws : List (List Nat)) (f : List Nat → Nat) : List (Key × XV) := (tabPs ws f).map fun p => (p.1, XV.d p.2)
theorem pz_tab {ws : List (List Nat)} {w : List Nat} {f : List Nat → Nat} {c : Nat} (h : w ∉ ws) : pz (cellPs ws f) (.inr (SX.S w)) (.d (.txt [c])) = cellPs (ws ++ [w]) (fun v => if v = w then c else f v) := by
  have e1 : ((cellPs ws f).any fun p => decide (p.1 = (.inr (SX.S w) : Key))) = false := by
    rw [List.any_eq_false]
    intro p hp hq
    obtain ⟨q, hq1, rfl⟩ := List.mem_map.mp hp
    obtain ⟨v, hv, rfl⟩ := List.mem_map.mp hq1
    have := SX.S_inj (Sum.inr.inj (of_decide_eq_true hq))
    exact h (this ▸ hv)
  unfold pz
  rw [e1]
  show cellPs ws f ++ [_] = _
  unfold cellPs tabPs
  rw [List.map_append, List.map_append]
  congr 1
  · rw [List.map_map, List.map_map]
    refine List.map_congr_left fun v hv => ?_
    have ne : v ≠ w := fun e => h (e ▸ hv)
    show ((.inr (SX.S v) : Key), XV.d (D.txt [f v])) = (.inr (SX.S v), XV.d (D.txt [if v = w then c else f v]))
    rw [if_neg ne]
  · show [((.inr (SX.S w) : Key), XV.d (D.txt [c]))] = [(.inr (SX.S w), XV.d (D.txt [if w = w then c else f w]))]
    rw [if_pos rfl]
theorem take_new {g : List Nat} (hg : g.Pairwise (· < ·)) {n i : Nat} {w : List Nat} (h : (allWords g n)[i]? = some w) : (allWords g n).take (i + 1) = (allWords g n).take i ++ [w] ∧ w ∉ (allWords g n).take i := by
  have e : (allWords g n).take (i + 1) = (allWords g n).take i ++ [w] := by rw [List.take_succ, h]; rfl
  have p := (allWords_rise hg n).sublist (List.take_sublist (i + 1) _)
  rw [e, List.pairwise_append] at p
  exact ⟨e, fun hm => absurd (p.2.2 w hm w (List.mem_singleton.mpr rfl)) (List.lt_irrefl _)⟩
abbrev cWin : Con := cSt (List Nat × List Nat × Nat) (fun a => [.txt a.1, .txt a.2.1, .int (a.2.2 : Int)]) (fun a => isSigns a.1 = true ∧ isSigns a.2.1 = true ∧ 1 ≤ a.2.2 ∧ a.2.2 ≤ 5) fun a d => ∃ f, d = D.dc (tabPs (allWords a.1 a.2.2) f) ∧ ∀ w, f w ∈ a.2.1
theorem F_law_window (B : Blts C.mg) (F__law_draw : FnD C 1 "_law_draw" ["_law_state_here", "_law_many"] cDraw) (F__law_words : FnD C 1 "_law_words" ["_law_base", "_law_size_here"] cWords) (D1 : Dn C "_law_window" s__law_window ["_law_state_here", "_law_base", "_law_goal", "_law_size_here"]) : FnD C 3 "_law_window" ["_law_state_here", "_law_base", "_law_goal", "_law_size_here"] cWin := D1.sto sc__law_window (fun _ _ => rfl) fun S a hS hp => by
  have nd : n__law_window.Nodup := sc__law_window.nd
  obtain ⟨g, to, n⟩ := a
  obtain ⟨hg, ht, n1, n2⟩ := hp
  have hg : isSigns g = true := hg
  have ht : isSigns to = true := ht
  have n1 : 1 ≤ n := n1
  have n2 : n ≤ 5 := n2
  obtain ⟨g1, g4, gs, gr⟩ := isSigns_iff.mp hg
  obtain ⟨t1, t4, ts, tr⟩ := isSigns_iff.mp ht
  change WS (C.defC n__law_window (defScope s__law_window) _) _ [some (.l 1), some (.d (.txt g)), some (.d (.txt to)), some (.d (.int (n : Int))), none, none, none, none, none] _ _ _
  refine ws_cons (w1_pr3 (i := 4) (j := 5) (l := 6) (.of nd) (.of nd) (.of nd) (by decide) (we_C F__law_draw.to (sa_cs (se_vr 0 rfl rfl) (sa_cs (se_int) (sa_nl))) ?_ ?_))
  · simp only [true_and, and_true, implies_true, forall_const]
  refine calls_draw hS ⟨by decide, by decide⟩ fun way S hS w1 w2 => ?_
  refine we_C F__law_draw.to (sa_cs (se_vr 0 rfl rfl) (sa_cs (se_vr 3 rfl rfl) (sa_nl))) ?_ ?_
  · simp only [true_and, and_true, implies_true, forall_const]
  refine calls_draw hS ⟨by omega, by omega⟩ fun at_ S hS a1 a2 => we_dct0 ?_
  rw [List.append_nil]
  change WS _ _ [some (.l 1), some (.d (.txt g)), some (.d (.txt to)), some (.d (.int (n : Int))), some (.d (.int way)), some (.d (.int at_)), some (.l 2), none, none] (S.mem ++ [some (MO.dc (cellPs ((allWords g n).take 0) fun _ => atX to 0))]) _ _
  have m0 : atX to 0 ∈ to := atX_mem ⟨by omega, by omega⟩
  refine ws_cons (w1_forM (tt := .nm 7) (fun i ρ' μ' => ∃ (S : DS) (f : List Nat → Nat) (o7 o8 : Option XV), ρ' = [some (.l 1), some (.d (.txt g)), some (.d (.txt to)), some (.d (.int (n : Int))), some (.d (.int way)), some (.d (.int at_)), some (.l 2), o7, o8] ∧ μ' = S.mem ++ [some (MO.dc (cellPs ((allWords g n).take i) f))] ∧ S.ok ∧ ∀ w, f w ∈ to) (.nm (.of nd)) (se_it (se_call2 F__law_words.to (se_vr 1 rfl rfl) (se_vr 3 rfl rfl))) ?_ ?_ ?_ ?_)
  · exact ⟨trivial, trivial, g4, n2⟩
  · exact ⟨S, _, none, none, rfl, rfl, hS, fun _ => m0⟩
  · rintro i w ρ' μ2 hx ⟨S, f, o7, o8, rfl, hμ, hS, hf⟩
    rw [hμ]
    obtain ⟨tk, nw⟩ := take_new gr hx
    have hwm := List.mem_of_getElem? hx
    obtain ⟨wl, wg⟩ := mem_allWords.mp hwm
    have many : (allWords g n).length ≤ 1024 := by rw [allWords_many]; exact pow_le g4 n2
    have lenc : (cellPs ((allWords g n).take i) f).length < sizeLine := by unfold cellPs; rw [List.length_map, tab_len, List.length_take, szz]; omega
    have fin : ∀ c, c ∈ to → ∀ v, (if v = w then c else f v) ∈ to := fun c hc v => by
      split
      · exact hc
      · exact hf v
    have inm : ∀ x : Int, inB to.length (x % (to.length : Int)) := fun x => ⟨by have := Int.emod_nonneg x (show (to.length : Int) ≠ 0 by omega); omega, Int.emod_lt_of_pos x (by omega)⟩
    have zw : w.length ≤ sizeLine := sz_of (by omega)
    have zt : to.length ≤ sizeLine := sz_of (by omega)
    have pt : (0 : Int) < (to.length : Int) := by omega
    change WS _ _ ([some (.l 1), some (.d (.txt g)), some (.d (.txt to)), some (.d (.int (n : Int))), some (.d (.int way)), some (.d (.int at_)), some (.l 2), some (.d (.txt w)), o8]) _ _ _
    refine ws_cons (SB.ite (sb_cmp (se_vr 4 rfl rfl) (se_int)) ?_ (fun hc => ?_) (fun hc => ?_))
    · simp only [true_and, and_true, implies_true, forall_const]
    · refine ws_cons (w1_dput (we_ix (SE.go (se_vr 2 rfl rfl) ?_ (we_C F__law_draw.to (sa_cs (se_vr 0 rfl rfl) (sa_cs (se_b1 B.to (se_vr 2 rfl rfl)) (sa_nl))) ?_ ?_))))
      · simp only [true_and, and_true, implies_true, forall_const]
      · simp only [true_and, and_true, implies_true, forall_const]
        exact sz_of (by omega)
      refine calls_draw hS ⟨by omega, by omega⟩ fun q S hS q1 q2 => go_ix ⟨sz_of (by omega), by omega, q2⟩ ?_
      refine SE.go (se_vr 6 rfl rfl) ?_ (SE.go (se_vr 7 rfl rfl) ?_ ?_)
      · trivial
      · trivial
      refine ⟨2, cellPs ((allWords g n).take i) f, .inr (SX.S w), rfl, rfl, rfl, lenc, ?_⟩
      rw [pz_tab nw, ← tk]
      exact ws_nil (ws_nil (Wk.of ⟨S, _, _, _, rfl, rfl, hS, fun v => fin _ (atX_mem ⟨by omega, q2⟩) v⟩))
    · refine ws_cons (SB.ite (sb_cmp (se_vr 4 rfl rfl) (se_int)) ?_ (fun hc => ?_) (fun hc => ?_))
      · simp only [true_and, and_true, implies_true, forall_const]
      · have hw0 : inB w.length at_ := ⟨by omega, by rw [wl]; exact a2⟩
        have hwa := wg _ (atX_mem hw0)
        refine ws_cons (w1_dput (SE.go (se_ix (se_vr 2 rfl rfl) (se_bin (se_index (se_vr 1 rfl rfl) (se_ix (se_vr 7 rfl rfl) (se_vr 5 rfl rfl))) (se_b1 B.to (se_vr 2 rfl rfl)))) ?_ (SE.go (se_vr 6 rfl rfl) ?_ (SE.go (se_vr 7 rfl rfl) ?_ ?_))))
        · simp only [true_and, and_true, implies_true, forall_const]
          exact ⟨⟨⟨⟨zw, hw0⟩, hwa⟩, zt, pt⟩, zt, inm _⟩
        · trivial
        · trivial
        refine ⟨2, cellPs ((allWords g n).take i) f, .inr (SX.S w), rfl, rfl, rfl, lenc, ?_⟩
        rw [pz_tab nw, ← tk]
        exact ws_nil (ws_nil (ws_nil (Wk.of ⟨S, _, _, _, rfl, rfl, hS, fun v => fin _ (atX_mem (inm _)) v⟩)))
      · refine ws_cons (SB.ite (sb_cmp (se_vr 4 rfl rfl) (se_int)) ?_ (fun hc => ?_) (fun hc => ?_))
        · simp only [true_and, and_true, implies_true, forall_const]
        · refine ws_cons (w1_dput (SE.go (se_ix (se_vr 2 rfl rfl) (se_bin (se_b1 B.to (se_lc (tt := .nm 8) (.nm (.of nd)) nd (show BlkOk n__law_window (defScope s__law_window) _ [("_law_letter", 8)] from ⟨rfl, by decide +kernel, by decide +kernel, by decide +kernel, by decide +kernel⟩) (by decide) (SD.si (se_it (se_vr 7 rfl rfl))) (fun a => se_index (se_vr 1 rfl rfl) (se_vr 8 rfl rfl)))) (se_b1 B.to (se_vr 2 rfl rfl)))) ?_ (SE.go (se_vr 6 rfl rfl) ?_ (SE.go (se_vr 7 rfl rfl) ?_ ?_))))
          · simp only [true_and, and_true, implies_true, forall_const]
            exact ⟨⟨⟨zw, wg⟩, zt, pt⟩, zt, inm _⟩
          · trivial
          · trivial
          refine ⟨2, cellPs ((allWords g n).take i) f, .inr (SX.S w), rfl, rfl, rfl, lenc, ?_⟩
          rw [pz_tab nw, ← tk]
          exact ws_nil (ws_nil (ws_nil (ws_nil (Wk.of ⟨S, _, _, _, rfl, rfl, hS, fun v => fin _ (atX_mem (inm _)) v⟩))))
        · refine ws_cons (w1_dput (SE.go (se_ix (se_vr 2 rfl rfl) (se_bin (se_vr 5 rfl rfl) (se_b1 B.to (se_vr 2 rfl rfl)))) ?_ (SE.go (se_vr 6 rfl rfl) ?_ (SE.go (se_vr 7 rfl rfl) ?_ ?_))))
          · simp only [true_and, and_true, implies_true, forall_const]
            exact ⟨⟨zt, pt⟩, zt, inm _⟩
          · trivial
          · trivial
          refine ⟨2, cellPs ((allWords g n).take i) f, .inr (SX.S w), rfl, rfl, rfl, lenc, ?_⟩
          rw [pz_tab nw, ← tk]
          exact ws_nil (ws_nil (ws_nil (ws_nil (Wk.of ⟨S, _, _, _, rfl, rfl, hS, fun v => fin _ (atX_mem (inm _)) v⟩))))
  rintro ρ' μ2 ⟨S, f, o7, o8, rfl, hμ, hS, hf⟩
  rw [hμ, List.take_length]
  refine ws_coolD (n := 2) (ps := tabPs (allWords g n) f) rfl (Cooled.at (j := 6) rfl) ?_
  refine w1_retS (C := (C.defC n__law_window (defScope s__law_window) _)) (se_vr 6 rfl rfl) ?_ ?_
  · trivial
  · exact ⟨D.dc (tabPs (allWords g n) f), S, [none], rfl, rfl, hS, f, rfl, hf⟩
end
end DL
set_option maxRecDepth 100000
set_option maxHeartbeats 4000000
set_option pp.maxSteps 600
namespace DL
open PySem L2 PySem.Spec PyProof.Rows
abbrev s_law : Stmt := top 33
def n_law : List Str := ["_law_script", "_law_state_here", "_law_turn", "_law_base", "_law_goal", "_law_size_here", "_law_grid", "_law_maker", "_law_k", "_law_line", "_law_spoil", "_law_at", "_law_other", "_law_letter", "_law_bad", "_law_due", "_law_told_here", "_law_odd"]
theorem sc_law : FnScope n_law ["_law_script"] (defScope s_law) := ⟨rfl, rfl, rfl, by decide +kernel, rfl, by decide +kernel, by decide +kernel⟩
section
variable {C : SC}
/-! ### the law k21 -/
def resD (r : Rl) (d : D) : D := match wordR r d with | .inl l => .txt l | .inr i => .int i
def gotW (r : Rl) (l : List Nat) (a : Nat) : D := (vz r.ps (.inr (SX.S (cut l (some (a : Int)) (some ((a : Int) + (r.n : Int))))))).getD (.txt [])
theorem gotW_txt {r : Rl} {l : List Nat} {a : Nat} : gotW r l a = .txt (gotW r l a).txtOf ∧ (gotW r l a).txtOf.length ≤ 1 := by
  unfold gotW
  rw [vz_tab]
  split
  · exact ⟨rfl, Nat.le_refl 1⟩
  · exact ⟨rfl, Nat.zero_le 1⟩
theorem sum_le1 {α : Type} {h : α → Nat} : ∀ l : List α, (∀ a ∈ l, h a ≤ 1) → (l.map h).sum ≤ l.length
  | [], _ => Nat.le_refl _
  | a :: l, q => by
    rw [List.map_cons, List.sum_cons, List.length_cons]
    have := sum_le1 l fun b hb => q b (List.mem_cons_of_mem _ hb)
    have := q a List.mem_cons_self
    omega
def dueT (r : Rl) (l : List Nat) : List Nat := TL.joinL [] ((List.range ((l.length : Int) - (r.n : Int) + 1).toNat).map fun a => (gotW r l a).txtOf)
theorem dueT_good {r : Rl} {l : List Nat} (ok : r.ok) (h : ∀ c ∈ l, c ∈ r.g) : dueT r l = along r l := by
  have n1 := ok.n1
  unfold dueT
  rw [show ((l.length : Int) - (r.n : Int) + 1).toNat = l.length + 1 - r.n by omega, List.map_congr_left (g := fun a => [r.f ((l.drop a).take r.n)]) fun a ha => ?_]
  · have e : ((List.range (l.length + 1 - r.n)).map fun a => [r.f ((l.drop a).take r.n)]) = (along r l).map fun c => [c] := by
      unfold along wins
      rw [List.map_map, List.map_map]
      rfl
    rw [e, joinL_ones]
  · have ha := List.mem_range.mp ha
    unfold gotW
    rw [cut_mid (by omega), vz_tab, if_pos (wins_mem h (List.mem_map.mpr ⟨a, List.mem_range.mpr ha, rfl⟩))]
    rfl
theorem resD_good {r : Rl} {l : List Nat} (h : ∀ c ∈ l, c ∈ r.g) : resD r (.txt l) = .txt (along r l) := by
  unfold resD
  rw [wordR_good h]
theorem resD_bad {r : Rl} {l : List Nat} {i : Nat} (h : (bad r.g l).head? = some i) : resD r (.txt l) = .int (i : Int) := by
  unfold resD
  rw [wordR_bad h]
theorem resD_other {r : Rl} {d : D} (h : d.isStr = false) : resD r d = .int 0 := by
  unfold resD
  rw [wordR_other h]
theorem ints_ok : ∀ l : List Nat, (D.lst (l.map fun i : Nat => .int (i : Int))).okEq := fun l => by
  constructor
  · show D.plains _ = true
    induction l with
    | nil => rfl
    | cons i l ih => rw [List.map_cons]; unfold D.plains; rw [ih]; rfl
  · have e : (D.lst (l.map fun i : Nat => .int (i : Int))).py.depth ≤ 1 := by
      unfold D.py
      induction l with
      | nil => decide
      | cons i l ih =>
        rw [List.map_cons]
        unfold D.pys
        simp [PyData.depth, PyData.depthAll, D.py, D.pys] at *
        simpa [PyData.depth, PyData.depthAll] using ih
    omega
theorem ints_nil (l : List Nat) : PyData.eqv (D.lst (l.map fun i : Nat => .int (i : Int))).py (D.lst []).py = l.isEmpty := by
  cases l with
  | nil => rfl
  | cons i l => rfl
theorem along_to {r : Rl} {l : List Nat} (ok : r.ok) (h : ∀ c ∈ l, c ∈ r.g) : ∀ c ∈ along r l, c ∈ r.to := fun c hc => by
  obtain ⟨w, hw, rfl⟩ := List.mem_map.mp hc
  exact ok.f w (wins_mem h hw)
theorem resD_cases {r : Rl} {d : D} (ok : r.ok) : (∃ i, resD r d = .int i) ∨ ∃ t, resD r d = .txt t ∧ uni t = true := by
  cases hs : d.isStr with
  | false => exact .inl ⟨0, resD_other hs⟩
  | true =>
    obtain ⟨l, rfl⟩ : ∃ l, d = .txt l := by cases d <;> first | exact ⟨_, rfl⟩ | cases hs
    cases hb : (bad r.g l).head? with
    | some i => exact .inl ⟨_, resD_bad hb⟩
    | none =>
      have h := bad_nil.mp (List.head?_eq_none_iff.mp hb)
      exact .inr ⟨_, resD_good h, uni_small fun c hc => (isSigns_iff.mp ok.to).2.2.1 c (along_to ok h c hc)⟩
theorem resD_ok {r : Rl} {d : D} (ok : r.ok) : (resD r d).okEq ∧ (resD r d).any ∧ (resD r d).isBool = false ∧ PyData.eqv (resD r d).py (resD r d).py = true := by
  rcases resD_cases (d := d) ok with ⟨i, h⟩ | ⟨t, h, u⟩
  · rw [h]; exact ⟨⟨rfl, by unfold D.py; simp [PyData.depth]⟩, ⟨_, rfl⟩, rfl, by unfold D.py; simp [PyData.eqv]⟩
  · rw [h]; exact ⟨⟨u, by unfold D.py; simp [PyData.depth]⟩, ⟨_, rfl⟩, rfl, by unfold D.py; simp [PyData.eqv]⟩
theorem len_split {α : Type} (p : α → Bool) : ∀ l : List α, l.length = (l.filter p).length + (l.filter fun a => !p a).length
  | [] => rfl
  | a :: l => by
    have ih := len_split p l
    cases h : p a <;> simp [List.filter_cons, h] <;> omega
theorem others_len {g : List Nat} (h : g.length ≤ 4) : 22 ≤ (small.filter fun a => !decide (a ∈ g)).length := by
  have h1 : (small.filter fun a => decide (a ∈ g)).length ≤ g.length := List.Nodup.length_le_of_subset (List.Pairwise.filter _ small_nd) fun a ha => of_decide_eq_true (List.mem_filter.mp ha).2
  have h2 := len_split (fun a => decide (a ∈ g)) small
  have h3 : small.length = 26 := rfl
  omega
theorem B_law {A_Rule : Addr} (G_Rule : GC_Rule C A_Rule) {A_NoWord : Addr} (G_NoWord : GX_NoWord C A_NoWord) (B : Blts C.mg) (F__law_state : FnD C 3 "_law_state" ["_law_script"] cBegun) (F__law_draw : FnD C 1 "_law_draw" ["_law_state_here", "_law_many"] cDraw) (F__law_letters : FnD C 2 "_law_letters" ["_law_state_here", "_law_least", "_law_most"] cLetters) (F__law_size : FnD C 2 "_law_size" ["_law_state_here", "_law_base", "_law_most"] cSize) (F__law_window : FnD C 3 "_law_window" ["_law_state_here", "_law_base", "_law_goal", "_law_size_here"] cWin) (F__law_word : FnD C 2 "_law_word" ["_law_state_here", "_law_base", "_law_least", "_law_most"] cWordL) (F__law_told : FnD C 4 "_law_told" ["_law_maker", "_law_line"] (cTold A_Rule)) (F_Rule : MkD C 4 "Rule" A_Rule ["self", "signs", "to", "left", "table"] (cRule A_Rule)) (K_word_by : FnK C 3 "word_by" ["rule", "word"] (cWordBy A_Rule A_NoWord) 0 ["word", "rule"] [1, 0]) : Body C (cLaw 63) n_law s_law 5 := fun ns hl => by
  have nd : n_law.Nodup := sc_law.nd
  have hl' : ns.length ≤ 63 := hl
  refine ws_cons (w1_set (i := 1) (.of nd) (we_C F__law_state.to (sa_cs (se_vr 0 rfl rfl) (sa_nl)) ?_ ?_))
  · exact ⟨trivial, trivial⟩
  refine calls_begun hl' fun S hS => ?_
  refine ws_cons (w1_forM (tt := .nm 2) (fun i ρ' μ' => ∃ (S : DS) (o2 o3 o4 o5 o6 o7 o8 o9 o10 o11 o12 o13 o14 o15 o16 o17 : Option XV), ρ' = [some (.d (.scr ns)), some (.l 1), o2, o3, o4, o5, o6, o7, o8, o9, o10, o11, o12, o13, o14, o15, o16, o17] ∧ μ' = S.mem ++ [] ∧ S.ok) (.nm (.of nd)) (si_rng1 B.to (se_int)) ?_ ?_ ?_ ?_)
  · exact ⟨trivial, by decide, by decide⟩
  · exact ⟨S, none, none, none, none, none, none, none, none, none, none, none, none, none, none, none, none, rfl, rfl, hS⟩
  · rintro i t ρ' μ2 ht ⟨S, o2, o3, o4, o5, o6, o7, o8, o9, o10, o11, o12, o13, o14, o15, o16, o17, rfl, hμ, hS⟩
    rw [hμ]
    change WS _ _ ([some (.d (.scr ns)), some (.l 1), some (.d (.int (t : Int))), o3, o4, o5, o6, o7, o8, o9, o10, o11, o12, o13, o14, o15, o16, o17]) _ _ _
    refine ws_cons (w1_asgC (t := .tp [3, 4]) (.tp (.cons (.of nd) (.cons (.of nd) .nil))) (we_tup (wa_cons (we_C F__law_letters.to (sa_cs (se_vr 1 rfl rfl) (sa_cs (se_int) (sa_cs (se_int) (sa_nl)))) ?_ ?_))))
    · simp only [true_and, and_true, implies_true, forall_const]
    refine calls_S (1, 4) hS ⟨by decide, by decide, by decide⟩ rfl fun d S hS hd => ?_
    obtain ⟨g, rfl, hg⟩ := hd
    refine wa_cons (we_C F__law_letters.to (sa_cs (se_vr 1 rfl rfl) (sa_cs (se_int) (sa_cs (se_int) (sa_nl)))) ?_ ?_)
    · simp only [true_and, and_true, implies_true, forall_const]
    refine calls_S (1, 4) hS ⟨by decide, by decide, by decide⟩ rfl fun d S hS hd => ?_
    obtain ⟨to, rfl, hto⟩ := hd
    obtain ⟨g1, g4, gs, gr⟩ := isSigns_iff.mp hg
    refine wa_nil ?_
    refine ⟨_, rfl, sz_of (by simp), _, ⟨_, rfl, rfl, rfl⟩, ?_⟩
    change WS _ _ ([some (.d (.scr ns)), some (.l 1), some (.d (.int (t : Int))), some (.d (.txt g)), some (.d (.txt to)), o5, o6, o7, o8, o9, o10, o11, o12, o13, o14, o15, o16, o17]) _ _ _
    refine ws_cons (w1_set (i := 5) (.of nd) (we_C F__law_size.to (sa_cs (se_vr 1 rfl rfl) (sa_cs (se_vr 3 rfl rfl) (sa_cs (se_int) (sa_nl)))) ?_ ?_))
    · simp only [true_and, and_true, implies_true, forall_const]
    refine calls_S g hS hg rfl fun d S hS hd => ?_
    obtain ⟨n, rfl, n1, n2⟩ := hd
    
    refine ws_cons (w1_set (i := 6) (.of nd) (we_C F__law_window.to (sa_cs (se_vr 1 rfl rfl) (sa_cs (se_vr 3 rfl rfl) (sa_cs (se_vr 4 rfl rfl) (sa_cs (se_vr 5 rfl rfl) (sa_nl))))) ?_ ?_))
    · simp only [true_and, and_true, implies_true, forall_const]
    refine calls_S (g, to, n) hS ⟨hg, hto, n1, n2⟩ rfl fun d S hS hd => ?_
    obtain ⟨f, rfl, hf⟩ := hd
    have hf : ∀ w, f w ∈ to := hf
    
    refine ws_cons (w1_set (i := 7) (.of nd) (we_make F_Rule.to (by exact Nat.le_of_ble_eq_true rfl) rfl rfl (wa_cons (SE.go (se_vr 3 rfl rfl) ?_ (wa_cons (SE.go (se_vr 4 rfl rfl) ?_ (wa_cons (we_bin (we_C F__law_draw.to (sa_cs (se_vr 1 rfl rfl) (sa_cs (se_int) (sa_nl))) ?_ ?_)))))))))
    · trivial
    · trivial
    · simp only [true_and, and_true, implies_true, forall_const]
    refine calls_draw hS ⟨by decide, by decide⟩ fun q S hS q1 q2 => ?_
    refine SE.go (se_int) ?_ ?_
    · trivial
    refine go_sub_int ?_
    refine SA.go (sa_cs (se_vr 6 rfl rfl) (sa_nl)) ?_ ?_
    · simp only [true_and, and_true, implies_true, forall_const]
    have okr : Rl.ok ⟨g, to, q - 9, n, f⟩ := ⟨hg, hto, by show -9 ≤ q - 9; omega, by show q - 9 ≤ 9; omega, n1, n2, fun w _ => hf w⟩
    generalize hr : (⟨g, to, q - 9, n, f⟩ : Rl) = r at okr
    refine ⟨rfl, _, rfl, r, okr, rfl, by rw [← hr]; rfl, fun o ho => ?_⟩
    cases ho
    refine ⟨rfl, _, [.txt r.g, .txt r.to, .int r.left, D.dc r.ps], rfl, ?_⟩
    have er : r.g = g ∧ r.to = to ∧ r.n = n ∧ r.f = f := by rw [← hr]; exact ⟨rfl, rfl, rfl, rfl⟩
    obtain ⟨rfl, rfl, rfl, rfl⟩ := er
    
    change WS _ _ ([some (.d (.scr ns)), some (.l 1), some (.d (.int (t : Int))), some (.d (.txt r.g)), some (.d (.txt r.to)), some (.d (.int (r.n : Int))), some (.d (D.dc r.ps)), some (.d (ruleD A_Rule r)), o8, o9, o10, o11, o12, o13, o14, o15, o16, o17]) (S.mem ++ []) _ _
    refine ws_cons (w1_forM (tt := .nm 8) (fun j ρ' μ' => ∃ (S : DS) (o8 o9 o10 o11 o12 o13 o14 o15 o16 o17 : Option XV), ρ' = [some (.d (.scr ns)), some (.l 1), some (.d (.int (t : Int))), some (.d (.txt r.g)), some (.d (.txt r.to)), some (.d (.int (r.n : Int))), some (.d (D.dc r.ps)), some (.d (ruleD A_Rule r)), o8, o9, o10, o11, o12, o13, o14, o15, o16, o17] ∧ μ' = S.mem ++ [] ∧ S.ok) (.nm (.of nd)) (si_rng1 B.to (se_int)) ?_ ?_ ?_ ?_)
    · exact ⟨trivial, by decide, by decide⟩
    · exact ⟨S, _, _, _, _, _, _, _, _, _, _, rfl, rfl, hS⟩
    · rintro j k ρ' μ2 hk ⟨S, o8, o9, o10, o11, o12, o13, o14, o15, o16, o17, rfl, hμ, hS⟩
      rw [hμ]
      change WS _ _ ([some (.d (.scr ns)), some (.l 1), some (.d (.int (t : Int))), some (.d (.txt r.g)), some (.d (.txt r.to)), some (.d (.int (r.n : Int))), some (.d (D.dc r.ps)), some (.d (ruleD A_Rule r)), some (.d (.int (k : Int))), o9, o10, o11, o12, o13, o14, o15, o16, o17]) _ _ _
      refine ws_cons (w1_set (i := 9) (.of nd) (we_CW F__law_word.to (wa_cons (SE.go (se_vr 1 rfl rfl) ?_ (wa_cons (SE.go (se_vr 3 rfl rfl) ?_ (wa_cons (SE.go (se_int) ?_ (wa_cons (we_ix (SE.go (SE.eq (y := .d (.lst (([3, 8, 60] : List Int).map D.int))) (se_lst (sa_cs (se_int) (sa_cs (se_int) (sa_cs (se_int) (sa_nl))))) rfl) ?_ (we_C F__law_draw.to (sa_cs (se_vr 1 rfl rfl) (sa_cs (se_int) (sa_nl))) ?_ ?_))))))))))))
      · trivial
      · trivial
      · trivial
      · simp only [true_and, and_true, implies_true, forall_const]
      · simp only [true_and, and_true, implies_true, forall_const]
      refine calls_draw hS ⟨by decide, by decide⟩ fun q S hS q1 q2 => go_ix ⟨by omega, q2⟩ ?_
      have hm : 0 ≤ atX ([3, 8, 60] : List Int) q ∧ atX ([3, 8, 60] : List Int) q ≤ (60 : Int) := by
        have := atX_mem (xs := ([3, 8, 60] : List Int)) (i := q) ⟨by omega, q2⟩
        simp only [List.mem_cons, List.not_mem_nil, or_false] at this
        omega
      refine wa_nil ?_
      refine calls_S (r.g, 0, atX ([3, 8, 60] : List Int) q) hS ⟨hg, Int.le_refl 0, (by show (0 : Int) ≤ _; exact hm.1), (by show _ ≤ (60 : Int); exact hm.2)⟩ rfl fun d S hS hd => ?_
      obtain ⟨l, rfl, lg, l0, l1⟩ := hd
      have l1 : l.length ≤ 60 := by have : (l.length : Int) ≤ atX ([3, 8, 60] : List Int) q := l1; omega
      have ls : ∀ c ∈ l, c ∈ small := fun c hc => gs c (lg c hc)
      have hk4 : k < 4 := by have := (List.getElem?_eq_some_iff.mp hk).2; have := List.mem_range.mp (List.mem_of_getElem? hk); simpa using this
      have hks : 0 ≤ atX ([0, 0, 1, 2] : List Int) (k : Int) ∧ atX ([0, 0, 1, 2] : List Int) (k : Int) ≤ (2 : Int) := by
        have := atX_mem (xs := ([0, 0, 1, 2] : List Int)) (i := (k : Int)) ⟨by omega, by show (k : Int) < 4; omega⟩
        simp only [List.mem_cons, List.not_mem_nil, or_false] at this
        omega
      
      change WS _ _ ([some (.d (.scr ns)), some (.l 1), some (.d (.int (t : Int))), some (.d (.txt r.g)), some (.d (.txt r.to)), some (.d (.int (r.n : Int))), some (.d (D.dc r.ps)), some (.d (ruleD A_Rule r)), some (.d (.int (k : Int))), some (.d (.txt l)), o10, o11, o12, o13, o14, o15, o16, o17]) (S.mem ++ []) _ _
      refine ws_cons (w1_forM (tt := .nm 10) (fun z ρ' μ' => ∃ (S : DS) (l : List Nat) (o10 o11 o12 o13 : Option XV), ρ' = [some (.d (.scr ns)), some (.l 1), some (.d (.int (t : Int))), some (.d (.txt r.g)), some (.d (.txt r.to)), some (.d (.int (r.n : Int))), some (.d (D.dc r.ps)), some (.d (ruleD A_Rule r)), some (.d (.int (k : Int))), some (.d (.txt l)), o10, o11, o12, o13, o14, o15, o16, o17] ∧ μ' = S.mem ++ [] ∧ S.ok ∧ l.length ≤ 60 ∧ ∀ c ∈ l, c ∈ small) (.nm (.of nd)) (si_rng1 B.to (se_ix (SE.eq (y := .d (.lst (([0, 0, 1, 2] : List Int).map D.int))) (se_lst (sa_cs (se_int) (sa_cs (se_int) (sa_cs (se_int) (sa_cs (se_int) (sa_nl)))))) rfl) (se_vr 8 rfl rfl))) ?_ ?_ ?_ ?_)
      · simp only [true_and, and_true, implies_true, forall_const]
        exact ⟨⟨by omega, by show (k : Int) < 4; omega⟩, by omega, by omega⟩
      · exact ⟨S, l, _, _, _, _, rfl, rfl, hS, l1, ls⟩
      · rintro z sp ρ' μ2 _ ⟨S, l, o10, o11, o12, o13, rfl, hμ, hS, l1, ls⟩
        rw [hμ]
        change WS _ _ ([some (.d (.scr ns)), some (.l 1), some (.d (.int (t : Int))), some (.d (.txt r.g)), some (.d (.txt r.to)), some (.d (.int (r.n : Int))), some (.d (D.dc r.ps)), some (.d (ruleD A_Rule r)), some (.d (.int (k : Int))), some (.d (.txt l)), some (.d (.int (sp : Int))), o11, o12, o13, o14, o15, o16, o17]) _ _ _
        refine ws_cons (w1_set (i := 11) (.of nd) (we_C F__law_draw.to (sa_cs (se_vr 1 rfl rfl) (sa_cs (se_bin (se_b1 B.to (se_vr 9 rfl rfl)) (se_int)) (sa_nl))) ?_ ?_))
        · simp only [true_and, and_true, implies_true, forall_const]
          exact sz_of (by omega)
        refine calls_draw hS ⟨by omega, by omega⟩ fun at_ S hS a1 a2 => ?_
        
        refine ws_cons (w1_set (i := 12) (.of nd) (we_ix (SE.go (se_lcf (tt := .nm 13) (.nm (.of nd)) nd (show BlkOk n_law (defScope s_law) _ [("_law_letter", 13)] from ⟨rfl, by decide +kernel, by decide +kernel, by decide +kernel, by decide +kernel⟩) (by decide) (SD.si (se_it (se_txt (l := [97, 98, 99, 100, 101, 102, 103, 104, 105, 106, 107, 108, 109, 110, 111, 112, 113, 114, 115, 116, 117, 118, 119, 120, 121, 122]) rfl))) (fun a => sb_cmp (se_vr 13 rfl rfl) (se_vr 3 rfl rfl)) (fun a => se_vr 13 rfl rfl)) ?_ (we_C F__law_draw.to (sa_cs (se_vr 1 rfl rfl) (sa_cs (se_int) (sa_nl))) ?_ ?_))))
        · simp only [true_and, and_true, implies_true, forall_const]
          exact sz_of (by decide)
        · simp only [true_and, and_true, implies_true, forall_const]
        refine calls_draw hS ⟨by decide, by decide⟩ fun q S hS q1 q2 => ?_
        have hfl := others_len (g := r.g) g4
        have hq : inB (small.filter fun a => !decide (a ∈ r.g)).length q := ⟨by omega, by omega⟩
        refine go_ix (show inB (small.filter fun a => !decide (a ∈ r.g)).length q from hq) ?_
        have hc := atX_mem (xs := small.filter fun a => !decide (a ∈ r.g)) hq
        change WS _ _ ([some (.d (.scr ns)), some (.l 1), some (.d (.int (t : Int))), some (.d (.txt r.g)), some (.d (.txt r.to)), some (.d (.int (r.n : Int))), some (.d (D.dc r.ps)), some (.d (ruleD A_Rule r)), some (.d (.int (k : Int))), some (.d (.txt l)), some (.d (.int (sp : Int))), some (.d (.int at_)), some (.d (.txt [atX (small.filter fun a => !decide (a ∈ r.g)) q])), o13, o14, o15, o16, o17]) _ _ _
        generalize atX (small.filter fun a => !decide (a ∈ r.g)) q = c at hc
        have hcs : c ∈ small := (List.mem_filter.mp hc).1
        have z1 := cut_len l none (some at_)
        have z2 := cut_len l (some (at_ + 1)) none
        refine ws_cons (w1_setS (i := 9) (.of nd) (se_sl (se_bin (se_bin (se_sl (se_vr 9 rfl rfl) so_none (so_some (se_vr 11 rfl rfl))) (se_vr 12 rfl rfl)) (se_sl (se_vr 9 rfl rfl) (so_some (se_bin (se_vr 11 rfl rfl) (se_int))) so_none)) so_none (so_some (se_int))) ?_ ?_)
        · simp only [true_and, and_true, implies_true, forall_const]
          simp only [List.length_append, List.length_cons, List.length_nil]
          exact ⟨⟨⟨sz_of (by omega), sz_of (by omega)⟩, sz_of (by omega), sz_of (by omega)⟩, sz_of (by omega)⟩
        refine ws_nil (Wk.of ⟨S, _, _, _, _, _, rfl, rfl, hS, by rw [cut_to (by decide), List.length_take]; exact Nat.min_le_left _ _, fun d hd => ?_⟩)
        rcases List.mem_append.mp (cut_mem hd) with h | h
        · rcases List.mem_append.mp h with h | h
          · exact ls d (cut_mem h)
          · rw [List.mem_singleton.mp h]; exact hcs
        · exact ls d (cut_mem h)
      rintro ρ' μ2 ⟨S, l, o10, o11, o12, o13, rfl, hμ, hS, l1, ls⟩
      rw [hμ]
      refine ws_cons (w1_lcf (i := 14) (nm := .of nd) rfl (tt := .nm 11) (.nm (.of nd)) (show BlkOk n_law (defScope s_law) _ [("_law_at", 11)] from ⟨rfl, by decide +kernel, by decide +kernel, by decide +kernel, by decide +kernel⟩) (by decide) (SD.si (si_rng1 B.to (se_b1 B.to (se_vr 9 rfl rfl)))) (fun a => sb_cmp (se_ix (se_vr 9 rfl rfl) (se_vr 11 rfl rfl)) (se_vr 3 rfl rfl)) (fun a => se_vr 11 rfl rfl) rfl rfl (by decide +kernel) ?_ ?_)
      · simp only [true_and, and_true, implies_true, forall_const]
        exact ⟨⟨sz_of (by omega), by omega, by omega⟩, sz_of (by rw [List.length_range]; omega), fun a ha => ⟨sz_of (by omega), by omega, by have := List.mem_range.mp ha; omega⟩⟩
      have n1 := okr.n1
      have n2 := okr.n2
      refine ws_cons (w1_setS (i := 15) (.of nd) (se_join (se_txt (l := []) rfl) (se_lc (tt := .nm 11) (.nm (.of nd)) nd (show BlkOk n_law (defScope s_law) _ [("_law_at", 11)] from ⟨rfl, by decide +kernel, by decide +kernel, by decide +kernel, by decide +kernel⟩) (by decide) (SD.si (si_rng1 B.to (se_bin (se_bin (se_b1 B.to (se_vr 9 rfl rfl)) (se_vr 5 rfl rfl)) (se_int)))) (fun a => se_dget2 (se_vr 6 rfl rfl) (se_sl (se_vr 9 rfl rfl) (so_some (se_vr 11 rfl rfl)) (so_some (se_bin (se_vr 11 rfl rfl) (se_vr 5 rfl rfl)))) (se_txt (l := []) rfl)))) ?_ ?_)
      · simp only [true_and, and_true, implies_true, forall_const]
        refine ⟨⟨⟨sz_of (by omega), by omega, by omega⟩, sz_of (by rw [List.length_range]; omega), fun a ha => sz_of (by omega)⟩, fun a _ => gotW_txt.1, ?_⟩
        have := sum_le1 (h := fun a => (gotW r l a).txtOf.length) (List.range ((l.length : Int) - (r.n : Int) + 1).toNat) fun a _ => gotW_txt.2
        rw [List.length_range] at this
        exact Nat.le_trans (Nat.add_le_add this (Nat.le_refl _)) (by rw [List.length_nil, Nat.mul_zero]; omega)
      
      change WS _ _ ([some (.d (.scr ns)), some (.l 1), some (.d (.int (t : Int))), some (.d (.txt r.g)), some (.d (.txt r.to)), some (.d (.int (r.n : Int))), some (.d (D.dc r.ps)), some (.d (ruleD A_Rule r)), some (.d (.int (k : Int))), some (.d (.txt l)), o10, o11, o12, o13, some (.d (.lst ((bad r.g l).map fun i : Nat => .int (i : Int)))), some (.d (.txt (dueT r l))), o16, o17]) (S.mem ++ []) _ _
      refine ws_cons (w1_setE (i := 15) (.of nd) (se_ite (sb_cmp (se_vr 14 rfl rfl) (se_lst (sa_nl))) (se_ix (se_vr 14 rfl rfl) (se_int)) (se_vr 15 rfl rfl)) (.d (resD r (.txt l))) ?_ ?_ ?_)
      · simp only [true_and, and_true, implies_true, forall_const]
        rw [ints_nil]
        refine ⟨⟨ints_ok _, ints_ok []⟩, fun h => ⟨by omega, ?_⟩⟩
        cases hb : bad r.g l with
        | nil => rw [hb] at h; cases h
        | cons i b => simp
      · rw [ints_nil]
        cases hb : bad r.g l with
        | nil => rw [resD_good (bad_nil.mp hb), dueT_good okr (bad_nil.mp hb)]; rfl
        | cons i b =>
          rw [resD_bad (i := i) (by rw [hb]; rfl), show atX (i :: b) (0 : Int) = i from atX_nat (i := 0) rfl]
          rfl
      
      change WS _ _ ([some (.d (.scr ns)), some (.l 1), some (.d (.int (t : Int))), some (.d (.txt r.g)), some (.d (.txt r.to)), some (.d (.int (r.n : Int))), some (.d (D.dc r.ps)), some (.d (ruleD A_Rule r)), some (.d (.int (k : Int))), some (.d (.txt l)), o10, o11, o12, o13, some (.d (.lst ((bad r.g l).map fun i : Nat => .int (i : Int)))), some (.d (resD r (.txt l))), o16, o17]) (S.mem ++ []) _ _
      have tl : Thing (.txt l) := thing_txt (by omega) (uni_small ls)
      obtain ⟨ro, ra, rb, re⟩ := resD_ok (d := .txt l) okr
      refine ws_cons (w1_forS (tt := .nm 16) (fun z ρ' => ∃ (o16 : Option XV), ρ' = [some (.d (.scr ns)), some (.l 1), some (.d (.int (t : Int))), some (.d (.txt r.g)), some (.d (.txt r.to)), some (.d (.int (r.n : Int))), some (.d (D.dc r.ps)), some (.d (ruleD A_Rule r)), some (.d (.int (k : Int))), some (.d (.txt l)), o10, o11, o12, o13, some (.d (.lst ((bad r.g l).map fun i : Nat => .int (i : Int)))), some (.d (resD r (.txt l))), o16, o17]) (.nm (.of nd)) (SD.si (se_it (se_lst (sa_cs (se_call2 F__law_told.to (se_vr 7 rfl rfl) (se_vr 9 rfl rfl)) (sa_cs (se_call2 F__law_told.to (se_vr 7 rfl rfl) (se_vr 9 rfl rfl)) (sa_nl)))))) ?_ ?_ ?_ ?_)
      · exact ⟨⟨trivial, trivial, okr, tl⟩, ⟨trivial, trivial, okr, tl⟩, trivial⟩
      · exact ⟨_, rfl⟩
      · rintro z d ρ' hx ⟨o16, rfl⟩
        have hd : d = resD r (.txt l) := by
          rcases z with _ | _ | z
          · exact (Option.some.inj hx).symm
          · exact (Option.some.inj hx).symm
          · cases hx
        subst hd
        change WS _ _ ([some (.d (.scr ns)), some (.l 1), some (.d (.int (t : Int))), some (.d (.txt r.g)), some (.d (.txt r.to)), some (.d (.int (r.n : Int))), some (.d (D.dc r.ps)), some (.d (ruleD A_Rule r)), some (.d (.int (k : Int))), some (.d (.txt l)), o10, o11, o12, o13, some (.d (.lst ((bad r.g l).map fun i : Nat => .int (i : Int)))), some (.d (resD r (.txt l))), some (.d (resD r (.txt l))), o17]) _ _ _
        refine ws_cons (SB.ite (sb_bool (sw_or (sb_cmp (se_vr 16 rfl rfl) (se_vr 15 rfl rfl)) (sw_or (sb_val (se_isBool B.to (se_vr 16 rfl rfl))) (sw_or1 (sb_cmp (se_isStr B.to (se_vr 16 rfl rfl)) (se_isStr B.to (se_vr 15 rfl rfl))))))) ?_ (fun hc => ?_) (fun hc => ?_))
        · simp only [true_and, and_true, implies_true, forall_const]
          exact ⟨⟨ro, ro⟩, fun _ => ⟨ra, fun _ => ⟨ra, ra⟩⟩⟩
        · rw [re, rb, decide_eq_true rfl] at hc
          cases hc
        exact ws_nil (ws_nil ⟨rfl, _, rfl⟩)
      rintro ρ' ⟨o16, rfl⟩
      refine ws_cons (w1_if (wt_bool (ww_and (SB.go (sb_cmp (se_vr 14 rfl rfl) (se_lst (sa_nl))) ?_ ⟨fun hc => ?_, fun hc => ?_⟩))))
      · exact ⟨trivial, trivial, ints_ok _⟩
      · have all := bad_nil.mp (List.isEmpty_iff.mp hc)
        refine ww_and1 (wt_cmp (we_callK0 K_word_by.to (by exact Nat.le_of_ble_eq_true rfl) rfl (SK.go (sk_cs (se_vr 9 rfl rfl) (sk_cs (se_vr 7 rfl rfl) (sk_nl))) ?_ ⟨rfl, ?_⟩)))
        · simp only [true_and, and_true, implies_true, forall_const]
        refine ⟨(r, .txt l), S.mem ++ [], ⟨okr, tl⟩, rfl, rfl, fun o ho => ?_⟩
        have ho : (match wordR r (.txt l) with | .inl l => o = .ret (.d (.txt l)) [] | .inr i => o = .exc A_NoWord [("at", .int i)] []) := ho
        rw [wordR_good all] at ho
        subst ho
        refine .inl ⟨.inl rfl, ?_⟩
        refine SE.go (se_vr 15 rfl rfl) ?_ ?_
        · trivial
        rw [resD_good all] at *
        refine go_ne_d ro ro ⟨_, rfl, ?_⟩
        exact ⟨(fun h => by rw [re] at h; cases h), fun _ => ws_nil (ws_nil (Wk.of ⟨S, _, _, _, _, _, _, _, _, _, _, rfl, rfl, hS⟩))⟩
      · exact ⟨(fun h => nomatch h), fun _ => ws_nil (ws_nil (Wk.of ⟨S, _, _, _, _, _, _, _, _, _, _, rfl, rfl, hS⟩))⟩
    rintro ρ' μ2 ⟨S, o8, o9, o10, o11, o12, o13, o14, o15, o16, o17, rfl, hμ, hS⟩
    rw [hμ]
    have n1 := okr.n1
    have n2 := okr.n2
    refine ws_cons (w1_set (i := 9) (.of nd) (we_bin (we_C F__law_word.to (sa_cs (se_vr 1 rfl rfl) (sa_cs (se_vr 3 rfl rfl) (sa_cs (se_int) (sa_cs (se_int) (sa_nl))))) ?_ ?_)))
    · simp only [true_and, and_true, implies_true, forall_const]
    refine calls_S (r.g, 1, 60) hS ⟨hg, (by decide : (0 : Int) ≤ 1), (by decide : (1 : Int) ≤ 60), (by decide : (60 : Int) ≤ 60)⟩ rfl fun d S hS hd => ?_
    obtain ⟨l, rfl, lg, l0, l1⟩ := hd
    have l1 : l.length ≤ 60 := by have : (l.length : Int) ≤ 60 := l1; omega
    have lg : ∀ c ∈ l, c ∈ r.g := lg
    refine SE.go (se_int) ?_ ?_
    · trivial
    refine go_bin ⟨⟨by decide, by decide⟩, sz_of (by show l.length * 3 ≤ _; omega)⟩ ?_
    have r3 : repT l 3 = l ++ l ++ l := by unfold repT; simp [List.replicate]
    have g3 : ∀ c ∈ repT l 3, c ∈ r.g := fun c hc => by
      rw [r3] at hc
      rcases List.mem_append.mp hc with h | h
      · rcases List.mem_append.mp h with h | h <;> exact lg c h
      · exact lg c h
    have m3 : (repT l 3).length ≤ 180 := by rw [r3, List.length_append, List.length_append]; omega
    generalize repT l 3 = l3 at g3 m3
    have s3 : ∀ c ∈ l3, c ∈ small := fun c hc => gs c (g3 c hc)
    refine ws_cons (w1_setS (i := 15) (.of nd) (se_join (se_txt (l := []) rfl) (se_lc (tt := .nm 11) (.nm (.of nd)) nd (show BlkOk n_law (defScope s_law) _ [("_law_at", 11)] from ⟨rfl, by decide +kernel, by decide +kernel, by decide +kernel, by decide +kernel⟩) (by decide) (SD.si (si_rng1 B.to (se_bin (se_bin (se_b1 B.to (se_vr 9 rfl rfl)) (se_vr 5 rfl rfl)) (se_int)))) (fun a => se_dget2 (se_vr 6 rfl rfl) (se_sl (se_vr 9 rfl rfl) (so_some (se_vr 11 rfl rfl)) (so_some (se_bin (se_vr 11 rfl rfl) (se_vr 5 rfl rfl)))) (se_txt (l := []) rfl)))) ?_ ?_)
    · simp only [true_and, and_true, implies_true, forall_const]
      refine ⟨⟨⟨sz_of (by omega), by omega, by omega⟩, sz_of (by rw [List.length_range]; omega), fun a ha => sz_of (by omega)⟩, fun a _ => gotW_txt.1, ?_⟩
      have := sum_le1 (h := fun a => (gotW r l3 a).txtOf.length) (List.range ((l3.length : Int) - (r.n : Int) + 1).toNat) fun a _ => gotW_txt.2
      rw [List.length_range] at this
      exact Nat.le_trans (Nat.add_le_add this (Nat.le_refl _)) (by rw [List.length_nil, Nat.mul_zero]; omega)
    
    change WS _ _ ([some (.d (.scr ns)), some (.l 1), some (.d (.int (t : Int))), some (.d (.txt r.g)), some (.d (.txt r.to)), some (.d (.int (r.n : Int))), some (.d (D.dc r.ps)), some (.d (ruleD A_Rule r)), o8, some (.d (.txt l3)), o10, o11, o12, o13, o14, some (.d (.txt (dueT r l3))), o16, o17]) (S.mem ++ []) _ _
    have tl : Thing (.txt l3) := thing_txt (by omega) (uni_small s3)
    obtain ⟨ro, ra, rb, re⟩ := resD_ok (d := .txt l3) okr
    have ed : D.txt (dueT r l3) = resD r (.txt l3) := by rw [resD_good g3, dueT_good okr g3]
    refine ws_cons (SB.ite (sb_cmp (se_call2 F__law_told.to (se_vr 7 rfl rfl) (se_vr 9 rfl rfl)) (se_vr 15 rfl rfl)) ?_ (fun hc => ?_) (fun hc => ?_))
    · simp only [true_and, and_true, implies_true, forall_const]
      exact ⟨⟨okr, tl⟩, ro, by rw [ed]; exact ro⟩
    · change (!(PyData.eqv (resD r (.txt l3)).py (D.txt (dueT r l3)).py)) = true at hc
      rw [ed, re] at hc
      cases hc
    refine ws_nil ?_
    have b0 : inB r.g.length 0 := ⟨by omega, by omega⟩
    refine ws_cons (w1_set (i := 17) (.of nd) (we_ix (SE.go (se_lst (sa_cs (se_non) (sa_cs (se_int) (sa_cs (se_bl) (sa_cs (se_lst (sa_cs (se_ix (se_vr 3 rfl rfl) (se_int)) (sa_nl))) (sa_cs (se_tup (sa_cs (se_ix (se_vr 3 rfl rfl) (se_int)) (sa_nl))) (sa_cs (se_dct0) (sa_cs (se_int) (sa_nl))))))))) ?_ (we_C F__law_draw.to (sa_cs (se_vr 1 rfl rfl) (sa_cs (se_int) (sa_nl))) ?_ ?_))))
    · simp only [true_and, and_true, implies_true, forall_const]
      exact ⟨⟨sz_of (by omega), b0⟩, sz_of (by omega), b0⟩
    · simp only [true_and, and_true, implies_true, forall_const]
    refine calls_draw hS ⟨by decide, by decide⟩ fun q S hS q1 q2 => go_ixW (R := fun d => Thing d ∧ d.isStr = false) ?_ q1 q2 fun d hd => ?_
    · intro d hd
      simp only [List.mem_cons, List.not_mem_nil, or_false] at hd
      rcases hd with rfl | rfl | rfl | rfl | rfl | rfl | rfl <;> exact ⟨⟨⟨_, rfl⟩, fun l e => nomatch e⟩, rfl⟩
    obtain ⟨td, nst⟩ := hd
    
    change WS _ _ ([some (.d (.scr ns)), some (.l 1), some (.d (.int (t : Int))), some (.d (.txt r.g)), some (.d (.txt r.to)), some (.d (.int (r.n : Int))), some (.d (D.dc r.ps)), some (.d (ruleD A_Rule r)), o8, some (.d (.txt l3)), o10, o11, o12, o13, o14, some (.d (.txt (dueT r l3))), o16, some (.d d)]) (S.mem ++ []) _ _
    have e0 : resD r d = .int 0 := resD_other nst
    obtain ⟨so, sa, sb, se⟩ := resD_ok (d := d) okr
    have k0 : (D.int 0).okEq := by rw [← e0]; exact so
    refine ws_cons (SB.ite (sb_bool (sw_or (sb_cmp (se_call2 F__law_told.to (se_vr 7 rfl rfl) (se_vr 17 rfl rfl)) (se_int)) (sw_or1 (sb_val (se_isBool B.to (se_call2 F__law_told.to (se_vr 7 rfl rfl) (se_vr 17 rfl rfl))))))) ?_ (fun hc => ?_) (fun hc => ?_))
    · simp only [true_and, and_true, implies_true, forall_const]
      exact ⟨⟨⟨okr, td⟩, so, k0⟩, fun _ => ⟨⟨okr, td⟩, sa⟩⟩
    · change (!(PyData.eqv (resD r d).py (D.int 0).py) || (resD r d).isBool) = true at hc
      rw [← e0, se, sb] at hc
      cases hc
    exact ws_nil (ws_nil (Wk.of ⟨S, _, _, _, _, _, _, _, _, _, _, _, _, _, _, _, _, rfl, rfl, hS⟩))
  rintro ρ' μ2 ⟨S, o2, o3, o4, o5, o6, o7, o8, o9, o10, o11, o12, o13, o14, o15, o16, o17, rfl, hμ, hS⟩
  rw [hμ]
  refine w1_retS (C := (C.defC n_law (defScope s_law) _)) (se_bl) ?_ ?_
  · trivial
  · exact ⟨[], rfl, ⟨_, rfl⟩, trivial, fun m hm => (List.not_mem_nil hm).elim⟩
end
end DL
set_option maxRecDepth 100000
set_option maxHeartbeats 4000000
namespace DL
open PySem L2 PySem.Spec PyProof.Rows
theorem oex_mk {K : PySem.W.Frag} {C : Addr} {nm q : Str} {N : Addr} {bs bm : List Value} {sn : List Str} {sub : List Value} {ab : Bool} {col : Option Bool} {dd : Option Addr} {k0 k1 k2 k3 k5 : Option Value} (l : K.lookup C = some (excClassObj nm q C N bs bm true sn sub ab col dd k0 k1 k2 k3 k5 "ValueError.__new__"))
    (sa : PySem.W.findIn K (.ref C) "__setattr__" = some (some (.builtin "object.__setattr__"))) (eC : PySem.W.subIn K (.ref C) (.type "BaseException") = some true) (tC : PySem.W.typeIn K (.ref C) = some (.type "type")) (kC : PySem.W.keepIn K (.ref C) = true) (b : PySem.HandSPX.refsVE bm = true) : OexC K C :=
  ⟨⟨nm, q, N, bs, bm, sn, sub, ab, col, dd, k0, k1, k2, k3, k5, l, b⟩, sa, eC, tC, kC⟩
theorem FnG.up {P : Program} {wd : World} {K : PySem.W.Frag} {mg : Str → Option Value} {base : Heap} {g : Bool} {k k2 : Nat} {f : Addr} {fd : FuncData} {ps : List Str} {sp : Sp} (F : FnG P wd K mg base g k f fd ps sp) (h : k ≤ k2) : FnG P wd K mg base g k2 f fd ps sp :=
  ⟨F.len, fun A outer s H args us vs Q E hg hr => F.run A outer s H args us vs Q E hg (hr.mono h)⟩
theorem MkD.up {C : SC} {k k2 : Nat} {x : Str} {Cl : Addr} {ps : List Str} {c : Con} (F : MkD C k x Cl ps c) (h : k ≤ k2) : MkD C k2 x Cl ps c := by
  obtain ⟨⟨f, fd, h1, r⟩, wf⟩ := F
  exact ⟨⟨f, fd, h1.up h, r⟩, wf⟩
theorem all_mk {l : PySem.W.OpenLaw} {w : World} {K : PySem.W.Frag} {h : Heap} {mg : Str → Option Value} {fa C_Rule C_WindowError C_BadRow C_NoRule C_NoPair C_TooWide C_NoWord : Addr} (X : K.In h) (G : h.Ns mainGlobals mg) (hfa : mg "law" = some (.ref fa))
    (d_is_signs : DF K "is_signs" s_is_signs)
    (d_is_word : DF K "is_word" s_is_word)
    (d_is_whole : DF K "is_whole" s_is_whole)
    (d_many_words : DF K "many_words" s_many_words)
    (d_is_window : DF K "is_window" s_is_window)
    (d_are_letters : DF K "are_letters" s_are_letters)
    (d_put_along : DF K "put_along" s_put_along)
    (d_word_by : DF K "word_by" s_word_by)
    (d__law_state : DF K "_law_state" s__law_state)
    (d__law_draw : DF K "_law_draw" s__law_draw)
    (d__law_letters : DF K "_law_letters" s__law_letters)
    (d__law_words : DF K "_law_words" s__law_words)
    (d__law_window : DF K "_law_window" s__law_window)
    (d__law_size : DF K "_law_size" s__law_size)
    (d__law_word : DF K "_law_word" s__law_word)
    (d__law_told : DF K "_law_told" s__law_told)
    (d_law : DF K "law" s_law)
    (c_Rule : DC K "Rule" C_Rule)
    (m_Rule___init__ : DM K C_Rule "__init__" "Rule.__init__" s_Rule___init__)
    (m_Rule_width : DM K C_Rule "width" "Rule.width" s_Rule_width)
    (m_Rule_signs : DM K C_Rule "signs" "Rule.signs" s_Rule_signs)
    (na_Rule_read_letters : NoAttr K C_Rule "read_letters")
    (na_Rule_put_letters : NoAttr K C_Rule "put_letters")
    (na_Rule_looks_back : NoAttr K C_Rule "looks_back")
    (na_Rule_window_table : NoAttr K C_Rule "window_table")
    (z_abs : NB K "abs")
    (z_all : NB K "all")
    (z_any : NB K "any")
    (z_bool : NB K "bool")
    (z_int : NB K "int")
    (z_isinstance : NB K "isinstance")
    (z_len : NB K "len")
    (z_list : NB K "list")
    (z_max : NB K "max")
    (z_min : NB K "min")
    (z_range : NB K "range")
    (z_repr : NB K "repr")
    (z_set : NB K "set")
    (z_sorted : NB K "sorted")
    (z_str : NB K "str")
    (z_sum : NB K "sum")
    (z_tuple : NB K "tuple")
    (z_zip : NB K "zip")
    (z_dict : NB K "dict")
    (z_type : NB K "type")
    (z_enumerate : NB K "enumerate")
    (g_MOST_SIGNS : CI K "MOST_SIGNS" 4)
    (g_MOST_WORD : CI K "MOST_WORD" 60)
    (g_MOST_LEFT : CI K "MOST_LEFT" 9)
    (g_MOST_WIDTH : CI K "MOST_WIDTH" 5)
    (g_MOST_WORDS : CI K "MOST_WORDS" 1024)
    (g_SMALL : CT K "SMALL" "abcdefghijklmnopqrstuvwxyz")
    (cg : PySem.W.specialIn K (.builtin "object.__class__") "__get__" = some (some (.builtin "getset_descriptor.__get__")))
    (ck : PySem.W.takesIn K (.builtin "object.__class__") = some true)
    (xa_WindowError : PySem.W.nsIn K mainGlobals "WindowError" = some (some (.ref C_WindowError)))
    (xg_WindowError : PySem.W.findIn K (.ref C_WindowError) "__getattribute__" = some (some (.builtin "BaseException.__getattribute__")))
    (xk_WindowError : PySem.W.findIn K (.ref C_WindowError) "__getattr__" = some none)
    (xs_WindowError : PySem.W.subIn K (.ref C_WindowError) (.type "BaseException") = some true)
    (xd_WindowError : PySem.W.hasDictIn K C_WindowError = true)
    (xc_WindowError : PySem.W.findIn K (.ref C_WindowError) "__class__" = some (some (.builtin "object.__class__")))
    (xm_WindowError : PySem.W.mroIn K C_WindowError (.type "object") = some true)
    (xy_WindowError : PySem.W.typeIn K (.ref C_WindowError) = some (.type "type"))
    (xp_WindowError : PySem.W.keepIn K (.ref C_WindowError) = true)
    (xo_WindowError : PySem.W.subIn K (.ref C_WindowError) (.ref C_WindowError) = some true)
    (xq_WindowError : PySem.W.excIn K C_WindowError [.type "ValueError", .type "Exception", .type "BaseException", .type "object"] "ValueError.__new__" = true)
    (xa_BadRow : PySem.W.nsIn K mainGlobals "BadRow" = some (some (.ref C_BadRow)))
    (xg_BadRow : PySem.W.findIn K (.ref C_BadRow) "__getattribute__" = some (some (.builtin "BaseException.__getattribute__")))
    (xk_BadRow : PySem.W.findIn K (.ref C_BadRow) "__getattr__" = some none)
    (xs_BadRow : PySem.W.subIn K (.ref C_BadRow) (.type "BaseException") = some true)
    (xd_BadRow : PySem.W.hasDictIn K C_BadRow = true)
    (xc_BadRow : PySem.W.findIn K (.ref C_BadRow) "__class__" = some (some (.builtin "object.__class__")))
    (xm_BadRow : PySem.W.mroIn K C_BadRow (.type "object") = some true)
    (xy_BadRow : PySem.W.typeIn K (.ref C_BadRow) = some (.type "type"))
    (xp_BadRow : PySem.W.keepIn K (.ref C_BadRow) = true)
    (xo_BadRow : PySem.W.subIn K (.ref C_BadRow) (.ref C_BadRow) = some true)
    (xq_BadRow : PySem.W.excIn K C_BadRow [.type "ValueError", .type "Exception", .type "BaseException", .type "object"] "ValueError.__new__" = true)
    (xa_NoRule : PySem.W.nsIn K mainGlobals "NoRule" = some (some (.ref C_NoRule)))
    (xg_NoRule : PySem.W.findIn K (.ref C_NoRule) "__getattribute__" = some (some (.builtin "BaseException.__getattribute__")))
    (xk_NoRule : PySem.W.findIn K (.ref C_NoRule) "__getattr__" = some none)
    (xs_NoRule : PySem.W.subIn K (.ref C_NoRule) (.type "BaseException") = some true)
    (xd_NoRule : PySem.W.hasDictIn K C_NoRule = true)
    (xc_NoRule : PySem.W.findIn K (.ref C_NoRule) "__class__" = some (some (.builtin "object.__class__")))
    (xm_NoRule : PySem.W.mroIn K C_NoRule (.type "object") = some true)
    (xy_NoRule : PySem.W.typeIn K (.ref C_NoRule) = some (.type "type"))
    (xp_NoRule : PySem.W.keepIn K (.ref C_NoRule) = true)
    (xo_NoRule : PySem.W.subIn K (.ref C_NoRule) (.ref C_NoRule) = some true)
    (xq_NoRule : PySem.W.excIn K C_NoRule [.type "ValueError", .type "Exception", .type "BaseException", .type "object"] "ValueError.__new__" = true)
    (xa_NoPair : PySem.W.nsIn K mainGlobals "NoPair" = some (some (.ref C_NoPair)))
    (xg_NoPair : PySem.W.findIn K (.ref C_NoPair) "__getattribute__" = some (some (.builtin "BaseException.__getattribute__")))
    (xk_NoPair : PySem.W.findIn K (.ref C_NoPair) "__getattr__" = some none)
    (xs_NoPair : PySem.W.subIn K (.ref C_NoPair) (.type "BaseException") = some true)
    (xd_NoPair : PySem.W.hasDictIn K C_NoPair = true)
    (xc_NoPair : PySem.W.findIn K (.ref C_NoPair) "__class__" = some (some (.builtin "object.__class__")))
    (xm_NoPair : PySem.W.mroIn K C_NoPair (.type "object") = some true)
    (xy_NoPair : PySem.W.typeIn K (.ref C_NoPair) = some (.type "type"))
    (xp_NoPair : PySem.W.keepIn K (.ref C_NoPair) = true)
    (xo_NoPair : PySem.W.subIn K (.ref C_NoPair) (.ref C_NoPair) = some true)
    (xq_NoPair : PySem.W.excIn K C_NoPair [.type "ValueError", .type "Exception", .type "BaseException", .type "object"] "ValueError.__new__" = true)
    (xa_TooWide : PySem.W.nsIn K mainGlobals "TooWide" = some (some (.ref C_TooWide)))
    (xg_TooWide : PySem.W.findIn K (.ref C_TooWide) "__getattribute__" = some (some (.builtin "BaseException.__getattribute__")))
    (xk_TooWide : PySem.W.findIn K (.ref C_TooWide) "__getattr__" = some none)
    (xs_TooWide : PySem.W.subIn K (.ref C_TooWide) (.type "BaseException") = some true)
    (xd_TooWide : PySem.W.hasDictIn K C_TooWide = true)
    (xc_TooWide : PySem.W.findIn K (.ref C_TooWide) "__class__" = some (some (.builtin "object.__class__")))
    (xm_TooWide : PySem.W.mroIn K C_TooWide (.type "object") = some true)
    (xy_TooWide : PySem.W.typeIn K (.ref C_TooWide) = some (.type "type"))
    (xp_TooWide : PySem.W.keepIn K (.ref C_TooWide) = true)
    (xo_TooWide : PySem.W.subIn K (.ref C_TooWide) (.ref C_TooWide) = some true)
    (xq_TooWide : PySem.W.excIn K C_TooWide [.type "ValueError", .type "Exception", .type "BaseException", .type "object"] "ValueError.__new__" = true)
    (xa_NoWord : PySem.W.nsIn K mainGlobals "NoWord" = some (some (.ref C_NoWord)))
    (xg_NoWord : PySem.W.findIn K (.ref C_NoWord) "__getattribute__" = some (some (.builtin "BaseException.__getattribute__")))
    (xk_NoWord : PySem.W.findIn K (.ref C_NoWord) "__getattr__" = some none)
    (xs_NoWord : PySem.W.subIn K (.ref C_NoWord) (.type "BaseException") = some true)
    (xd_NoWord : PySem.W.hasDictIn K C_NoWord = true)
    (xc_NoWord : PySem.W.findIn K (.ref C_NoWord) "__class__" = some (some (.builtin "object.__class__")))
    (xm_NoWord : PySem.W.mroIn K C_NoWord (.type "object") = some true)
    (xy_NoWord : PySem.W.typeIn K (.ref C_NoWord) = some (.type "type"))
    (xp_NoWord : PySem.W.keepIn K (.ref C_NoWord) = true)
    (xo_NoWord : PySem.W.subIn K (.ref C_NoWord) (.ref C_NoWord) = some true)
    (kk_BadRow : PySem.W.kitOne K (.ref C_NoWord) (.ref C_BadRow) = some false)
    (kk_NoPair : PySem.W.kitOne K (.ref C_NoWord) (.ref C_NoPair) = some false)
    (kk_NoRule : PySem.W.kitOne K (.ref C_NoWord) (.ref C_NoRule) = some false)
    (kk_TooWide : PySem.W.kitOne K (.ref C_NoWord) (.ref C_TooWide) = some false)
    (kk_WindowError : PySem.W.kitOne K (.ref C_NoWord) (.ref C_WindowError) = some true)
    (kk_ValueError : PySem.W.kitOne K (.ref C_NoWord) (.type "ValueError") = some true)
    (nv_ValueError : NB K "ValueError")
    (oex : OexC K C_NoWord)
    (nwat : PySem.W.findIn K (.ref C_NoWord) "at" = some none)
    (dm_NoWord : DM K C_NoWord "__init__" "NoWord.__init__" s_NoWord___init__)
    : ∃ fd : FuncData, (∀ (s : Shared) (u : Value), BindsTo s fd ⟨[u], []⟩ [("_law_script", u)]) ∧ ∀ base : Heap, K.In base → base.Ns mainGlobals mg → FnG l.prog w K mg base true 6 fa fd ["_law_script"] (toSp K (cLaw 63)) := by
  refine law_end (k := 5) X G hfa d_law (fun _ _ _ _ _ _ us hl => match us, hl with | [_], _ => rfl) sc_law fun base C hP hw hK hm hb hg => ?_
  have B : Blts C.mg := by rw [hm]; exact ⟨z_abs.no X G, z_all.no X G, z_any.no X G, z_bool.no X G, z_int.no X G, z_isinstance.no X G, z_len.no X G, z_list.no X G, z_max.no X G, z_min.no X G, z_range.no X G, z_repr.no X G, z_set.no X G, z_sorted.no X G, z_str.no X G, z_sum.no X G, z_tuple.no X G, z_zip.no X G, z_dict.no X G, z_type.no X G, z_enumerate.no X G⟩
  have D_is_signs : Dn C "is_signs" s_is_signs ["thing"] := d_is_signs.dn hK hm X G (fun _ _ _ _ _ _ us hl => match us, hl with | [_], _ => rfl)
  have D_is_word : Dn C "is_word" s_is_word ["thing", "signs"] := d_is_word.dn hK hm X G (fun _ _ _ _ _ _ us hl => match us, hl with | [_, _], _ => rfl)
  have D_is_whole : Dn C "is_whole" s_is_whole ["thing"] := d_is_whole.dn hK hm X G (fun _ _ _ _ _ _ us hl => match us, hl with | [_], _ => rfl)
  have D_many_words : Dn C "many_words" s_many_words ["base", "size"] := d_many_words.dn hK hm X G (fun _ _ _ _ _ _ us hl => match us, hl with | [_, _], _ => rfl)
  have D_is_window : Dn C "is_window" s_is_window ["thing", "base"] := d_is_window.dn hK hm X G (fun _ _ _ _ _ _ us hl => match us, hl with | [_, _], _ => rfl)
  have D_are_letters : Dn C "are_letters" s_are_letters ["some", "base"] := d_are_letters.dn hK hm X G (fun _ _ _ _ _ _ us hl => match us, hl with | [_, _], _ => rfl)
  have D_put_along : Dn C "put_along" s_put_along ["rule", "text"] := d_put_along.dn hK hm X G (fun _ _ _ _ _ _ us hl => match us, hl with | [_, _], _ => rfl)
  have D_word_by : Dn C "word_by" s_word_by ["rule", "word"] := d_word_by.dn hK hm X G (fun _ _ _ _ _ _ us hl => match us, hl with | [_, _], _ => rfl)
  have D__law_state : Dn C "_law_state" s__law_state ["_law_script"] := d__law_state.dn hK hm X G (fun _ _ _ _ _ _ us hl => match us, hl with | [_], _ => rfl)
  have D__law_draw : Dn C "_law_draw" s__law_draw ["_law_state_here", "_law_many"] := d__law_draw.dn hK hm X G (fun _ _ _ _ _ _ us hl => match us, hl with | [_, _], _ => rfl)
  have D__law_letters : Dn C "_law_letters" s__law_letters ["_law_state_here", "_law_least", "_law_most"] := d__law_letters.dn hK hm X G (fun _ _ _ _ _ _ us hl => match us, hl with | [_, _, _], _ => rfl)
  have D__law_words : Dn C "_law_words" s__law_words ["_law_base", "_law_size_here"] := d__law_words.dn hK hm X G (fun _ _ _ _ _ _ us hl => match us, hl with | [_, _], _ => rfl)
  have D__law_window : Dn C "_law_window" s__law_window ["_law_state_here", "_law_base", "_law_goal", "_law_size_here"] := d__law_window.dn hK hm X G (fun _ _ _ _ _ _ us hl => match us, hl with | [_, _, _, _], _ => rfl)
  have D__law_size : Dn C "_law_size" s__law_size ["_law_state_here", "_law_base", "_law_most"] := d__law_size.dn hK hm X G (fun _ _ _ _ _ _ us hl => match us, hl with | [_, _, _], _ => rfl)
  have D__law_word : Dn C "_law_word" s__law_word ["_law_state_here", "_law_base", "_law_least", "_law_most"] := d__law_word.dn hK hm X G (fun _ _ _ _ _ _ us hl => match us, hl with | [_, _, _, _], _ => rfl)
  have D__law_told : Dn C "_law_told" s__law_told ["_law_maker", "_law_line"] := d__law_told.dn hK hm X G (fun _ _ _ _ _ _ us hl => match us, hl with | [_, _], _ => rfl)
  have D_Rule_init : In0 C "Rule" C_Rule "Rule.__init__" s_Rule___init__ ["self", "signs", "to", "left", "table"] := m_Rule___init__.in0 c_Rule hK hm X G (fun _ _ _ _ _ _ us hl => match us, hl with | [_, _, _, _, _], _ => rfl)
  have D_Rule_width : Mn C C_Rule "width" "Rule.width" s_Rule_width ["self"] := m_Rule_width.mn hK (fun _ _ _ _ _ _ us hl => match us, hl with | [_], _ => rfl)
  have D_Rule_signs : Mn C C_Rule "signs" "Rule.signs" s_Rule_signs ["self"] := m_Rule_signs.mn hK (fun _ _ _ _ _ _ us hl => match us, hl with | [_], _ => rfl)
  have K_word_by : Dk C "word_by" s_word_by ["rule", "word"] 0 ["word", "rule"] [1, 0] := d_word_by.dk hK hm X G (fun _ _ _ _ _ _ us ws hl hl2 => match us, ws, hl, hl2 with | [], [_, _], _, _ => rfl)
  have GW : GWord C.mg := by rw [hm]; exact ⟨g_SMALL.gt X G (by decide +kernel), g_MOST_SIGNS.gi X G, g_MOST_WORD.gi X G⟩
  have GKc : GK C := by
    refine ⟨?_, ?_, ?_, ?_, ?_, ?_⟩ <;> rw [hm]
    · exact g_SMALL.gt X G (by decide +kernel)
    · exact g_MOST_SIGNS.gi X G
    · exact g_MOST_WORD.gi X G
    · exact g_MOST_LEFT.gi X G
    · exact g_MOST_WIDTH.gi X G
    · exact g_MOST_WORDS.gi X G
  have G_Rule : GC_Rule C C_Rule := by
    refine ⟨?_, ?_, ?_, ?_, ?_, ?_, ?_⟩
    · rw [hm]; exact PySem.W.mg_of X G c_Rule.a
    · rw [hK]; exact c_Rule.cls
    · rw [hK]; exact ⟨c_Rule.cls, c_Rule.ha, cg, ck, c_Rule.hm⟩
    · rw [hK]; exact na_Rule_read_letters
    · rw [hK]; exact na_Rule_put_letters
    · rw [hK]; exact na_Rule_looks_back
    · rw [hK]; exact na_Rule_window_table
  have mg_WindowError : C.mg "WindowError" = some (.ref C_WindowError) := by rw [hm]; exact PySem.W.mg_of X G xa_WindowError
  have ec_WindowError : ExcC C.K C_WindowError := by rw [hK]; exact ⟨xg_WindowError, xk_WindowError, xs_WindowError, xd_WindowError, xc_WindowError, cg, ck, xm_WindowError⟩
  have em_WindowError : PySem.W.exmOne C.K (.ref C_WindowError) (.ref C_WindowError) = some true := by rw [hK]; exact PySem.W.exm_ref xs_WindowError xd_WindowError xy_WindowError xo_WindowError
  have G_WindowError : GX_WindowError C C_WindowError := ⟨mg_WindowError, ec_WindowError, em_WindowError, ⟨mg_WindowError, by rw [hK]; exact xq_WindowError, by rw [hK]; exact xp_WindowError, by rw [hK]; exact xs_WindowError, by rw [hK]; exact xy_WindowError⟩⟩
  have mg_BadRow : C.mg "BadRow" = some (.ref C_BadRow) := by rw [hm]; exact PySem.W.mg_of X G xa_BadRow
  have ec_BadRow : ExcC C.K C_BadRow := by rw [hK]; exact ⟨xg_BadRow, xk_BadRow, xs_BadRow, xd_BadRow, xc_BadRow, cg, ck, xm_BadRow⟩
  have em_BadRow : PySem.W.exmOne C.K (.ref C_BadRow) (.ref C_BadRow) = some true := by rw [hK]; exact PySem.W.exm_ref xs_BadRow xd_BadRow xy_BadRow xo_BadRow
  have G_BadRow : GX_BadRow C C_BadRow := ⟨mg_BadRow, ec_BadRow, em_BadRow, ⟨mg_BadRow, by rw [hK]; exact xq_BadRow, by rw [hK]; exact xp_BadRow, by rw [hK]; exact xs_BadRow, by rw [hK]; exact xy_BadRow⟩⟩
  have mg_NoRule : C.mg "NoRule" = some (.ref C_NoRule) := by rw [hm]; exact PySem.W.mg_of X G xa_NoRule
  have ec_NoRule : ExcC C.K C_NoRule := by rw [hK]; exact ⟨xg_NoRule, xk_NoRule, xs_NoRule, xd_NoRule, xc_NoRule, cg, ck, xm_NoRule⟩
  have em_NoRule : PySem.W.exmOne C.K (.ref C_NoRule) (.ref C_NoRule) = some true := by rw [hK]; exact PySem.W.exm_ref xs_NoRule xd_NoRule xy_NoRule xo_NoRule
  have G_NoRule : GX_NoRule C C_NoRule := ⟨mg_NoRule, ec_NoRule, em_NoRule, ⟨mg_NoRule, by rw [hK]; exact xq_NoRule, by rw [hK]; exact xp_NoRule, by rw [hK]; exact xs_NoRule, by rw [hK]; exact xy_NoRule⟩⟩
  have mg_NoPair : C.mg "NoPair" = some (.ref C_NoPair) := by rw [hm]; exact PySem.W.mg_of X G xa_NoPair
  have ec_NoPair : ExcC C.K C_NoPair := by rw [hK]; exact ⟨xg_NoPair, xk_NoPair, xs_NoPair, xd_NoPair, xc_NoPair, cg, ck, xm_NoPair⟩
  have em_NoPair : PySem.W.exmOne C.K (.ref C_NoPair) (.ref C_NoPair) = some true := by rw [hK]; exact PySem.W.exm_ref xs_NoPair xd_NoPair xy_NoPair xo_NoPair
  have G_NoPair : GX_NoPair C C_NoPair := ⟨mg_NoPair, ec_NoPair, em_NoPair, ⟨mg_NoPair, by rw [hK]; exact xq_NoPair, by rw [hK]; exact xp_NoPair, by rw [hK]; exact xs_NoPair, by rw [hK]; exact xy_NoPair⟩⟩
  have mg_TooWide : C.mg "TooWide" = some (.ref C_TooWide) := by rw [hm]; exact PySem.W.mg_of X G xa_TooWide
  have ec_TooWide : ExcC C.K C_TooWide := by rw [hK]; exact ⟨xg_TooWide, xk_TooWide, xs_TooWide, xd_TooWide, xc_TooWide, cg, ck, xm_TooWide⟩
  have em_TooWide : PySem.W.exmOne C.K (.ref C_TooWide) (.ref C_TooWide) = some true := by rw [hK]; exact PySem.W.exm_ref xs_TooWide xd_TooWide xy_TooWide xo_TooWide
  have G_TooWide : GX_TooWide C C_TooWide := ⟨mg_TooWide, ec_TooWide, em_TooWide, ⟨mg_TooWide, by rw [hK]; exact xq_TooWide, by rw [hK]; exact xp_TooWide, by rw [hK]; exact xs_TooWide, by rw [hK]; exact xy_TooWide⟩⟩
  have mg_NoWord : C.mg "NoWord" = some (.ref C_NoWord) := by rw [hm]; exact PySem.W.mg_of X G xa_NoWord
  have ec_NoWord : ExcC C.K C_NoWord := by rw [hK]; exact ⟨xg_NoWord, xk_NoWord, xs_NoWord, xd_NoWord, xc_NoWord, cg, ck, xm_NoWord⟩
  have em_NoWord : PySem.W.exmOne C.K (.ref C_NoWord) (.ref C_NoWord) = some true := by rw [hK]; exact PySem.W.exm_ref xs_NoWord xd_NoWord xy_NoWord xo_NoWord
  have G_NoWord : GX_NoWord C C_NoWord := by
    obtain ⟨fI, a1, i1, fdI, FI⟩ := dm_NoWord
    refine ⟨mg_NoWord, ec_NoWord, em_NoWord, ⟨mg_NoWord, by rw [hK]; exact oex, by rw [hK]; exact nwat, ?_⟩, by rw [hK]; exact ⟨xg_NoWord, xk_NoWord, xs_NoWord, xd_NoWord⟩, by rw [hK]; exact nwat⟩
    rw [hK]
    exact ⟨fI, fdI, "NoWord.__init__", s_NoWord___init__, "self", "at", _, _, _, _, a1, eq_of_beq i1, FI, FI.binds (fun _ _ _ _ _ _ us hl => match us, hl with | [_, _], _ => rfl), sc_NoWord___init__, rfl, by decide, by decide, by decide, by decide⟩
  have KK_BadRow : PySem.W.kitOne C.K (.ref C_NoWord) (.ref C_BadRow) = some false := by rw [hK]; exact kk_BadRow
  have KK_NoPair : PySem.W.kitOne C.K (.ref C_NoWord) (.ref C_NoPair) = some false := by rw [hK]; exact kk_NoPair
  have KK_NoRule : PySem.W.kitOne C.K (.ref C_NoWord) (.ref C_NoRule) = some false := by rw [hK]; exact kk_NoRule
  have KK_TooWide : PySem.W.kitOne C.K (.ref C_NoWord) (.ref C_TooWide) = some false := by rw [hK]; exact kk_TooWide
  have KK_WindowError : PySem.W.kitOne C.K (.ref C_NoWord) (.ref C_WindowError) = some true := by rw [hK]; exact kk_WindowError
  have KK_ValueError : PySem.W.kitOne C.K (.ref C_NoWord) (.type "ValueError") = some true := by rw [hK]; exact kk_ValueError
  have N_ValueError : C.mg "ValueError" = none := by rw [hm]; exact nv_ValueError.no X G
  have F_is_signs := F_is_signs B GW D_is_signs
  have F_is_word := F_is_word B GW D_is_word
  have F_is_whole := F_is_whole B D_is_whole
  have F_many_words := F_many_words B D_many_words
  have F_are_letters := F_are_letters B D_are_letters
  have F_is_window := F_is_window B GKc F_many_words F_is_word D_is_window
  have F_Rule := D_Rule_init.mkd sc_Rule___init__ (wf_cRule _) (fun _ _ => rfl) (B_Rule_init G_Rule B GKc F_is_signs F_is_whole F_is_window F_are_letters)
  have F_Rule : MkD C 4 "Rule" C_Rule ["self", "signs", "to", "left", "table"] (cRule C_Rule) := F_Rule.up (by decide)
  have M_width := F_Rule_width G_Rule B D_Rule_width
  have M_signs := F_Rule_signs G_Rule D_Rule_signs
  have F_put_along := F_put_along G_Rule B M_width D_put_along
  have b_word := B_word_by G_Rule G_NoWord B M_signs F_put_along
  have F_word_by := D_word_by.fnd sc_word_by (wf_cWordBy _ _) (fun _ _ => rfl) b_word
  have K_word_by := K_word_by.fnk sc_word_by (wf_cWordBy _ _) (fun _ _ => rfl) b_word
  have F_told := F_law_told G_Rule G_NoWord G_BadRow G_NoPair G_NoRule G_TooWide G_WindowError KK_BadRow KK_NoPair KK_NoRule KK_TooWide KK_WindowError KK_ValueError N_ValueError B F_word_by D__law_told
  have L1 := F_law_state B D__law_state
  have L2 := F_law_draw B D__law_draw
  have L3 := F_law_letters B L2 D__law_letters
  have L4 := F_law_words B D__law_words
  have L5 := F_law_window B L2 L4 D__law_window
  have L6 := F_law_size B L2 L4 D__law_size
  have L7 := F_law_word B L2 D__law_word
  exact B_law G_Rule G_NoWord B L1 L2 L3 L6 L5 L7 F_told F_Rule K_word_by
theorem walk {l : PySem.W.OpenLaw} {q : Program} {loose : List Str} {XP : (Str → Option Value) → Heap → Prop} {YP : World → Heap → Prop} {d : DefRec} {K : Params → PySem.W.Frag} (hn : l.most = some 63) (hdf : d.params.defaults = [])
    (hY : ∀ (w : World) (h : Heap), YP w h → (K w.params).In h)
    (F : ∀ (w : World) (mg : Str → Option Value) (fa : Addr) (h : Heap), (K w.params).In h → h.Ns mainGlobals mg → mg d.name = some (.ref fa) →
      ∃ fd : FuncData, (∀ (s : Shared) (u : Value), BindsTo s fd ⟨[u], []⟩ [("_law_script", u)]) ∧ ∀ base : Heap, (K w.params).In base → base.Ns mainGlobals mg → FnG l.prog w (K w.params) mg base true 6 fa fd ["_law_script"] (toSp (K w.params) (cLaw 63))) :
    PySem.W.WalkO q loose XP YP l.row.toRowW d [] (fun f vs => PySem.call f vs) :=
  walk_dl (n := 63) (k := 6) (x := "_law_script") hn (by decide) hdf ⟨rfl, by decide, by decide⟩ hY F
end DL
open PySem PySem.W PyProof.Rows
set_option maxRecDepth 100000 in
set_option maxHeartbeats 0 in
theorem PySem.Challenge.cw_windowlaw_k21_what_is_put_along_words_holds : PySem.Challenge.rw_windowlaw_k21_what_is_put_along_words.Holds := by
  w_on; o_law; k_head; (case hw => w_witness2)
  k_fill
  refine DL.walk (l := PySem.Challenge.rw_windowlaw_k21_what_is_put_along_words) rfl rfl (fun w h Y => PySem.W.kIn_of Y) ?F
  case F =>
    intro w mg fa h KX G hmg
    refine' DL.all_mk KX G hmg ?d_is_signs ?d_is_word ?d_is_whole ?d_many_words ?d_is_window ?d_are_letters ?d_put_along ?d_word_by ?d__law_state ?d__law_draw ?d__law_letters ?d__law_words ?d__law_window ?d__law_size ?d__law_word ?d__law_told ?d_law ?c_Rule ?m_Rule___init__ ?m_Rule_width ?m_Rule_signs ?na_Rule_read_letters ?na_Rule_put_letters ?na_Rule_looks_back ?na_Rule_window_table ?z_abs ?z_all ?z_any ?z_bool ?z_int ?z_isinstance ?z_len ?z_list ?z_max ?z_min ?z_range ?z_repr ?z_set ?z_sorted ?z_str ?z_sum ?z_tuple ?z_zip ?z_dict ?z_type ?z_enumerate ?g_MOST_SIGNS ?g_MOST_WORD ?g_MOST_LEFT ?g_MOST_WIDTH ?g_MOST_WORDS ?g_SMALL ?cg ?ck ?xa_WindowError ?xg_WindowError ?xk_WindowError ?xs_WindowError ?xd_WindowError ?xc_WindowError ?xm_WindowError ?xy_WindowError ?xp_WindowError ?xo_WindowError ?xq_WindowError ?xa_BadRow ?xg_BadRow ?xk_BadRow ?xs_BadRow ?xd_BadRow ?xc_BadRow ?xm_BadRow ?xy_BadRow ?xp_BadRow ?xo_BadRow ?xq_BadRow ?xa_NoRule ?xg_NoRule ?xk_NoRule ?xs_NoRule ?xd_NoRule ?xc_NoRule ?xm_NoRule ?xy_NoRule ?xp_NoRule ?xo_NoRule ?xq_NoRule ?xa_NoPair ?xg_NoPair ?xk_NoPair ?xs_NoPair ?xd_NoPair ?xc_NoPair ?xm_NoPair ?xy_NoPair ?xp_NoPair ?xo_NoPair ?xq_NoPair ?xa_TooWide ?xg_TooWide ?xk_TooWide ?xs_TooWide ?xd_TooWide ?xc_TooWide ?xm_TooWide ?xy_TooWide ?xp_TooWide ?xo_TooWide ?xq_TooWide ?xa_NoWord ?xg_NoWord ?xk_NoWord ?xs_NoWord ?xd_NoWord ?xc_NoWord ?xm_NoWord ?xy_NoWord ?xp_NoWord ?xo_NoWord ?kk_BadRow ?kk_NoPair ?kk_NoRule ?kk_TooWide ?kk_WindowError ?kk_ValueError ?nv_ValueError ?oex ?nwat ?dm_NoWord
    (case d_is_signs => refine' DL.df_mk ?a ?l ?c ?k; (case a => k_is); (case l => k_is); (case c => k_is); (case k => k_is))
    (case d_is_word => refine' DL.df_mk ?a ?l ?c ?k; (case a => k_is); (case l => k_is); (case c => k_is); (case k => k_is))
    (case d_is_whole => refine' DL.df_mk ?a ?l ?c ?k; (case a => k_is); (case l => k_is); (case c => k_is); (case k => k_is))
    (case d_many_words => refine' DL.df_mk ?a ?l ?c ?k; (case a => k_is); (case l => k_is); (case c => k_is); (case k => k_is))
    (case d_is_window => refine' DL.df_mk ?a ?l ?c ?k; (case a => k_is); (case l => k_is); (case c => k_is); (case k => k_is))
    (case d_are_letters => refine' DL.df_mk ?a ?l ?c ?k; (case a => k_is); (case l => k_is); (case c => k_is); (case k => k_is))
    (case d_put_along => refine' DL.df_mk ?a ?l ?c ?k; (case a => k_is); (case l => k_is); (case c => k_is); (case k => k_is))
    (case d_word_by => refine' DL.df_mk ?a ?l ?c ?k; (case a => k_is); (case l => k_is); (case c => k_is); (case k => k_is))
    (case d__law_state => refine' DL.df_mk ?a ?l ?c ?k; (case a => k_is); (case l => k_is); (case c => k_is); (case k => k_is))
    (case d__law_draw => refine' DL.df_mk ?a ?l ?c ?k; (case a => k_is); (case l => k_is); (case c => k_is); (case k => k_is))
    (case d__law_letters => refine' DL.df_mk ?a ?l ?c ?k; (case a => k_is); (case l => k_is); (case c => k_is); (case k => k_is))
    (case d__law_words => refine' DL.df_mk ?a ?l ?c ?k; (case a => k_is); (case l => k_is); (case c => k_is); (case k => k_is))
    (case d__law_window => refine' DL.df_mk ?a ?l ?c ?k; (case a => k_is); (case l => k_is); (case c => k_is); (case k => k_is))
    (case d__law_size => refine' DL.df_mk ?a ?l ?c ?k; (case a => k_is); (case l => k_is); (case c => k_is); (case k => k_is))
    (case d__law_word => refine' DL.df_mk ?a ?l ?c ?k; (case a => k_is); (case l => k_is); (case c => k_is); (case k => k_is))
    (case d__law_told => refine' DL.df_mk ?a ?l ?c ?k; (case a => k_is); (case l => k_is); (case c => k_is); (case k => k_is))
    (case d_law => refine' DL.df_mk ?a ?l ?c ?k; (case a => k_is); (case l => k_is); (case c => k_is); (case k => k_is))
    (case c_Rule => refine' ⟨?a, ?mks, ?kc, ?pg, ?hd, ?po, ?sa, ?ha, ?hm⟩; (case a => k_is); (case mks => k_is); (case kc => k_is); (case pg => k_is); (case hd => k_is); (case po => k_is); (case sa => k_is); (case ha => k_is); (case hm => k_is))
    (case m_Rule___init__ => refine' DL.dm_mk ?a ?i ?l ?c ?k; (case a => k_is); (case i => k_is); (case l => k_is); (case c => k_is); (case k => k_is))
    (case m_Rule_width => refine' DL.dm_mk ?a ?i ?l ?c ?k; (case a => k_is); (case i => k_is); (case l => k_is); (case c => k_is); (case k => k_is))
    (case m_Rule_signs => refine' DL.dm_mk ?a ?i ?l ?c ?k; (case a => k_is); (case i => k_is); (case l => k_is); (case c => k_is); (case k => k_is))
    (case na_Rule_read_letters => show PySem.W.findIn _ _ _ = _; k_is)
    (case na_Rule_put_letters => show PySem.W.findIn _ _ _ = _; k_is)
    (case na_Rule_looks_back => show PySem.W.findIn _ _ _ = _; k_is)
    (case na_Rule_window_table => show PySem.W.findIn _ _ _ = _; k_is)
    (case z_abs => show PySem.W.nsIn _ _ _ = _; k_is)
    (case z_all => show PySem.W.nsIn _ _ _ = _; k_is)
    (case z_any => show PySem.W.nsIn _ _ _ = _; k_is)
    (case z_bool => show PySem.W.nsIn _ _ _ = _; k_is)
    (case z_int => show PySem.W.nsIn _ _ _ = _; k_is)
    (case z_isinstance => show PySem.W.nsIn _ _ _ = _; k_is)
    (case z_len => show PySem.W.nsIn _ _ _ = _; k_is)
    (case z_list => show PySem.W.nsIn _ _ _ = _; k_is)
    (case z_max => show PySem.W.nsIn _ _ _ = _; k_is)
    (case z_min => show PySem.W.nsIn _ _ _ = _; k_is)
    (case z_range => show PySem.W.nsIn _ _ _ = _; k_is)
    (case z_repr => show PySem.W.nsIn _ _ _ = _; k_is)
    (case z_set => show PySem.W.nsIn _ _ _ = _; k_is)
    (case z_sorted => show PySem.W.nsIn _ _ _ = _; k_is)
    (case z_str => show PySem.W.nsIn _ _ _ = _; k_is)
    (case z_sum => show PySem.W.nsIn _ _ _ = _; k_is)
    (case z_tuple => show PySem.W.nsIn _ _ _ = _; k_is)
    (case z_zip => show PySem.W.nsIn _ _ _ = _; k_is)
    (case z_dict => show PySem.W.nsIn _ _ _ = _; k_is)
    (case z_type => show PySem.W.nsIn _ _ _ = _; k_is)
    (case z_enumerate => show PySem.W.nsIn _ _ _ = _; k_is)
    (case g_MOST_SIGNS => refine' DL.ci_mk ?a; (case a => k_is))
    (case g_MOST_WORD => refine' DL.ci_mk ?a; (case a => k_is))
    (case g_MOST_LEFT => refine' DL.ci_mk ?a; (case a => k_is))
    (case g_MOST_WIDTH => refine' DL.ci_mk ?a; (case a => k_is))
    (case g_MOST_WORDS => refine' DL.ci_mk ?a; (case a => k_is))
    (case g_SMALL => refine' DL.ct_mk ?a; (case a => k_is))
    (case cg => k_is)
    (case ck => k_is)
    (case xa_WindowError => k_is)
    (case xg_WindowError => k_is)
    (case xk_WindowError => k_is)
    (case xs_WindowError => k_is)
    (case xd_WindowError => k_is)
    (case xc_WindowError => k_is)
    (case xm_WindowError => k_is)
    (case xy_WindowError => k_is)
    (case xp_WindowError => k_is)
    (case xo_WindowError => k_is)
    (case xq_WindowError => first | k_exc | k_is)
    (case xa_BadRow => k_is)
    (case xg_BadRow => k_is)
    (case xk_BadRow => k_is)
    (case xs_BadRow => k_is)
    (case xd_BadRow => k_is)
    (case xc_BadRow => k_is)
    (case xm_BadRow => k_is)
    (case xy_BadRow => k_is)
    (case xp_BadRow => k_is)
    (case xo_BadRow => k_is)
    (case xq_BadRow => first | k_exc | k_is)
    (case xa_NoRule => k_is)
    (case xg_NoRule => k_is)
    (case xk_NoRule => k_is)
    (case xs_NoRule => k_is)
    (case xd_NoRule => k_is)
    (case xc_NoRule => k_is)
    (case xm_NoRule => k_is)
    (case xy_NoRule => k_is)
    (case xp_NoRule => k_is)
    (case xo_NoRule => k_is)
    (case xq_NoRule => first | k_exc | k_is)
    (case xa_NoPair => k_is)
    (case xg_NoPair => k_is)
    (case xk_NoPair => k_is)
    (case xs_NoPair => k_is)
    (case xd_NoPair => k_is)
    (case xc_NoPair => k_is)
    (case xm_NoPair => k_is)
    (case xy_NoPair => k_is)
    (case xp_NoPair => k_is)
    (case xo_NoPair => k_is)
    (case xq_NoPair => first | k_exc | k_is)
    (case xa_TooWide => k_is)
    (case xg_TooWide => k_is)
    (case xk_TooWide => k_is)
    (case xs_TooWide => k_is)
    (case xd_TooWide => k_is)
    (case xc_TooWide => k_is)
    (case xm_TooWide => k_is)
    (case xy_TooWide => k_is)
    (case xp_TooWide => k_is)
    (case xo_TooWide => k_is)
    (case xq_TooWide => first | k_exc | k_is)
    (case xa_NoWord => k_is)
    (case xg_NoWord => k_is)
    (case xk_NoWord => k_is)
    (case xs_NoWord => k_is)
    (case xd_NoWord => k_is)
    (case xc_NoWord => k_is)
    (case xm_NoWord => k_is)
    (case xy_NoWord => k_is)
    (case xp_NoWord => k_is)
    (case xo_NoWord => k_is)
    (case kk_BadRow => first | kit_is | k_is)
    (case kk_NoPair => first | kit_is | k_is)
    (case kk_NoRule => first | kit_is | k_is)
    (case kk_TooWide => first | kit_is | k_is)
    (case kk_WindowError => first | kit_is | k_is)
    (case kk_ValueError => first | kit_is | k_is)
    (case nv_ValueError => show PySem.W.nsIn _ _ _ = _; k_is)
    (case oex => refine' DL.oex_mk ?a ?c ?d ?e ?f ?b; (case a => k_is); (case c => k_is); (case d => k_is); (case e => k_is); (case f => k_is); (case b => decide +kernel))
    (case nwat => k_is)
    (case dm_NoWord => refine' DL.dm_mk ?a ?i ?l ?c ?k; (case a => k_is); (case i => k_is); (case l => k_is); (case c => k_is); (case k => k_is))
#print axioms PySem.Challenge.cw_windowlaw_k21_what_is_put_along_words_holds
