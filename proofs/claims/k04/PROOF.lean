import PyProof.Rows.All
import Wide.All
import OpenK.AllK
import Wide.FinOn
import HandS.ForMost
import HandS.Exc
import HandS.Walk
import HandS.Deep
import HandS.TupAny
import HandS.Style
import HandS.SortInts
import HandS.SortOrd
import HandS.Zip
import HandS.Rev
import HandS.RevRange
import HandS.Conv
import HandS.DictComp
import HandS.Wide
import KE.DataEq
import KE.DataCmp
import KE.DataMinMax
import KE.DataFind
import KE.DataAny
import KE.DataIsa
import KE.SortData
import KE.SortKeyHeap
import PyProof.SeqIndex
import PyProof.ReprRoads
import KE.KIndexOf
import PyProof.DictUpdate
import KE.KUnpackStar
import HandS.Codes
import HandS.Ends
import HandS.EndBits
import PySem.Challenge.RW_surfacetwists_k04_told_pieces
set_option Elab.async false
set_option linter.all false
set_option autoImplicit false
set_option maxRecDepth 100000
set_option maxHeartbeats 4000000
/-! EV1: the core language and its evaluator; the relation between its states and those of the hand layer -/
namespace EV
open PySem PySem.Spec L2

abbrev Dt := PyData
/-- a value of the evaluator: data that never changes from here on, or a cell of the frame -/
inductive Ev where
  | d (x : Dt)
  | r (n : Nat)
inductive Cell where
  | lst (xs : List Dt)
  | dic (lk : Bool) (kvs : List (Key × Dt))
  | ro (xs : List Dt)
  | dead
abbrev Hs := List Cell
structure Exn where
  cls : Str
  fs : List (Str × Dt)
inductive R (α : Type) where
  | ok (a : α) (h : Hs)
  | ex (x : Exn) (h : Hs)
  | bad
def R.bind {α β : Type} : R α → (α → Hs → R β) → R β
  | .ok a h, k => k a h
  | .ex x h, _ => .ex x h
  | .bad, _ => .bad
abbrev Sl := List (Option Ev)

/-! ### the relation of data to values -/
section
variable (K : PySem.W.Frag) (H : Hp) (L : Addr → Prop)
/-- a written tuple -/
def KT (a : Addr) (xs : List V) : Prop := ∃ (o : Obj) (its : Array Value) (n : Nat), K.lookup a = some o ∧ o.cls = .type "tuple" ∧ o.dict = none ∧ o.data = .seq its n ∧ its.size ≤ sizeLine ∧ Vals xs its.toList
def keyD : Key → Dt
  | .inl i => .int i
  | .inr x => .str x
mutual
inductive RD : V → Dt → Prop
  | non : RD .non .none
  | bl (b : Bool) : RD (.bl b) (.bool b)
  | int (i : Int) : RD (.int i) (.int i)
  | str (x : Str) : RD (.str x) (.str x)
  | lst {a : Addr} {vs : List V} {ds : List Dt} : H a = some (.lst vs) → ¬ L a → RDs vs ds → RD (.ref a) (.list ds)
  | tup {a : Addr} {vs : List V} {ds : List Dt} : ((∃ o : Obj, H a = some (.frz o (.tup vs)) ∧ o.dict = none ∧ ¬ L a) ∨ KT K a vs) → RDs vs ds → RD (.ref a) (.tuple ds)
  | dic {a : Addr} {vs : List (Key × V)} {ds : List (Dt × Dt)} : H a = some (.dK vs) → ¬ L a → RDk vs ds → RD (.ref a) (.dict ds)
inductive RDs : List V → List Dt → Prop
  | nil : RDs [] []
  | cons {v : V} {vs : List V} {d : Dt} {ds : List Dt} : RD v d → RDs vs ds → RDs (v :: vs) (d :: ds)
inductive RDk : List (Key × V) → List (Dt × Dt) → Prop
  | nil : RDk [] []
  | cons {k : Key} {v : V} {vs : List (Key × V)} {d : Dt} {ds : List (Dt × Dt)} : RD v d → RDk vs ds → RDk ((k, v) :: vs) ((keyD k, d) :: ds)
end
end

variable {K : PySem.W.Frag} {H H' : Hp} {L L' : Addr → Prop}
theorem KT.sq {a : Addr} {xs : List V} (q : KT K a xs) : SqT K H a xs := by
  obtain ⟨o, its, n, h1, h2, h3, h4, h5, h6⟩ := q
  exact .inr ⟨o, its, n, h1, h2, h4, h5, h6⟩
/-- what is tracked and may not change stays -/
def Stay (H : Hp) (L : Addr → Prop) (H' : Hp) (L' : Addr → Prop) : Prop := ∀ a o, H a = some o → ¬ L a → H' a = some o ∧ ¬ L' a
mutual
theorem RD.mono (st : Stay H L H' L') : ∀ {v : V} {d : Dt}, RD K H L v d → RD K H' L' v d
  | _, _, .non => .non
  | _, _, .bl b => .bl b
  | _, _, .int i => .int i
  | _, _, .str x => .str x
  | _, _, .lst q n r => .lst (st _ _ q n).1 (st _ _ q n).2 (RDs.mono st r)
  | _, _, .tup q r => .tup (q.imp (fun ⟨o, z1, z2, z3⟩ => ⟨o, (st _ _ z1 z3).1, z2, (st _ _ z1 z3).2⟩) id) (RDs.mono st r)
  | _, _, .dic q n r => .dic (st _ _ q n).1 (st _ _ q n).2 (RDk.mono st r)
theorem RDs.mono (st : Stay H L H' L') : ∀ {vs : List V} {ds : List Dt}, RDs K H L vs ds → RDs K H' L' vs ds
  | _, _, .nil => .nil
  | _, _, .cons a b => .cons (RD.mono st a) (RDs.mono st b)
theorem RDk.mono (st : Stay H L H' L') : ∀ {vs : List (Key × V)} {ds : List (Dt × Dt)}, RDk K H L vs ds → RDk K H' L' vs ds
  | _, _, .nil => .nil
  | _, _, .cons a b => .cons (RD.mono st a) (RDk.mono st b)
end
theorem RDs.length : ∀ {vs : List V} {ds : List Dt}, RDs K H L vs ds → vs.length = ds.length
  | _, _, .nil => rfl
  | _, _, .cons _ b => by rw [List.length_cons, List.length_cons, RDs.length b]
theorem RDs.append : ∀ {vs ws : List V} {ds es : List Dt}, RDs K H L vs ds → RDs K H L ws es → RDs K H L (vs ++ ws) (ds ++ es)
  | _, _, _, _, .nil, s => s
  | _, _, _, _, .cons a b, s => .cons a (RDs.append b s)
theorem RDs.get : ∀ {vs : List V} {ds : List Dt} {i : Nat} {d : Dt}, RDs K H L vs ds → ds[i]? = some d → ∃ v, vs[i]? = some v ∧ RD K H L v d
  | _, _, _, _, .nil, e => by simp at e
  | _, _, 0, _, .cons a _, e => by
    simp at e
    subst e
    exact ⟨_, rfl, a⟩
  | _, _, i + 1, d, .cons _ b, e => by
    obtain ⟨v, h1, h2⟩ := RDs.get (i := i) (d := d) b (by simpa using e)
    exact ⟨v, by simpa using h1, h2⟩
theorem RDs.take : ∀ {vs : List V} {ds : List Dt} (n : Nat), RDs K H L vs ds → RDs K H L (vs.take n) (ds.take n)
  | _, _, 0, _ => .nil
  | _, _, _ + 1, .nil => .nil
  | _, _, n + 1, .cons a b => .cons a (RDs.take n b)
theorem RDs.drop : ∀ {vs : List V} {ds : List Dt} (n : Nat), RDs K H L vs ds → RDs K H L (vs.drop n) (ds.drop n)
  | _, _, 0, r => r
  | _, _, _ + 1, .nil => .nil
  | _, _, n + 1, .cons _ b => RDs.drop n b
theorem RDs.set : ∀ {vs : List V} {ds : List Dt} {v : V} {d : Dt} (n : Nat), RDs K H L vs ds → RD K H L v d → RDs K H L (vs.set n v) (ds.set n d)
  | _, _, _, _, _, .nil, _ => .nil
  | _, _, _, _, 0, .cons _ b, q => .cons q b
  | _, _, _, _, n + 1, .cons a b, q => .cons a (RDs.set n b q)
theorem RDs.reverse : ∀ {vs : List V} {ds : List Dt}, RDs K H L vs ds → RDs K H L vs.reverse ds.reverse
  | _, _, .nil => .nil
  | _, _, .cons a b => by
    rw [List.reverse_cons, List.reverse_cons]
    exact (RDs.reverse b).append (.cons a .nil)
theorem RDs.eraseIdx : ∀ {vs : List V} {ds : List Dt} (n : Nat), RDs K H L vs ds → RDs K H L (vs.eraseIdx n) (ds.eraseIdx n)
  | _, _, _, .nil => .nil
  | _, _, 0, .cons _ b => b
  | _, _, n + 1, .cons a b => .cons a (RDs.eraseIdx n b)
theorem RDs.dropLast {vs : List V} {ds : List Dt} (r : RDs K H L vs ds) : RDs K H L vs.dropLast ds.dropLast := by
  rw [List.dropLast_eq_take, List.dropLast_eq_take, r.length]
  exact r.take _
/-! ### cells, slots -/
def Lv (A : List Addr) (h : Hs) (a : Addr) : Prop := ∃ (n : Nat) (c : Cell), A[n]? = some a ∧ h[n]? = some c ∧ c ≠ Cell.dead
/-- the ground: frozen addresses of the callers', and the live cells -/
def Gd (F : Addr → Prop) (A : List Addr) (h : Hs) (a : Addr) : Prop := F a ∨ Lv A h a
def kvD (kvs : List (Key × Dt)) : List (Dt × Dt) := kvs.map fun p => (keyD p.1, p.2)
def CellOk (K : PySem.W.Frag) (H : Hp) (L : Addr → Prop) (a : Addr) : Cell → Prop
  | .lst xs => ∃ vs, H a = some (.lst vs) ∧ RDs K H L vs xs
  | .dic false kvs => ∃ vs, H a = some (.dK vs) ∧ RDk K H L vs (kvD kvs)
  | .dic true kvs => ∃ vs o, H a = some (.frz o (.dK vs)) ∧ RDk K H L vs (kvD kvs)
  | .ro xs => ∃ vs o, H a = some (.frz o (.lst vs)) ∧ RDs K H L vs xs
  | .dead => H a ≠ none
structure Cs (K : PySem.W.Frag) (F : Addr → Prop) (A : List Addr) (h : Hs) (H : Hp) : Prop where
  len : A.length = h.length
  nd : A.Nodup
  cell : ∀ (n : Nat) (a : Addr) (c : Cell), A[n]? = some a → h[n]? = some c → CellOk K H (Gd F A h) a c
  fr : ∀ a, F a → H a ≠ none ∧ ¬ Lv A h a
def RV (K : PySem.W.Frag) (F : Addr → Prop) (A : List Addr) (h : Hs) (H : Hp) : Ev → V → Prop
  | .d x, v => RD K H (Gd F A h) v x
  | .r n, v => ∃ a, A[n]? = some a ∧ v = .ref a
abbrev RVs (K : PySem.W.Frag) (F : Addr → Prop) (A : List Addr) (h : Hs) (H : Hp) : List Ev → List V → Prop := Paired (RV K F A h H)
/-- what may have come behind: cells grow, what was tracked and was no live cell stays, new live ones were not tracked -/
structure Po (K : PySem.W.Frag) (F : Addr → Prop) (A : List Addr) (h : Hs) (H : Hp) (A' : List Addr) (h' : Hs) (H' : Hp) : Prop where
  cs : Cs K F A' h' H'
  ext : ∃ B, A' = A ++ B ∧ ∀ a ∈ B, H a = none
  keep : ∀ a o, H a = some o → ¬ Lv A h a → H' a = some o
  live : ∀ a, Lv A' h' a → Lv A h a ∨ H a = none
/-- the slots -/
structure Ss (K : PySem.W.Frag) (F : Addr → Prop) (A : List Addr) (h : Hs) (H : Hp) (σe : Sl) (σ : St) : Prop where
  len : σe.length = σ.length
  at_ : ∀ (i : Nat) (e : Ev), σe[i]? = some (some e) → ∃ v, σ[i]? = some (some v) ∧ RV K F A h H e v
variable {F : Addr → Prop} {A A' A'' : List Addr} {h h' h'' : Hs} {H'' : Hp}
theorem Cs.tracked (c : Cs K F A h H) {a : Addr} (l : Lv A h a) : H a ≠ none := by
  obtain ⟨n, c0, e1, e2, e3⟩ := l
  have q := c.cell n a c0 e1 e2
  cases c0 with
  | lst xs => obtain ⟨vs, q, _⟩ := q; rw [q]; exact fun z => by cases z
  | dic lk kvs =>
    cases lk with
    | false => obtain ⟨vs, q, _⟩ := q; rw [q]; exact fun z => by cases z
    | true => obtain ⟨vs, o, q, _⟩ := q; rw [q]; exact fun z => by cases z
  | ro xs => obtain ⟨vs, o, q, _⟩ := q; rw [q]; exact fun z => by cases z
  | dead => exact absurd rfl e3
theorem Cs.there (c : Cs K F A h H) {n : Nat} {a : Addr} (e : A[n]? = some a) : H a ≠ none := by
  have hl : n < h.length := c.len ▸ (List.getElem?_eq_some_iff.mp e).1
  have q := c.cell n a h[n] e (List.getElem?_eq_getElem hl)
  by_cases hd : h[n] = Cell.dead
  · rw [hd] at q; exact q
  · exact c.tracked ⟨n, h[n], e, List.getElem?_eq_getElem hl, hd⟩
theorem Po.refl (c : Cs K F A h H) : Po K F A h H A h H := ⟨c, ⟨[], (List.append_nil A).symm, nofun⟩, fun _ _ e _ => e, fun _ l => .inl l⟩
theorem Po.trans (p : Po K F A h H A' h' H') (q : Po K F A' h' H' A'' h'' H'') : Po K F A h H A'' h'' H'' := by
  refine ⟨q.cs, ?_, fun a o e n => ?_, fun a l => ?_⟩
  · have old : ∀ a, H a ≠ none → H' a ≠ none := fun a z => by
      by_cases n : Lv A h a
      · obtain ⟨m, _, e1, _, _⟩ := n
        obtain ⟨B, e2, _⟩ := p.ext
        refine p.cs.there (n := m) ?_
        rw [e2, List.getElem?_append_left (List.getElem?_eq_some_iff.mp e1).1]
        exact e1
      · cases e : H a with
        | none => exact absurd e z
        | some o => rw [p.keep a o e n]; exact nofun
    obtain ⟨B, e1, n1⟩ := p.ext
    obtain ⟨C, e, n2⟩ := q.ext
    refine ⟨B ++ C, by rw [e, e1, List.append_assoc], fun a ha => ?_⟩
    rcases List.mem_append.mp ha with z | z
    · exact n1 a z
    · exact Classical.byContradiction fun z2 => old a z2 (n2 a z)
  · refine q.keep a o (p.keep a o e n) fun z => ?_
    rcases p.live a z with z | z
    · exact n z
    · rw [e] at z; cases z
  · rcases q.live a l with z | z
    · exact p.live a z
    · cases e : H a with
      | none => exact .inr rfl
      | some o =>
        by_cases n : Lv A h a
        · exact .inl n
        · rw [p.keep a o e n] at z; cases z
/-- data stays data -/
theorem Po.stay (c : Cs K F A h H) (p : Po K F A h H A' h' H') : Stay H (Gd F A h) H' (Gd F A' h') := fun a o e n => by
  refine ⟨p.keep a o e fun z => n (.inr z), fun z => ?_⟩
  rcases z with z | z
  · exact n (.inl z)
  · rcases p.live a z with z | z
    · exact n (.inr z)
    · rw [e] at z; cases z
theorem RV.mono (c : Cs K F A h H) (p : Po K F A h H A' h' H') : ∀ {e : Ev} {v : V}, RV K F A h H e v → RV K F A' h' H' e v
  | .d x, v, r => RD.mono (p.stay c) r
  | .r n, v, r => by
    obtain ⟨a, e, rfl⟩ := r
    obtain ⟨B, rfl, _⟩ := p.ext
    refine ⟨a, ?_, rfl⟩
    rw [List.getElem?_append_left (List.getElem?_eq_some_iff.mp e).1]
    exact e
theorem RVs.mono (c : Cs K F A h H) (p : Po K F A h H A' h' H') : ∀ {es : List Ev} {vs : List V}, RVs K F A h H es vs → RVs K F A' h' H' es vs
  | _, _, .nil => .nil
  | _, _, .cons a b => .cons (RV.mono c p a) (RVs.mono c p b)
theorem Ss.mono {σe : Sl} {σ : St} (c : Cs K F A h H) (p : Po K F A h H A' h' H') (s : Ss K F A h H σe σ) : Ss K F A' h' H' σe σ := ⟨s.len, fun i e q => by
  obtain ⟨v, q1, q2⟩ := s.at_ i e q
  exact ⟨v, q1, RV.mono c p q2⟩⟩
theorem Ss.set {σe : Sl} {σ : St} (s : Ss K F A h H σe σ) {e : Ev} {v : V} (r : RV K F A h H e v) (i : Nat) : Ss K F A h H (σe.set i (some e)) (σ.set i (some v)) := by
  refine ⟨by rw [List.length_set, List.length_set]; exact s.len, fun j e' q => ?_⟩
  by_cases hj : i = j
  · subst hj
    have hi : i < σe.length := by
      have := (List.getElem?_eq_some_iff.mp q).1
      rwa [List.length_set] at this
    rw [List.getElem?_set_self hi] at q
    cases q
    exact ⟨v, List.getElem?_set_self (s.len ▸ hi), r⟩
  · rw [List.getElem?_set_ne hj] at q
    obtain ⟨v', q1, q2⟩ := s.at_ j e' q
    exact ⟨v', by rw [List.getElem?_set_ne hj]; exact q1, q2⟩
/-! ### new objects, stores -/
theorem same_upd {p : Addr} {o : HO} (hp : H p = none) : ∀ a u, H a = some u → upd H p o a = some u := fun a u e => by
  rw [upd_ne (ne_of_none e hp)]; exact e
theorem Lv.tr (c : Cs K F A h H) {p : Addr} (hp : H p = none) : ¬ Lv A h p := fun l => c.tracked l hp
theorem CellOk.mono (st : Stay H L H' L') {a : Addr} (ha : H' a = H a) : ∀ {c : Cell}, CellOk K H L a c → CellOk K H' L' a c
  | .lst xs, q => by
    obtain ⟨vs, e, r⟩ := q
    exact ⟨vs, ha.trans e, RDs.mono st r⟩
  | .dic false kvs, q => by
    obtain ⟨vs, e, r⟩ := q
    exact ⟨vs, ha.trans e, RDk.mono st r⟩
  | .dic true kvs, q => by
    obtain ⟨vs, o, e, r⟩ := q
    exact ⟨vs, o, ha.trans e, RDk.mono st r⟩
  | .ro xs, q => by
    obtain ⟨vs, o, e, r⟩ := q
    exact ⟨vs, o, ha.trans e, RDs.mono st r⟩
  | .dead, q => by
    have q : H a ≠ none := q
    show H' a ≠ none
    rw [ha]; exact q
/-- a new object that is data (or not told of) -/
theorem Po.new (c : Cs K F A h H) {p : Addr} (o : HO) (hp : H p = none) : Po K F A h H A h (upd H p o) := by
  have st : Stay H (Gd F A h) (upd H p o) (Gd F A h) := fun a u e n => ⟨same_upd hp a u e, n⟩
  have npa : ∀ {n a}, A[n]? = some a → a ≠ p := fun {n a} e z => by
    subst z
    have hl : n < h.length := c.len ▸ (List.getElem?_eq_some_iff.mp e).1
    have q := c.cell n a h[n] e (List.getElem?_eq_getElem hl)
    by_cases hd : h[n] = .dead
    · rw [hd] at q; exact q hp
    · exact c.tracked ⟨n, h[n], e, List.getElem?_eq_getElem hl, hd⟩ hp
  refine ⟨⟨c.len, c.nd, fun n a cl e1 e2 => (c.cell n a cl e1 e2).mono st (upd_ne (npa e1)), fun a fa => ⟨?_, (c.fr a fa).2⟩⟩, ⟨[], (List.append_nil A).symm, nofun⟩, fun a u e _ => same_upd hp a u e, fun _ l => .inl l⟩
  cases e : H a with
  | none => exact absurd e (c.fr a fa).1
  | some u => rw [same_upd hp a u e]; exact fun z => by cases z
theorem Cs.ground (c : Cs K F A h H) {p : Addr} (hp : H p = none) : ¬ Gd F A h p := fun z => by
  rcases z with z | z
  · exact (c.fr p z).1 hp
  · exact c.tracked z hp
theorem Lv.snoc (hl : A.length = h.length) {p a : Addr} {cl : Cell} (l : Lv (A ++ [p]) (h ++ [cl]) a) : Lv A h a ∨ a = p := by
  obtain ⟨n, c, e1, e2, e3⟩ := l
  by_cases hn : n < A.length
  · rw [List.getElem?_append_left hn] at e1
    rw [List.getElem?_append_left (hl ▸ hn)] at e2
    exact .inl ⟨n, c, e1, e2, e3⟩
  · have hn : A.length ≤ n := by omega
    rw [List.getElem?_append_right hn] at e1
    right
    have : n - A.length = 0 := by
      have := (List.getElem?_eq_some_iff.mp e1).1
      simp at this
      omega
    rw [this] at e1
    simpa using e1.symm
/-- a new object that is a cell -/
theorem Po.cell (c : Cs K F A h H) {p : Addr} {o : HO} {cl : Cell} (hp : H p = none) (ok : CellOk K (upd H p o) (Gd F (A ++ [p]) (h ++ [cl])) p cl) : Po K F A h H (A ++ [p]) (h ++ [cl]) (upd H p o) := by
  have st : Stay H (Gd F A h) (upd H p o) (Gd F (A ++ [p]) (h ++ [cl])) := fun a u e n => by
    refine ⟨same_upd hp a u e, fun z => ?_⟩
    rcases z with z | z
    · exact n (.inl z)
    · rcases z.snoc c.len with z | z
      · exact n (.inr z)
      · rw [z, hp] at e; cases e
  have npa : ∀ {n : Nat} {a : Addr}, A[n]? = some a → a ≠ p := fun {n a} e z => c.there e (z ▸ hp)
  have hup : ∀ a, H a ≠ none → upd H p o a ≠ none := fun a z => by
    rw [upd_ne (show a ≠ p from fun e => z (by rw [e]; exact hp))]; exact z
  refine ⟨⟨by simp [c.len], ?_, fun n a cl' e1 e2 => ?_, fun a fa => ⟨hup a (c.fr a fa).1, fun l => ?_⟩⟩, ⟨[p], rfl, fun a ha => by rw [List.mem_singleton] at ha; rw [ha]; exact hp⟩, fun a u e _ => same_upd hp a u e, fun a l => ?_⟩
  · rw [List.nodup_append]
    refine ⟨c.nd, by simp, fun a ha b hb => ?_⟩
    obtain ⟨n, hn, e⟩ := List.getElem_of_mem ha
    have e : A[n]? = some a := by rw [List.getElem?_eq_getElem hn, e]
    rw [List.mem_singleton] at hb
    rw [hb]
    exact npa e
  · by_cases hn : n < A.length
    · rw [List.getElem?_append_left hn] at e1
      rw [List.getElem?_append_left (c.len ▸ hn)] at e2
      exact (c.cell n a cl' e1 e2).mono st (upd_ne (npa e1))
    · have hn : A.length ≤ n := by omega
      rw [List.getElem?_append_right hn] at e1
      rw [List.getElem?_append_right (c.len ▸ hn)] at e2
      have z : n - A.length = 0 := by
        have := (List.getElem?_eq_some_iff.mp e1).1
        simp at this
        omega
      rw [← c.len] at e2
      rw [z] at e1 e2
      simp at e1 e2
      subst e1
      subst e2
      exact ok
  · rcases l.snoc c.len with z | z
    · exact (c.fr a fa).2 z
    · exact (c.fr a fa).1 (z ▸ hp)
  · rcases l.snoc c.len with z | z
    · exact .inl z
    · exact .inr (z ▸ hp)
theorem Lv.of_set {n : Nat} {cl : Cell} {a : Addr} (hd : ∀ c, h[n]? = some c → c ≠ Cell.dead) (l : Lv A (h.set n cl) a) : Lv A h a := by
  obtain ⟨m, c, e1, e2, e3⟩ := l
  by_cases hm : n = m
  · subst hm
    have hn : n < h.length := by
      have := (List.getElem?_eq_some_iff.mp e2).1
      rwa [List.length_set] at this
    exact ⟨n, h[n], e1, List.getElem?_eq_getElem hn, hd _ (List.getElem?_eq_getElem hn)⟩
  · rw [List.getElem?_set_ne hm] at e2
    exact ⟨m, c, e1, e2, e3⟩
/-- a live cell written (or forgotten: o₁ = what stands, cl = dead) -/
theorem Po.write (c : Cs K F A h H) {n : Nat} {a : Addr} {c₀ cl : Cell} {o : HO} (hA : A[n]? = some a) (hh : h[n]? = some c₀) (hd : c₀ ≠ Cell.dead)
    (ok : CellOk K (upd H a o) (Gd F A (h.set n cl)) a cl) : Po K F A h H A (h.set n cl) (upd H a o) := by
  have hd' : ∀ c, h[n]? = some c → c ≠ Cell.dead := fun c e => by rw [hh] at e; cases e; exact hd
  have lv : Lv A h a := ⟨n, c₀, hA, hh, hd⟩
  have st : Stay H (Gd F A h) (upd H a o) (Gd F A (h.set n cl)) := fun b u e q => by
    refine ⟨?_, fun z => ?_⟩
    · rw [upd_ne (show b ≠ a from fun z => q (.inr (by rw [z]; exact lv)))]; exact e
    · rcases z with z | z
      · exact q (.inl z)
      · exact q (.inr (z.of_set hd'))
  have hup : ∀ b, H b ≠ none → upd H a o b ≠ none := fun b z => by
    by_cases e : b = a
    · rw [e, upd_same]; exact fun z => by cases z
    · rw [upd_ne e]; exact z
  refine ⟨⟨by rw [List.length_set]; exact c.len, c.nd, fun m b cl' e1 e2 => ?_, fun b fb => ⟨hup b (c.fr b fb).1, fun z => (c.fr b fb).2 (z.of_set hd')⟩⟩, ⟨[], (List.append_nil A).symm, nofun⟩, fun b u e q => ?_, fun b l => .inl (l.of_set hd')⟩
  · by_cases hm : n = m
    · subst hm
      rw [hA] at e1
      cases e1
      have hn : n < h.length := (List.getElem?_eq_some_iff.mp hh).1
      rw [List.getElem?_set_self hn] at e2
      cases e2
      exact ok
    · rw [List.getElem?_set_ne hm] at e2
      have nb : b ≠ a := fun z => by
        subst z
        obtain ⟨h1, q1⟩ := List.getElem?_eq_some_iff.mp hA
        obtain ⟨h2, q2⟩ := List.getElem?_eq_some_iff.mp e1
        exact hm ((List.getElem_inj c.nd).mp (q1.trans q2.symm))
      exact (c.cell m b cl' e1 e2).mono st (upd_ne nb)
  · rw [upd_ne (show b ≠ a from fun z => q (by rw [z]; exact lv))]; exact e
/-- a cell whose object stays, told otherwise -/
theorem Po.turn (c : Cs K F A h H) {n : Nat} {a : Addr} {c₀ cl : Cell} (hA : A[n]? = some a) (hh : h[n]? = some c₀) (hd : c₀ ≠ Cell.dead)
    (ok : CellOk K H (Gd F A (h.set n cl)) a cl) : Po K F A h H A (h.set n cl) H := by
  obtain ⟨o, ho⟩ : ∃ o, H a = some o := by
    cases e : H a with
    | none => exact absurd e (c.there hA)
    | some o => exact ⟨o, rfl⟩
  have eH : upd H a o = H := by
    funext b
    by_cases e : b = a
    · rw [e, upd_same, ho]
    · rw [upd_ne e]
  have := Po.write (cl := cl) (o := o) c hA hh hd (by rw [eH]; exact ok)
  rwa [eH] at this
/-- a forgotten cell's address is no ground -/
theorem Cs.off (c : Cs K F A h H) {n : Nat} {a : Addr} {c₀ : Cell} (hA : A[n]? = some a) (hh : h[n]? = some c₀) (hd : c₀ ≠ Cell.dead) : ¬ Gd F A (h.set n .dead) a := fun z => by
  rcases z with z | ⟨m, cl, e1, e2, e3⟩
  · exact (c.fr a z).2 ⟨n, c₀, hA, hh, hd⟩
  · by_cases hm : n = m
    · subst hm
      rw [List.getElem?_set_self (List.getElem?_eq_some_iff.mp hh).1] at e2
      cases e2
      exact e3 rfl
    · obtain ⟨h1, q1⟩ := List.getElem?_eq_some_iff.mp hA
      obtain ⟨h2, q2⟩ := List.getElem?_eq_some_iff.mp e1
      exact hm ((List.getElem_inj c.nd).mp (q1.trans q2.symm))
end EV

/-! EV2: the core syntax, the evaluator -/
namespace EV
open PySem L2
inductive O2 where
  | add | sub | mul | div | mod | pow | xor
inductive Cm where
  | eq | ne | lt | le | gt | ge | isin | notin | is | isnot
inductive Bf where
  | len | tuple | list | lrange | sorted | repr | min | max | sum | all | any | abs | min2 | max2
inductive Mf where
  | append | extend | pop | popAt | index | get | count | update
mutual
inductive C where
  | k (d : Dt)
  | var (i : Nat)
  | gl (x : Str)
  | bin (mk : Bool) (o : O2) (a b : C)
  | neg (a : C)
  | not (a : C)
  | and (a b : C)
  | or (a b : C)
  | cmp (o : Cm) (a b : C)
  | chain (o o' : Cm) (a b c : C)
  | ifx (t a b : C)
  | tup (l : List C)
  | lst (mk : Bool) (l : List C)
  | dict (l : List (C × C))
  | ix (a b : C)
  | sl (mk : Bool) (a : C) (lo hi : Option C)
  | rev (mk : Bool) (a : C)
  | call (f : Str) (l : List C)
  | b (mk : Bool) (f : Bf) (l : List C)
  | m (f : Mf) (o : C) (l : List C)
  | upd (o : C) (l : List (C × C))
  | lc (mk : Bool) (e : C) (t : Tg) (it : It) (c : Option C) (vs : List Nat)
  | lc2 (mk : Bool) (e : C) (t : Tg) (it : It) (c : Option C) (t1 : Tg) (it1 : It) (c1 : Option C) (vs vs1 : List Nat)
inductive Tg where
  | nm (i : Nat)
  | tp (l : List Tg)
  | star (l : List Tg) (i : Nat)
  | sub (o i : C)
inductive It where
  | val (c : C)
  | rng (l : List C)
  | enm (c : C)
  | zip (a b : C)
  | rvs (c : C)
  | keys (i : Nat)
  | items (i : Nat)
end
inductive S where
  | set (t : Tg) (e : C)
  | par (is : List Nat) (es : List C)
  | aug (i : Nat) (o : O2) (e : C)
  | ex (e : C)
  | rt (e : C)
  | rtn
  | iff (t : C) (a b : List S)
  | whl (t : C) (b : List S)
  | forr (t : Tg) (it : It) (b : List S)
  | brk
  | cnt
  | pas
  | stop
inductive RS where
  | nx (σ : Sl) (h : Hs)
  | rt (v : Ev) (h : Hs)
  | bk (σ : Sl) (h : Hs)
  | ct (σ : Sl) (h : Hs)
  | ex (x : Exn) (σ : Sl) (h : Hs)
  | bad
/-! ### by values -/
def peek : Ev → Hs → Option Dt
  | .d x, _ => some x
  | .r n, h => match h[n]? with
    | some (.lst xs) => some (.list xs)
    | some (.dic false kvs) => some (.dict (kvD kvs))
    | _ => none
abbrev okO {α : Type} (a : α) (h : Hs) : Option (α × Hs) := some (a, h)
def lift {α : Type} : Option (α × Hs) → R α
  | some p => .ok p.1 p.2
  | none => .bad
def frz : Ev → Hs → Option (Dt × Hs)
  | .d x, h => okO x h
  | .r n, h => match h[n]? with
    | some (.lst xs) => okO (.list xs) (h.set n .dead)
    | some (.dic false kvs) => okO (.dict (kvD kvs)) (h.set n .dead)
    | _ => none
def frzs : List Ev → Hs → Option (List Dt × Hs)
  | [], h => okO [] h
  | v :: vs, h => (frz v h).bind fun (d, h) => (frzs vs h).bind fun (ds, h) => okO (d :: ds) h
def newL (mk : Bool) (xs : List Dt) (h : Hs) : Option (Ev × Hs) := match mk with
  | true => okO (.r h.length) (h ++ [.lst xs])
  | false => okO (.d (.list xs)) h
def newK (kvs : List (Key × Dt)) (h : Hs) : Option (Ev × Hs) := okO (.r h.length) (h ++ [.dic false kvs])
def toKey : Dt → Option Key
  | .int i => some (.inl i)
  | .str x => some (.inr x)
  | _ => none
/-- a dict's entries, by the hand layer's own ways -/
def val {α : Type} (kvs : List (Key × α)) (k : Key) : Option α := (kvs.find? fun kv => decide (kv.1 = k)).map (·.2)
def put {α : Type} (kvs : List (Key × α)) (k : Key) (v : α) : List (Key × α) :=
  if (kvs.any fun kv => decide (kv.1 = k)) = true then kvs.map (fun kv => if kv.1 = k then (kv.1, v) else kv) else kvs ++ [(k, v)]
def merge {α : Type} (kvs more : List (Key × α)) : List (Key × α) := more.foldl (fun acc kv => put acc kv.1 kv.2) kvs
def binD (mk : Bool) : O2 → Dt → Dt → Hs → Option (Ev × Hs)
  | .add, .int i, .int j, h => okO (.d (.int (i + j))) h
  | .add, .list xs, .list ys, h => if xs.length + ys.length ≤ sizeLine then newL mk (xs ++ ys) h else none
  | .add, .tuple xs, .tuple ys, h => if xs.length + ys.length ≤ sizeLine then okO (.d (.tuple (xs ++ ys))) h else none
  | .add, .str x, .str y, h => if x.length + y.length ≤ sizeLine then okO (.d (.str (x ++ y))) h else none
  | .sub, .int i, .int j, h => okO (.d (.int (i - j))) h
  | .mul, .int i, .int j, h => if (-(2 ^ 64) < i ∧ i < 2 ^ 64) ∨ (-(2 ^ 64) < j ∧ j < 2 ^ 64) then okO (.d (.int (i * j))) h else none
  | .div, .int i, .int j, h => if 0 < j ∧ j < 1073741824 then okO (.d (.int (i / j))) h else none
  | .mod, .int i, .int j, h => if 0 < j then okO (.d (.int (i % j))) h else none
  | .pow, .int i, .int j, h => if 0 ≤ j ∧ j ≤ 1000000 ∧ i.natAbs < 2 ^ 64 then okO (.d (.int (i ^ j.toNat))) h else none
  | .xor, .int i, .int j, h => okO (.d (.int (Builtin.bitXor i j))) h
  | _, _, _, _ => none
def opB (mk : Bool) (o : O2) (x y : Ev) (h : Hs) : Option (Ev × Hs) := match peek x h, peek y h with
  | some a, some b => binD mk o a b h
  | _, _ => none
/-- == of data, where it is told -/
def eqD : Dt → Dt → Option Bool
  | .int i, .int j => some (i == j)
  | .str x, .str y => some (x == y)
  | a, b => if a.plain && b.plain && decide (min a.depth b.depth ≤ 100) then some (PyData.eqv a b) else none
def isNone : Dt → Bool
  | .none => true
  | _ => false
/-- whether a thing is in -/
def inD (x : Dt) (ys : List Dt) : Option Bool :=
  if PyData.plainAll ys && x.plain && decide (min (PyData.depthAll ys) x.depth ≤ 100) then some (ys.any fun y => PyData.eqv y x) else none
/-- a < b, of data that are alike -/
def ltD (a b : Dt) : Option Bool :=
  match a with
  | .none => none
  | a => if PySem.W.alike a b && a.plain && b.plain && decide (min a.depth b.depth ≤ 100) then some (PySem.W.dataLt a b) else none
def ofB (o : Option Bool) (h : Hs) : Option (Ev × Hs) := match o with
  | some b => okO (.d (.bool b)) h
  | none => none
def cmpD : Cm → Dt → Dt → Option Bool
  | .eq, a, b => eqD a b
  | .ne, a, b => (eqD a b).map (!·)
  | .lt, .int i, .int j => some (decide (i < j))
  | .le, .int i, .int j => some (decide (i ≤ j))
  | .gt, .int i, .int j => some (decide (j < i))
  | .ge, .int i, .int j => some (decide (j ≤ i))
  | .lt, a, b => ltD a b
  | .isin, x, .list ys => inD x ys
  | .isin, x, .tuple ys => inD x ys
  | .notin, x, .list ys => (inD x ys).map (!·)
  | .notin, x, .tuple ys => (inD x ys).map (!·)
  | .is, a, .none => some (isNone a)
  | .isnot, a, .none => some (!isNone a)
  | .is, .bool a, .bool b => some (decide (a = b))
  | .isnot, .bool a, .bool b => some (!decide (a = b))
  | _, _, _ => none
/-- a cell that is a dict is asked for a key by its entries -/
def cmpE (o : Cm) (x y : Ev) (h : Hs) : Option (Ev × Hs) :=
  match o, x, y with
  | .isin, .d k, .r n => match h[n]?, toKey k with
    | some (.dic _ kvs), some k => okO (.d (.bool (val kvs k).isSome)) h
    | some (.lst ys), _ => ofB (inD k ys) h
    | _, _ => none
  | .notin, .d k, .r n => match h[n]?, toKey k with
    | some (.dic _ kvs), some k => okO (.d (.bool (!(val kvs k).isSome))) h
    | some (.lst ys), _ => ofB ((inD k ys).map (!·)) h
    | _, _ => none
  | o, x, y => match peek x h, peek y h with
    | some a, some b => ofB (cmpD o a b) h
    | _, _ => none
def ixL (xs : List Dt) (i : Int) (h : Hs) : Option (Ev × Hs) := match atI xs i with
  | some d => okO (.d d) h
  | none => none
def ixE (x y : Ev) (h : Hs) : Option (Ev × Hs) :=
  match x, y with
  | .d (.list xs), .d (.int i) => ixL xs i h
  | .d (.tuple xs), .d (.int i) => ixL xs i h
  | .r n, .d k => match h[n]?, k with
    | some (.lst xs), .int i => ixL xs i h
    | some (.dic _ kvs), k => match toKey k with
      | some k => match val kvs k with
        | some d => okO (.d d) h
        | none => none
      | none => none
    | _, _ => none
  | _, _ => none
def cutD (xs : List Dt) (lo hi : Option Int) : List Dt := (xs.drop (HT.sIx xs.length 0 lo)).take (HT.sIx xs.length xs.length hi - HT.sIx xs.length 0 lo)
def slE (mk : Bool) (x : Ev) (lo hi : Option Int) (h : Hs) : Option (Ev × Hs) :=
  match x with
  | .d (.list xs) => newL mk (cutD xs lo hi) h
  | .d (.tuple xs) => okO (.d (.tuple (cutD xs lo hi))) h
  | .r n => match h[n]? with
    | some (.lst xs) => newL mk (cutD xs lo hi) h
    | some (.ro xs) => newL mk (cutD xs lo hi) h
    | _ => none
  | _ => none
/-- the items that a thing gives, and the cell that must stand still meanwhile -/
def seqOf : Ev → Hs → Option (List Dt)
  | .d (.list xs), _ => some xs
  | .d (.tuple xs), _ => some xs
  | .r n, h => match h[n]? with
    | some (.lst xs) => some xs
    | _ => none
  | _, _ => none
def lstOf : Ev → Hs → Option (List Dt)
  | .d (.list xs), _ => some xs
  | .r n, h => match h[n]? with
    | some (.lst xs) => some xs
    | _ => none
  | _, _ => none
def intsD : List Dt → Option (List Int)
  | [] => some []
  | .int i :: r => (intsD r).map (i :: ·)
  | _ => none
def boolsD : List Dt → Option (List Bool)
  | [] => some []
  | .bool i :: r => (boolsD r).map (i :: ·)
  | _ => none
/-- sorting by insertion, of data that are alike -/
def insX (x : Dt) : List Dt → List Dt
  | [] => [x]
  | y :: ys => if PySem.W.dataLt y x then y :: insX x ys else x :: y :: ys
def sortX : List Dt → List Dt
  | [] => []
  | x :: xs => insX x (sortX xs)
def tupB : Dt → Bool
  | .tuple (_ :: _) => true
  | _ => false
def othB : Dt → Bool
  | .none => false
  | .tuple _ => false
  | _ => true
def sorts (xs : List Dt) : Option (List Dt) :=
  if (xs.all fun x => xs.all fun y => PySem.W.alike x y) && (xs.all tupB || xs.all othB) && decide (PyData.depthAll xs ≤ 100) then some (sortX xs) else none
/-- the least, the greatest -/
def minX (xs : List Dt) : Option Dt := match xs with
  | [] => none
  | x :: r => if ((x :: r).all fun a => (x :: r).all fun b => PySem.W.alike a b) && ((x :: r).all fun a => !isNone a) && decide (PyData.depthAll (x :: r) ≤ 100) then some (PySem.W.minD x r) else none
def maxX (xs : List Dt) : Option Dt := match xs with
  | [] => none
  | x :: r => if ((x :: r).all fun a => (x :: r).all fun b => PySem.W.alike a b) && ((x :: r).all fun a => !isNone a) && decide (PyData.depthAll (x :: r) ≤ 100) then some (PySem.W.maxD x r) else none
def shownOk (d : Dt) : Bool := d.plain && d.showable && decide (d.depth ≤ 100) && decide (d.shown.length ≤ sizeLine)
def rngOf (lo hi : Int) : List Dt := (List.range (hi - lo).toNat).map fun i => .int (lo + (i : Nat))
def rngC (lo c : Int) (n : Nat) : List Dt := (List.range n).map fun i => .int (lo + (i : Nat) * c)
def rngD : List Ev → Option (List Dt)
  | [.d (.int j)] => if -(2 ^ 62) ≤ j ∧ j < 2 ^ 62 ∧ j.toNat ≤ sizeLine then some (rngOf 0 j) else none
  | [.d (.int i), .d (.int j)] => if (-(2 ^ 62) ≤ i ∧ i < 2 ^ 62 ∧ -(2 ^ 62) ≤ j ∧ j < 2 ^ 62) ∧ (j - i).toNat ≤ sizeLine then some (rngOf i j) else none
  | [.d (.int i), .d (.int j), .d (.int c)] =>
    if (c ≠ 0 ∧ c.natAbs < 1073741824 ∧ Builtin.Range.small i j c = true) ∧ 0 ≤ Builtin.Range.rangeSize i j c ∧ (Builtin.Range.rangeSize i j c).toNat ≤ sizeLine then some (rngC i c (Builtin.Range.rangeSize i j c).toNat) else none
  | _ => none
def bf (mk : Bool) (f : Bf) (l : List Ev) (h : Hs) : Option (Ev × Hs) :=
  match f, l with
  | .len, [x] => match x with
    | .d (.str z) => if z.length ≤ sizeLine then okO (.d (.int z.length)) h else none
    | .r n => match h[n]? with
      | some (.dic false kvs) => okO (.d (.int kvs.length)) h
      | some (.lst xs) => okO (.d (.int xs.length)) h
      | _ => none
    | x => match seqOf x h with
      | some xs => okO (.d (.int xs.length)) h
      | none => none
  | .tuple, [x] => match seqOf x h with
    | some xs => okO (.d (.tuple xs)) h
    | none => none
  | .list, [x] => match seqOf x h with
    | some xs => newL mk xs h
    | none => none
  | .lrange, l => match rngD l with
    | some xs => newL mk xs h
    | none => none
  | .sorted, [x] => match x with
    | .r n => match h[n]? with
      | some (.dic _ kvs) => match intsD (kvs.map fun p => keyD p.1) with
        | some is => if is.length < 64 then newL mk (sortX (is.map .int)) h else none
        | none => none
      | some (.lst xs) => match sorts xs with
        | some ys => newL mk ys h
        | none => none
      | _ => none
    | .d (.list xs) => match sorts xs with
      | some ys => newL mk ys h
      | none => none
    | _ => none
  | .repr, [x] => match peek x h with
    | some d => if shownOk d then okO (.d (.str d.shown)) h else none
    | none => none
  | .min, [x] => match (seqOf x h).bind minX with
    | some m => okO (.d m) h
    | none => none
  | .max, [x] => match (seqOf x h).bind maxX with
    | some m => okO (.d m) h
    | none => none
  | .sum, [x] => match (lstOf x h).bind intsD with
    | some is => okO (.d (.int is.sum)) h
    | none => none
  | .all, [x] => match (lstOf x h).bind boolsD with
    | some is => okO (.d (.bool (is.all id))) h
    | none => none
  | .any, [x] => match (lstOf x h).bind boolsD with
    | some is => okO (.d (.bool (is.any id))) h
    | none => none
  | .abs, [.d (.int i)] => okO (.d (.int (if i < 0 then -i else i))) h
  | .min2, [.d (.int i), .d (.int j)] => okO (.d (.int (if j < i then j else i))) h
  | .max2, [.d (.int i), .d (.int j)] => okO (.d (.int (if j > i then j else i))) h
  | _, _ => none
def mf (f : Mf) (o : Ev) (l : List Ev) (h : Hs) : Option (Ev × Hs) :=
  match f, o, l with
  | .append, .r n, [x] => (frz x h).bind fun (d, h) => match h[n]? with
    | some (.lst xs) => if xs.length < sizeLine then okO (.d .none) (h.set n (.lst (xs ++ [d]))) else none
    | _ => none
  | .extend, .r n, [x] => match h[n]?, seqOf x h with
    | some (.lst xs), some ys => match x with
      | .d (.tuple _) => none
      | _ => if xs.length + ys.length ≤ sizeLine then okO (.d .none) (h.set n (.lst (xs ++ ys))) else none
    | _, _ => none
  | .pop, .r n, [] => match h[n]? with
    | some (.lst xs) => match xs[xs.length - 1]? with
      | some d => okO (.d d) (h.set n (.lst xs.dropLast))
      | none => none
    | _ => none
  | .popAt, .r n, [.d (.int i)] => match h[n]? with
    | some (.lst xs) => if 0 ≤ i ∧ i < 2 ^ 63 then match xs[i.toNat]? with
      | some d => okO (.d d) (h.set n (.lst (xs.eraseIdx i.toNat)))
      | none => none
      else none
    | _ => none
  | .index, x, [.d (.int i)] => match (seqOf x h).bind intsD with
    | some is => if is.contains i then okO (.d (.int (is.idxOf i : Nat))) h else none
    | none => none
  | .count, x, [.d (.int i)] => match (seqOf x h).bind intsD with
    | some is => okO (.d (.int (is.count i))) h
    | none => none
  | .get, .r n, [.d k] => match h[n]?, toKey k with
    | some (.dic _ kvs), some k => okO (.d ((val kvs k).getD .none)) h
    | _, _ => none
  | .get, .r n, [.d k, d] => match h[n]?, toKey k with
    | some (.dic _ kvs), some k => match val kvs k with
      | some e => okO (.d e) h
      | none => okO d h
    | _, _ => none
  | .update, .r n, [.r m] => match h[n]?, h[m]? with
    | some (.dic false kvs), some (.dic _ more) => if n ≠ m ∧ kvs.length + more.length ≤ sizeLine then okO (.d .none) (h.set n (.dic false (merge kvs more))) else none
    | _, _ => none
  | _, _, _ => none
/-- a dict that was but a display is gone -/
def drop1 (n : Nat) (h : Hs) : Hs := if h.length = n + 1 then h.dropLast else h
/-- the type whose method it is -/
def tyK (x : Ev) (h : Hs) : Option String := match x with
  | .r n => match h[n]? with
    | some (.dic _ _) => some "dict"
    | _ => none
  | _ => none
def tyL (x : Ev) (h : Hs) : Option String := match x with
  | .r n => match h[n]? with
    | some (.lst _) => some "list"
    | _ => none
  | _ => none
def tyS (x : Ev) (h : Hs) : Option String := match x with
  | .d (.list _) => some "list"
  | .d (.tuple _) => some "tuple"
  | x => tyL x h
def mTy (f : Mf) (x : Ev) (h : Hs) : Option String :=
  match f with
  | .get | .update => tyK x h
  | .index | .count => tyS x h
  | _ => tyL x h
/-! ### calls: the cells that are handed on, and back -/
def refs : List Ev → List Nat
  | [] => []
  | .d _ :: r => refs r
  | .r n :: r => n :: refs r
def renum : Nat → List Ev → List Ev
  | _, [] => []
  | k, .d x :: r => .d x :: renum k r
  | k, .r _ :: r => .r k :: renum (k + 1) r
def gets : List Nat → Hs → Option Hs
  | [], _ => some []
  | n :: r, h => match h[n]?, gets r h with
    | some c, some cs => some (c :: cs)
    | _, _ => none
def puts : List Nat → Hs → Hs → Hs
  | n :: r, c :: cs, h => puts r cs (h.set n c)
  | _, _, h => h
def alive : Hs → Bool
  | [] => true
  | .dead :: _ => false
  | .dic true _ :: _ => false
  | _ :: r => alive r
def callE (cl : Str → List Ev → Hs → R Ev) (f : Str) (l : List Ev) (h : Hs) : R Ev :=
  if (refs l).Nodup then
    match gets (refs l) h with
    | some cs => if alive cs then
        match cl f (renum 0 l) cs with
        | .ok (.d x) cs' => .ok (.d x) (puts (refs l) cs' h)
        | .ok (.r j) cs' => match (refs l)[j]? with
          | some n => .ok (.r n) (puts (refs l) cs' h)
          | none => match cs'[j]? with
            | some c => .ok (.r h.length) (puts (refs l) cs' h ++ [c])
            | none => .bad
        | .ex x cs' => .ex x (puts (refs l) cs' h)
        | .bad => .bad
      else .bad
    | none => .bad
  else .bad
/-! ### the evaluator -/
def evs (e : C → Sl → Hs → R Ev) : List C → Sl → Hs → R (List Ev)
  | [], _, h => .ok [] h
  | c :: r, σ, h => (e c σ h).bind fun v h => (evs e r σ h).bind fun vs h => .ok (v :: vs) h
/-- pairs of a display: the keys keys, the values data -/
def evp (e : C → Sl → Hs → R Ev) : List (C × C) → Sl → Hs → R (List (Key × Dt))
  | [], _, h => .ok [] h
  | (a, b) :: r, σ, h => (e a σ h).bind fun k h => match k with
    | .d k => match toKey k with
      | some k => (e b σ h).bind fun v h => (lift (frz v h)).bind fun d h => (evp e r σ h).bind fun ps h => .ok ((k, d) :: ps) h
      | none => .bad
    | _ => .bad
/-- a display: the dict is there ahead of what stands in it -/
def dispE (e : C → Sl → Hs → R Ev) (l : List (C × C)) (σ : Sl) (h : Hs) : R Ev :=
  if l.isEmpty then .ok (.r h.length) (h ++ [.dic false []]) else
  (evp e l σ (h ++ [.dic false []])).bind fun ps h' => match h'[h.length]? with
    | some (.dic false []) => if ps.length ≤ 15 then .ok (.r h.length) (h'.set h.length (.dic false (merge [] ps))) else .bad
    | _ => .bad
def evo (e : C → Sl → Hs → R Ev) : Option C → Sl → Hs → R (Option Int)
  | none, _, h => .ok none h
  | some c, σ, h => (e c σ h).bind fun v h => match v with
    | .d (.int i) => .ok (some i) h
    | _ => .bad
def truth (v : Ev) (h : Hs) : Option Bool := match v with
  | .d .none => some false
  | .d (.bool b) => some b
  | .d (.int i) => some (i != 0)
  | .d (.str z) => if z.length ≤ sizeLine then some (z.length != 0) else none
  | .d (.list xs) => some (!xs.isEmpty)
  | .d (.tuple xs) => some (!xs.isEmpty)
  | .d (.dict _) => none
  | .r n => match h[n]? with
    | some (.lst xs) => some (!xs.isEmpty)
    | some (.dic false kvs) => some (!kvs.isEmpty)
    | _ => none
mutual
def eqb : Dt → Dt → Bool
  | .none, .none => true
  | .bool a, .bool b => a == b
  | .int i, .int j => i == j
  | .str x, .str y => x == y
  | .list xs, .list ys => eqbs xs ys
  | .tuple xs, .tuple ys => eqbs xs ys
  | _, _ => false
def eqbs : List Dt → List Dt → Bool
  | [], [] => true
  | x :: xs, y :: ys => eqb x y && eqbs xs ys
  | _, _ => false
end
mutual
theorem eqb_eq : ∀ {a b : Dt}, eqb a b = true → a = b
  | .none, b, h => by cases b <;> simp_all [eqb]
  | .bool a, b, h => by cases b <;> simp_all [eqb]
  | .int i, b, h => by cases b <;> simp_all [eqb]
  | .str x, b, h => by cases b <;> simp_all [eqb]
  | .list xs, b, h => by
    cases b with
    | list ys =>
      have h : eqbs xs ys = true := by simpa [eqb] using h
      rw [eqbs_eq h]
    | _ => simp [eqb] at h
  | .tuple xs, b, h => by
    cases b with
    | tuple ys =>
      have h : eqbs xs ys = true := by simpa [eqb] using h
      rw [eqbs_eq h]
    | _ => simp [eqb] at h
  | .dict kvs, b, h => by cases b <;> simp [eqb] at h
theorem eqbs_eq : ∀ {a b : List Dt}, eqbs a b = true → a = b
  | [], [], _ => rfl
  | [], _ :: _, h => by simp [eqbs] at h
  | _ :: _, [], h => by simp [eqbs] at h
  | x :: xs, y :: ys, h => by
    have h : eqb x y = true ∧ eqbs xs ys = true := by simpa [eqbs] using h
    rw [eqb_eq h.1, eqbs_eq h.2]
end
/-- what a walk hangs on -/
inductive Gu where
  | no
  | at_ (n : Nat) (xs : List Dt)
def guOk (g : Gu) (h : Hs) : Bool := match g with
  | .no => true
  | .at_ n xs => match h[n]? with
    | some (.lst ys) => eqbs xs ys
    | _ => false
/-- targets of a comprehension, and of plain assignments -/
def asgs (f : Tg → Dt → Sl → Option Sl) : List Tg → List Dt → Sl → Option Sl
  | [], [], σ => some σ
  | t :: ts, d :: ds, σ => (f t d σ).bind fun σ => asgs f ts ds σ
  | _, _, _ => none
def asgD : Nat → Tg → Dt → Sl → Option Sl
  | 0, _, _, _ => none
  | _ + 1, .nm i, d, σ => if i < σ.length then some (σ.set i (some (.d d))) else none
  | n + 1, .tp ts, .tuple ds, σ => asgs (asgD n) ts ds σ
  | _, _, _, _ => none
def wipeE (σ : Sl) : List Nat → Sl
  | [] => σ
  | v :: vs => (wipeE σ vs).set v none
def R.noex {α : Type} : R α → R α
  | .ok a h => .ok a h
  | _ => .bad
/-- a comprehension's turns -/
def lcLoop (t : Dt → Sl → Option Sl) (c : Sl → Hs → R Bool) (e : Sl → Hs → R Ev) (g : Gu) (σ : Sl) : List Dt → List Dt → Hs → R (List Dt)
  | [], acc, h => if guOk g h then .ok acc h else .bad
  | x :: xs, acc, h => if guOk g h then
      match t x σ with
      | none => .bad
      | some σ' => (c σ' h).bind fun k h => match k with
        | true => (e σ' h).bind fun v h => (lift (frz v h)).bind fun d h => lcLoop t c e g σ xs (acc ++ [d]) h
        | false => lcLoop t c e g σ xs acc h
    else .bad
/-- two clauses -/
def lc2Loop (t : Dt → Sl → Option Sl) (c : Sl → Hs → R Bool) (it : Sl → Hs → R (List Dt × Gu)) (t1 : Dt → Sl → Option Sl) (c1 : Sl → Hs → R Bool) (e : Sl → Hs → R Ev) (g : Gu) (σ : Sl) (vs1 : List Nat) : List Dt → List Dt → Hs → R (List Dt)
  | [], acc, h => if guOk g h then .ok acc h else .bad
  | x :: xs, acc, h => if guOk g h then
      match t x σ with
      | none => .bad
      | some σ' => (c σ' h).bind fun k h => match k with
        | true => (it σ' h).bind fun p h => if acc.length + p.1.length ≤ sizeLine then (lcLoop t1 c1 e p.2 (wipeE σ' vs1) p.1 acc h).bind fun acc h => lc2Loop t c it t1 c1 e g σ vs1 xs acc h else .bad
        | false => lc2Loop t c it t1 c1 e g σ vs1 xs acc h
    else .bad
/-- iterables: the items, and what they hang on -/
def guOf (v : Ev) (xs : List Dt) : Gu := match v with
  | .r n => .at_ n xs
  | _ => .no
def enumD (xs : List Dt) : List Dt := xs.zipIdx.map fun p => .tuple [.int (p.2 : Nat), p.1]
def zipD (xs ys : List Dt) : List Dt := (xs.zip ys).map fun p => .tuple [p.1, p.2]
def itE (e : C → Sl → Hs → R Ev) (it : It) (σ : Sl) (h : Hs) : R (List Dt × Gu) :=
  match it with
  | .val c => (e c σ h).bind fun v h => match seqOf v h with
    | some xs => .ok (xs, guOf v xs) h
    | none => .bad
  | .rng l => (evs e l σ h).bind fun vs h => match rngD vs with
    | some xs => .ok (xs, .no) h
    | none => .bad
  | .enm c => (e c σ h).bind fun v h => match lstOf v h with
    | some xs => .ok (enumD xs, guOf v xs) h
    | none => .bad
  | .zip a b => (e a σ h).bind fun x h => (e b σ h).bind fun y h => match x, y with
    | .d (.list xs), .d (.list ys) => .ok (zipD xs ys, .no) h
    | .d (.tuple xs), .d (.tuple ys) => .ok (zipD xs ys, .no) h
    | _, _ => .bad
  | .rvs c => (e c σ h).bind fun v h => match seqOf v h with
    | some xs => .ok (xs.reverse, guOf v xs) h
    | none => .bad
  | _ => .bad
def chainE (e : C → Sl → Hs → R Ev) (o o' : Cm) (a b c : C) (σ : Sl) (h : Hs) : R Ev :=
  (e a σ h).bind fun x h => (e b σ h).bind fun y h => (lift (cmpE o x y h)).bind fun k h => match k with
    | .d (.bool true) => (e c σ h).bind fun z h => lift (cmpE o' y z h)
    | .d (.bool false) => .ok (.d (.bool false)) h
    | _ => .bad
/-- a clause's test -/
def cnd (t : C → Sl → Hs → R Bool) : Option C → Sl → Hs → R Bool
  | none, _, h => .ok true h
  | some c, σ, h => t c σ h
section
variable (cl : Str → List Ev → Hs → R Ev) (gl : Str → Option Dt)
def evStep (e : C → Sl → Hs → R Ev) (t : C → Sl → Hs → R Bool) (c : C) (σ : Sl) (h : Hs) : R Ev :=
  match c with
  | .k d => .ok (.d d) h
  | .var i => match σ[i]? with
    | some (some v) => .ok v h
    | _ => .bad
  | .gl x => match gl x with
    | some d => .ok (.d d) h
    | none => .bad
  | .bin mk o a b => (e a σ h).bind fun x h => (e b σ h).bind fun y h => lift (opB mk o x y h)
  | .neg a => (e a σ h).bind fun x h => match x with
    | .d (.int i) => .ok (.d (.int (-i))) h
    | _ => .bad
  | .not a => (e a σ h).bind fun x h => match x with
    | .d (.bool b) => .ok (.d (.bool (!b))) h
    | _ => .bad
  | .and a b => (e a σ h).bind fun x h => match x with
    | .d (.bool true) => e b σ h
    | .d (.bool false) => .ok (.d (.bool false)) h
    | _ => .bad
  | .or a b => (e a σ h).bind fun x h => match x with
    | .d (.bool true) => .ok (.d (.bool true)) h
    | .d (.bool false) => e b σ h
    | _ => .bad
  | .cmp o a b => (e a σ h).bind fun x h => (e b σ h).bind fun y h => lift (cmpE o x y h)
  | .chain o o' a b c => chainE e o o' a b c σ h
  | .ifx q a b => (t q σ h).bind fun k h => match k with
    | true => e a σ h
    | false => e b σ h
  | .tup l => (evs e l σ h).bind fun vs h => (lift (frzs vs h)).bind fun ds h => if ds.length ≤ sizeLine then .ok (.d (.tuple ds)) h else .bad
  | .lst mk l => (evs e l σ h).bind fun vs h => (lift (frzs vs h)).bind fun ds h => if ds.length ≤ sizeLine then lift (newL mk ds h) else .bad
  | .dict l => dispE e l σ h
  | .ix a b => (e a σ h).bind fun x h => (e b σ h).bind fun y h => lift (ixE x y h)
  | .sl mk a lo hi => (e a σ h).bind fun x h => (evo e lo σ h).bind fun l h => (evo e hi σ h).bind fun u h => lift (slE mk x l u h)
  | .rev mk a => (e a σ h).bind fun x h => match lstOf x h with
    | some xs => lift (newL mk xs.reverse h)
    | none => .bad
  | .call f l => (evs e l σ h).bind fun vs h => callE cl f vs h
  | .b mk f l => (evs e l σ h).bind fun vs h => lift (bf mk f vs h)
  | .m f o l => (e o σ h).bind fun x h => match mTy f x h with
    | some _ => (evs e l σ h).bind fun vs h => lift (mf f x vs h)
    | none => .bad
  | .upd o l => (e o σ h).bind fun x h => match mTy .update x h with
    | some _ => (dispE e l σ h).bind fun y h' => (lift (mf .update x [y] h')).bind fun r h'' => .ok r (drop1 h.length h'')
    | none => .bad
  | .lc mk el tg it c vs => (itE e it σ h).bind fun p h => if p.1.length ≤ sizeLine then
      (lcLoop (asgD 8 tg) (cnd t c) (e el) p.2 (wipeE σ vs) p.1 [] h).noex.bind fun ds h => lift (newL mk ds h) else .bad
  | .lc2 mk el tg it c tg1 it1 c1 vs vs1 => (itE e it σ h).bind fun p h =>
      (lc2Loop (asgD 8 tg) (cnd t c) (itE e it1) (asgD 8 tg1) (cnd t c1) (e el) p.2 (wipeE σ vs) vs1 p.1 [] h).noex.bind fun ds h => lift (newL mk ds h)
def tvStep (e : C → Sl → Hs → R Ev) (t : C → Sl → Hs → R Bool) (c : C) (σ : Sl) (h : Hs) : R Bool :=
  match c with
  | .not a => (t a σ h).bind fun k h => .ok (!k) h
  | .and a b => (t a σ h).bind fun k h => match k with
    | true => t b σ h
    | false => .ok false h
  | .or a b => (t a σ h).bind fun k h => match k with
    | true => .ok true h
    | false => t b σ h
  | .cmp o a b => (e a σ h).bind fun x h => (e b σ h).bind fun y h => (lift (cmpE o x y h)).bind fun v h => match v with
    | .d (.bool k) => .ok k h
    | _ => .bad
  | .chain o o' a b c => (chainE e o o' a b c σ h).bind fun v h => match v with
    | .d (.bool k) => .ok k h
    | _ => .bad
  | c => (e c σ h).bind fun v h => match truth v h with
    | some k => .ok k h
    | none => .bad
def evT : Nat → (C → Sl → Hs → R Ev) × (C → Sl → Hs → R Bool)
  | 0 => (fun _ _ _ => .bad, fun _ _ _ => .bad)
  | n + 1 => (evStep cl gl (evT n).1 (evT n).2, tvStep (evT n).1 (evT n).2)
def ev (n : Nat) : C → Sl → Hs → R Ev := (evT cl gl n).1
def tv (n : Nat) : C → Sl → Hs → R Bool := (evT cl gl n).2
end
end EV

/-! EV3: the evaluator's readings, and what they rest on -/
namespace EV
open PySem PySem.Spec L2
/-- sizes -/
structure Hsm (K : PySem.W.Frag) (H : Hp) : Prop where
  lst : ∀ a xs, H a = some (.lst xs) → xs.length ≤ sizeLine
  tup : ∀ a xs, SqT K H a xs → xs.length ≤ sizeLine
  dk : ∀ a kvs, H a = some (.dK kvs) → kvs.length ≤ sizeLine
section
variable {X : Cx} {pins : List (Addr × Obj)} {σ : L2.St} {H : Hp} {s : Shared}
theorem Hsm.of (I : Inv X pins σ H s) : Hsm X.K H :=
  ⟨fun _ _ e => let ⟨_, _, _, z⟩ := I.list (SqL.of e); z, fun _ _ e => let ⟨_, _, _, z⟩ := I.tuple e; z, fun _ _ e => (dk_of I.hok e).1⟩
theorem pe_imps {e : Expr} {t t' : TE} (p : PE X e t) (f : ∀ σ H Q, t' σ H Q → Hsm X.K H → t σ H (fun v H' => Hsm X.K H' → Q v H')) : PE X e t' :=
  ⟨fun pins s σ H Q I q => thn (p.run pins s σ H _ I (f σ H Q q (Hsm.of I))) fun _ _ ⟨v, H1, I1, r1, q1⟩ => ⟨v, H1, I1, r1, q1 (Hsm.of I1)⟩⟩
theorem pt_imps {e : Expr} {t t' : TT} (p : PT X e t) (f : ∀ σ H Q, t' σ H Q → Hsm X.K H → t σ H (fun v H' => Hsm X.K H' → Q v H')) : PT X e t' :=
  ⟨fun pins s σ H Q I q => thn (p.run pins s σ H _ I (f σ H Q q (Hsm.of I))) fun _ _ ⟨H1, I1, q1⟩ => ⟨H1, I1, q1 (Hsm.of I1)⟩⟩
theorem pw_imps {e : Expr} {t t' : TT} (p : PW X e t) (f : ∀ σ H Q, t' σ H Q → Hsm X.K H → t σ H (fun v H' => Hsm X.K H' → Q v H')) : PW X e t' :=
  ⟨fun wh pins s σ H Q I q => thn (p.run wh pins s σ H _ I (f σ H Q q (Hsm.of I))) fun _ _ ⟨H1, I1, q1⟩ => ⟨H1, I1, q1 (Hsm.of I1)⟩⟩
theorem pa_imps {es : List Expr} {t t' : TA} (p : PA X es t) (f : ∀ σ H Q, t' σ H Q → Hsm X.K H → t σ H (fun v H' => Hsm X.K H' → Q v H')) : PA X es t' :=
  ⟨fun pos pins s σ H Q I q => thn (p.run pos pins s σ H _ I (f σ H Q q (Hsm.of I))) fun _ _ ⟨v, H1, I1, r1, q1⟩ => ⟨v, H1, I1, r1, q1 (Hsm.of I1)⟩⟩
theorem ep_sm {Q : VK} {u : Value} {s' : Shared} (e : EP X pins σ (fun v H' => Hsm X.K H' → Q v H') u s') : EP X pins σ Q u s' :=
  let ⟨v, H1, I1, r1, q1⟩ := e
  ⟨v, H1, I1, r1, q1 (Hsm.of I1)⟩
end
/-! ### readings -/
variable {mg : Str → Option Value} {K : PySem.W.Frag} {W : WX} {F : Addr → Prop} {A A' : List Addr} {h h' : Hs} {H H' : Hp} {σ : L2.St} {α β : Type}
def RDf (K : PySem.W.Frag) (H : Hp) (L : Addr → Prop) : List (Str × V) → List (Str × Dt) → Prop := Paired fun p q => p.1 = q.1 ∧ RD K H L p.2 q.2
/-- an error as the evaluator has it: its class by its name, its fields in its own dict -/
def RX (mg : Str → Option Value) (K : PySem.W.Frag) (F : Addr → Prop) (A : List Addr) (h : Hs) (H : Hp) (x : Exn) (c : Value) (od : Option Addr) : Prop :=
  mg x.cls = some c ∧ ∃ d fs, od = some d ∧ H d = some (.xd fs) ∧ RDf K H (Gd F A h) fs x.fs
def Ou (mg : Str → Option Value) (K : PySem.W.Frag) (W : WX) (F : Addr → Prop) (A : List Addr) (h : Hs) (H : Hp) (σ : L2.St) (r : R α) (P : α → List Addr → Hs → Hp → Prop) : Prop :=
  match r with
  | .ok a h' => ∀ A' H', Po K F A h H A' h' H' → Hsm K H' → P a A' h' H'
  | .ex x h' => ∀ A' H' c od, Po K F A h H A' h' H' → RX mg K F A' h' H' x c od → W c od σ H'
  | .bad => False
theorem Ou.bind {r : R α} {k : α → Hs → R β} {P : β → List Addr → Hs → Hp → Prop} (o : Ou mg K W F A h H σ (r.bind k) P) :
    Ou mg K W F A h H σ r (fun a A' h' H' => Ou mg K W F A' h' H' σ (k a h') P) := by
  cases r with
  | ok a h1 =>
    intro A1 H1 p1 _
    have o : Ou mg K W F A h H σ (k a h1) P := o
    revert o
    show Ou mg K W F A h H σ (k a h1) P → Ou mg K W F A1 h1 H1 σ (k a h1) P
    cases k a h1 with
    | ok b h2 => exact fun o A2 H2 p2 => o A2 H2 (p1.trans p2)
    | ex x h2 => exact fun o A2 H2 c od p2 => o A2 H2 c od (p1.trans p2)
    | bad => exact id
  | ex x h1 => exact o
  | bad => exact o
theorem Ou.imp {r : R α} {P P' : α → List Addr → Hs → Hp → Prop} (o : Ou mg K W F A h H σ r P) (f : ∀ a A' h' H', Po K F A h H A' h' H' → Hsm K H' → P a A' h' H' → P' a A' h' H') : Ou mg K W F A h H σ r P' := by
  cases r with
  | ok a h1 => exact fun A1 H1 p1 s1 => f a A1 h1 H1 p1 s1 (o A1 H1 p1 s1)
  | ex x h1 => exact o
  | bad => exact o
/-- a thing that is at hand -/
theorem Ou.here {a : α} {P : α → List Addr → Hs → Hp → Prop} (c : Cs K F A h H) (sm : Hsm K H) (o : Ou mg K W F A h H σ (.ok a h) P) : P a A h H := o A H (Po.refl c) sm
abbrev TR (α : Type) := Sl → Hs → R α
def tE (mg : Str → Option Value) (K : PySem.W.Frag) (W : WX) (r : TR Ev) : TE := fun σ H Q => ∃ F A σe h, Cs K F A h H ∧ Ss K F A h H σe σ ∧ Ou mg K W F A h H σ (r σe h) fun v A' h' H' => ∀ v', RV K F A' h' H' v v' → Q v' H'
def tT (mg : Str → Option Value) (K : PySem.W.Frag) (W : WX) (r : TR Bool) : TT := fun σ H Q => ∃ F A σe h, Cs K F A h H ∧ Ss K F A h H σe σ ∧ Ou mg K W F A h H σ (r σe h) fun v A' h' H' => Q v H'
def tA (mg : Str → Option Value) (K : PySem.W.Frag) (W : WX) (r : TR (List Ev)) : TA := fun σ H Q => ∃ F A σe h, Cs K F A h H ∧ Ss K F A h H σe σ ∧ Ou mg K W F A h H σ (r σe h) fun v A' h' H' => ∀ v', RVs K F A' h' H' v v' → Q v' H'
/-- what a value-level step gives -/
def Ov (K : PySem.W.Frag) (F : Addr → Prop) (A : List Addr) (h : Hs) (H : Hp) (o : Option (Ev × Hs)) (Q : VK) : Prop :=
  match o with
  | some p => ∀ A' H', Po K F A h H A' p.2 H' → Hsm K H' → ∀ v', RV K F A' p.2 H' p.1 v' → Q v' H'
  | none => False
theorem Ou.lift {o : Option (Ev × Hs)} {Q : VK} (q : Ou mg K W F A h H σ (lift o) fun v A' h' H' => ∀ v', RV K F A' h' H' v v' → Q v' H') : Ov K F A h H o Q := by
  cases o with
  | none => exact q
  | some p => exact q
theorem Ov.imp {o : Option (Ev × Hs)} {Q Q' : VK} (q : Ov K F A h H o Q) (f : ∀ v H', Hsm K H' → Q v H' → Q' v H') : Ov K F A h H o Q' := by
  cases o with
  | none => exact q
  | some p => exact fun A1 H1 p1 s1 v r => f v H1 s1 (q A1 H1 p1 s1 v r)
/-- the same state, a plain value -/
theorem Ov.data {d : Dt} {v : V} {Q : VK} (c : Cs K F A h H) (sm : Hsm K H) (q : Ov K F A h H (some (.d d, h)) Q) (r : RD K H (Gd F A h) v d) : Q v H := q A H (Po.refl c) sm v r
/-- a new list -/
theorem Ov.newL {mk : Bool} {xs : List Dt} {vs : List V} {Q : VK} {p : Addr} (c : Cs K F A h H) (q : Ov K F A h H (newL mk xs h) Q) (hp : H p = none) (r : RDs K H (Gd F A h) vs xs) (sm : Hsm K (upd H p (.lst vs))) : Q (.ref p) (upd H p (.lst vs)) := by
  cases mk with
  | false =>
    have po := Po.new c (.lst vs) hp
    exact q A _ po sm (.ref p) (.lst upd_same (c.ground hp) (RDs.mono (po.stay c) r))
  | true =>
    have po : Po K F A h H (A ++ [p]) (h ++ [.lst xs]) (upd H p (.lst vs)) := Po.cell c hp ⟨vs, upd_same, ?_⟩
    · exact q (A ++ [p]) _ po sm (.ref p) ⟨p, by rw [← c.len, List.getElem?_append_right (Nat.le_refl _), Nat.sub_self]; rfl, rfl⟩
    · refine RDs.mono (fun a u e n => ⟨same_upd hp a u e, fun z => ?_⟩) r
      rcases z with z | z
      · exact n (.inl z)
      · rcases z.snoc c.len with z | z
        · exact n (.inr z)
        · rw [z, hp] at e; cases e
/-- a new tuple: it is kept with its own object, which has no dict -/
theorem ep_newT {X : Cx} {pins : List (Addr × Obj)} {s : Shared} {xs : List Dt} {vs : List V} {its : List Value} {tk : Nat} {Q : VK} (I : Inv X pins σ H s) (c : Cs X.K F A h H) (q : Ov X.K F A h H (some (.d (.tuple xs), h)) Q) (r : RDs X.K H (Gd F A h) vs xs) (rv : Vals vs its)
    (hz : vs.length ≤ sizeLine) : EP X pins σ Q (.ref s.heap.objs.size) { s with heap := s.heap.push { cls := .type "tuple", data := .seq its.toArray }, toks := tk } := by
  have hp : H s.heap.objs.size = none := I.hok.fresh (Nat.le_refl _)
  have I' : Inv X pins σ (upd H s.heap.objs.size (.frz { cls := .type "tuple", data := .seq its.toArray } (.tup vs))) { s with heap := s.heap.push { cls := .type "tuple", data := .seq its.toArray }, toks := tk } := by
    refine I.laid (fun b u e => Heap.get?_push_of_some _ e) (Nat.le_refl _) ⟨Heap.get?_push_size _ rfl, hz, its, rv, PyProof.Rows.IsTup.new _ _⟩
  have po := Po.new c (.frz { cls := .type "tuple", data := .seq its.toArray } (.tup vs)) hp
  exact ⟨.ref s.heap.objs.size, _, I', rfl, q A _ po (Hsm.of I') _ (.tup (.inl ⟨_, upd_same, rfl, c.ground hp⟩) (RDs.mono (po.stay c) r))⟩
/-! ### what a value is, by what the evaluator sees -/
variable {x : V} {e : Ev}
theorem RD.none_ {L : Addr → Prop} (r : RD K H L x .none) : x = .non := by cases r; rfl
theorem RD.int_ {L : Addr → Prop} {i : Int} (r : RD K H L x (.int i)) : x = .int i := by cases r; rfl
theorem RD.bool_ {L : Addr → Prop} {i : Bool} (r : RD K H L x (.bool i)) : x = .bl i := by cases r; rfl
theorem RD.str_ {L : Addr → Prop} {i : Str} (r : RD K H L x (.str i)) : x = .str i := by cases r; rfl
theorem RD.list_ {L : Addr → Prop} {xs : List Dt} (r : RD K H L x (.list xs)) : ∃ a vs, x = .ref a ∧ H a = some (.lst vs) ∧ ¬ L a ∧ RDs K H L vs xs := by
  cases r with
  | lst q n r => exact ⟨_, _, rfl, q, n, r⟩
theorem RD.tuple_ {L : Addr → Prop} {xs : List Dt} (r : RD K H L x (.tuple xs)) : ∃ a vs, x = .ref a ∧ SqT K H a vs ∧ RDs K H L vs xs := by
  cases r with
  | tup q r =>
    refine ⟨_, _, rfl, ?_, r⟩
    rcases q with ⟨o, q, _, _⟩ | q
    · exact .inl (.inr ⟨o, q⟩)
    · exact q.sq
theorem RV.int_ {i : Int} (r : RV K F A h H e x) (p : peek e h = some (.int i)) : x = .int i := by
  cases e with
  | d y => cases p; exact RD.int_ r
  | r n =>
    simp only [peek] at p
    split at p <;> cases p
theorem RV.str_ {i : Str} (r : RV K F A h H e x) (p : peek e h = some (.str i)) : x = .str i := by
  cases e with
  | d y => cases p; exact RD.str_ r
  | r n =>
    simp only [peek] at p
    split at p <;> cases p
theorem RV.bool_ {i : Bool} (r : RV K F A h H e x) (p : peek e h = some (.bool i)) : x = .bl i := by
  cases e with
  | d y => cases p; exact RD.bool_ r
  | r n =>
    simp only [peek] at p
    split at p <;> cases p
theorem RV.none_ (r : RV K F A h H e x) (p : peek e h = some .none) : x = .non := by
  cases e with
  | d y => cases p; exact RD.none_ r
  | r n =>
    simp only [peek] at p
    split at p <;> cases p
theorem RV.tuple_ {xs : List Dt} (r : RV K F A h H e x) (p : peek e h = some (.tuple xs)) : ∃ a vs, x = .ref a ∧ SqT K H a vs ∧ RDs K H (Gd F A h) vs xs := by
  cases e with
  | d y => cases p; exact RD.tuple_ r
  | r n =>
    simp only [peek] at p
    split at p <;> cases p
/-- a cell of the frame -/
theorem RV.cell {n : Nat} {c₀ : Cell} (c : Cs K F A h H) (r : RV K F A h H (.r n) x) (e : h[n]? = some c₀) : ∃ a, A[n]? = some a ∧ x = .ref a ∧ CellOk K H (Gd F A h) a c₀ := by
  obtain ⟨a, ha, rfl⟩ := r
  exact ⟨a, ha, rfl, c.cell n a c₀ ha e⟩
theorem RV.list_ {xs : List Dt} (c : Cs K F A h H) (r : RV K F A h H e x) (p : peek e h = some (.list xs)) : ∃ a vs, x = .ref a ∧ H a = some (.lst vs) ∧ RDs K H (Gd F A h) vs xs := by
  cases e with
  | d y =>
    cases p
    obtain ⟨a, vs, e, q, _, r⟩ := RD.list_ r
    exact ⟨a, vs, e, q, r⟩
  | r n =>
    simp only [peek] at p
    split at p
    · rename_i ys hy
      cases p
      obtain ⟨a, _, e, vs, q1, q2⟩ := r.cell c hy
      exact ⟨a, vs, e, q1, q2⟩
    · cases p
    · cases p
/-- what the items of a thing are -/
theorem RV.seq_ {xs : List Dt} (c : Cs K F A h H) (r : RV K F A h H e x) (p : seqOf e h = some xs) : ∃ a vs, x = .ref a ∧ RDs K H (Gd F A h) vs xs ∧ (H a = some (.lst vs) ∨ SqT K H a vs) := by
  unfold seqOf at p
  split at p
  · cases p
    obtain ⟨a, vs, e, q, _, r⟩ := RD.list_ r
    exact ⟨a, vs, e, r, .inl q⟩
  · cases p
    obtain ⟨a, vs, e, q, r⟩ := RD.tuple_ r
    exact ⟨a, vs, e, r, .inr q⟩
  · split at p
    · rename_i ys hy
      cases p
      obtain ⟨a, _, e, vs, q1, q2⟩ := r.cell c hy
      exact ⟨a, vs, e, q2, .inl q1⟩
    · cases p
  · cases p
theorem lstOf_list {xs : List Dt} {e : Ev} {h : Hs} (p : lstOf e h = some xs) : peek e h = some (.list xs) := by
  unfold lstOf at p
  split at p
  · cases p; rfl
  · split at p
    · rename_i hy
      cases p
      simp only [peek, hy]
    · cases p
  · cases p
end EV

/-! EV4: operators, comparisons, subscripts, by values -/
namespace EV
open PySem PySem.Spec L2
/-! ### data are read as data -/
section
variable {K : PySem.W.Frag} {H : Hp} {L : Addr → Prop}
mutual
theorem RD.dp : ∀ {v : V} {d : Dt}, RD K H L v d → d.plain = true → Dp K H v d
  | _, _, .non, _ => .non
  | _, _, .bl b, _ => .bl b
  | _, _, .int i, _ => .int i
  | _, _, .str x, _ => .str x
  | _, _, .lst q _ r, p => .lst (SqL.of q) (RDs.dp r (by simpa [PyData.plain] using p))
  | _, _, .tup q r, p => .tup (by
      rcases q with ⟨o, q, _, _⟩ | q
      · exact .inl (.inr ⟨o, q⟩)
      · exact q.sq) (RDs.dp r (by simpa [PyData.plain] using p))
  | _, _, .dic _ _ _, p => by simp [PyData.plain] at p
theorem RDs.dp : ∀ {vs : List V} {ds : List Dt}, RDs K H L vs ds → PyData.plainAll ds = true → DpAll K H vs ds
  | _, _, .nil, _ => .nil
  | _, _, .cons a b, p => by
    rw [PyData.plainAll, Bool.and_eq_true] at p
    exact .cons (RD.dp a p.1) (RDs.dp b p.2)
end
end
section
variable {X : Cx} {pins : List (Addr × Obj)} {σ : L2.St} {H : Hp} {s : Shared} {F : Addr → Prop} {A : List Addr} {h : Hs} {x y : V} {v u : Value} {e e' : Ev} {d d' : Dt}
/-- what the evaluator sees of a value is read there -/
theorem RV.reads (I : Inv X pins σ H s) (c : Cs X.K F A h H) (r : RV X.K F A h H e x) (rx : RelV x v) (p : peek e h = some d) (pl : d.plain = true) : ∃ as, Reads s.heap v d as := by
  have dp : Dp X.K H x d := by
    cases e with
    | d y =>
      cases p
      exact RD.dp r pl
    | r n =>
      simp only [peek] at p
      split at p
      · rename_i ys hy
        cases p
        obtain ⟨a, _, e, vs, q1, q2⟩ := r.cell c hy
        subst e
        exact .lst (SqL.of q1) (RDs.dp q2 (by simpa [PyData.plain] using pl))
      · cases p
        simp [PyData.plain] at pl
      · cases p
  exact Dp.reads I d x v dp rx
def r2 (K : PySem.W.Frag) (f : Ev → Ev → Hs → Option (Ev × Hs)) : R2 := fun x y H Q => ∃ F A h ex ey, Cs K F A h H ∧ RV K F A h H ex x ∧ RV K F A h H ey y ∧ Ov K F A h H (f ex ey h) Q
/-- the same heap, data -/
theorem ep_data {Q : VK} {u : Value} {tk : Nat} (I : Inv X pins σ H s) (c : Cs X.K F A h H) (o : Ov X.K F A h H (some (.d d, h)) Q) (r : RD X.K H (Gd F A h) x d) (ru : RelV x u) : EP X pins σ Q u { s with toks := tk } :=
  ⟨x, H, I.tok tk, ru, Ov.data c (Hsm.of I) o r⟩
theorem ep_bool {Q : VK} {b b' : Bool} (I : Inv X pins σ H s) (c : Cs X.K F A h H) (o : Ov X.K F A h H (some (.d (.bool b), h)) Q) (e : b = b') : EP X pins σ Q (.bool b') s := by
  subst e
  exact ep_data (tk := s.toks) I c o (.bl b) rfl
theorem op_at {f : Value → Value → Sem Value} {r : R2} {Q : VK} (q : OpR X f r) (I : Inv X pins σ H s) (rx : RelV x v) (ry : RelV y u) (w : r x y H (fun v H' => Hsm X.K H' → Q v H')) :
    wpAny (model X.prog X.w) X.A (f v u) (EP X pins σ Q) X.xe s := thn (q pins s σ H x y v u _ I rx ry w) fun _ _ e => ep_sm e
/-! ### binary operators -/
def O2.py : O2 → Operator
  | .add => .Add
  | .sub => .Sub
  | .mul => .Mult
  | .div => .FloorDiv
  | .mod => .Mod
  | .pow => .Pow
  | .xor => .BitXor
theorem opB_some {mk : Bool} {o : O2} {K : PySem.W.Frag} {Q : VK} (q : Ov K F A h H (opB mk o e e' h) Q) : ∃ a b, peek e h = some a ∧ peek e' h = some b ∧ Ov K F A h H (binD mk o a b h) Q := by
  unfold opB at q
  cases e1 : peek e h with
  | none => rw [e1] at q; exact q.elim
  | some a =>
    cases e2 : peek e' h with
    | none => rw [e1, e2] at q; exact q.elim
    | some b => rw [e1, e2] at q; exact ⟨a, b, rfl, rfl, q⟩
theorem or_bin {mk : Bool} (o : O2) : OpR X (binaryOp o.py) (r2 X.K (opB mk o)) := by
  intro pins s σ H x y v u Q I rx ry ⟨F, A, h, ex, ey, c, r1, r2, q0⟩
  obtain ⟨a, b, e1, e2, q⟩ := opB_some q0
  clear q0
  have sm := Hsm.of I
  cases o with
  | add =>
    cases a <;> cases b <;> first | exact q.elim | skip
    · rename_i i j
      exact op_at op_add I rx ry ⟨i, j, r1.int_ e1, r2.int_ e2, fun _ => Ov.data c sm q (.int _)⟩
    · rename_i i j
      simp only [binD] at q
      split at q
      · rename_i hz
        exact op_at op_add_str I rx ry ⟨i, j, r1.str_ e1, r2.str_ e2, hz, fun _ => Ov.data c sm q (.str _)⟩
      · exact q.elim
    · rename_i xs ys
      simp only [binD] at q
      split at q
      · rename_i hz
        obtain ⟨a, vs, rfl, h1, k1⟩ := r1.list_ c e1
        obtain ⟨b, ws, rfl, h2, k2⟩ := r2.list_ c e2
        exact op_at op_cat I rx ry ⟨a, b, vs, ws, rfl, rfl, h1, h2, by rw [k1.length, k2.length]; exact hz, fun p hp sm => Ov.newL c q hp (k1.append k2) sm⟩
      · exact q.elim
    · rename_i xs ys
      simp only [binD] at q
      split at q
      · rename_i hz
        obtain ⟨a, vs, rfl, h1, k1⟩ := r1.tuple_ e1
        obtain ⟨b, ws, rfl, h2, k2⟩ := r2.tuple_ e2
        cases rx
        cases ry
        obtain ⟨its, rv, p1, z1⟩ := I.tuple h1
        obtain ⟨its2, rv2, p2, z2⟩ := I.tuple h2
        have l1 := rv.length
        have l2 := rv2.length
        have l3 := k1.length
        have l4 := k2.length
        have left : ys = [] → EP X pins σ Q (.ref a) s := fun e => by
          subst e
          rw [List.append_nil] at q
          cases ex with
          | d y => cases e1; exact ⟨.ref a, H, I, rfl, Ov.data c sm q r1⟩
          | r n => simp only [peek] at e1; split at e1 <;> cases e1
        by_cases hx : xs = []
        · subst hx
          cases k1
          cases rv
          refine cat_tup0 p1 p2 ?_
          cases ey with
          | d y => cases e2; exact ⟨.ref b, H, I, rfl, Ov.data c sm q r2⟩
          | r n => simp only [peek] at e2; split at e2 <;> cases e2
        · refine HT.cat_tup p1 p2 (fun e => hx ?_) (fun e => left ?_) (fun _ => ?_) (by omega)
          · subst e
            exact List.eq_nil_of_length_eq_zero (l3.symm.trans l1)
          · subst e
            exact List.eq_nil_of_length_eq_zero (l4.symm.trans l2)
          · exact ep_newT (tk := s.toks) I c q (k1.append k2) (rv.append rv2) (by rw [List.length_append]; omega)
      · exact q.elim
  | sub =>
    cases a <;> cases b <;> first | exact q.elim | skip
    rename_i i j
    exact op_at op_sub I rx ry ⟨i, j, r1.int_ e1, r2.int_ e2, fun _ => Ov.data c sm q (.int _)⟩
  | mul =>
    cases a <;> cases b <;> first | exact q.elim | skip
    rename_i i j
    simp only [binD] at q
    split at q
    · rename_i hz
      exact op_at op_mul I rx ry ⟨i, j, r1.int_ e1, r2.int_ e2, hz, fun _ => Ov.data c sm q (.int _)⟩
    · exact q.elim
  | div =>
    cases a <;> cases b <;> first | exact q.elim | skip
    rename_i i j
    simp only [binD] at q
    split at q
    · rename_i hz
      exact op_at op_fdiv I rx ry ⟨i, j, r1.int_ e1, r2.int_ e2, hz, fun _ => Ov.data c sm q (.int _)⟩
    · exact q.elim
  | mod =>
    cases a <;> cases b <;> first | exact q.elim | skip
    rename_i i j
    simp only [binD] at q
    split at q
    · rename_i hz
      exact op_at op_mod I rx ry ⟨i, j, r1.int_ e1, r2.int_ e2, hz, fun _ => Ov.data c sm q (.int _)⟩
    · exact q.elim
  | pow =>
    cases a <;> cases b <;> first | exact q.elim | skip
    rename_i i j
    simp only [binD] at q
    split at q
    · rename_i hz
      exact op_at op_pow I rx ry ⟨i, j, r1.int_ e1, r2.int_ e2, hz, fun _ => Ov.data c sm q (.int _)⟩
    · exact q.elim
  | xor =>
    cases a <;> cases b <;> first | exact q.elim | skip
    rename_i i j
    exact op_at op_xor I rx ry ⟨i, j, r1.int_ e1, r2.int_ e2, fun _ => Ov.data c sm q (.int _)⟩
end
end EV

/-! EV5: comparisons, dicts' entries, subscripts, slices -/
namespace EV
open PySem PySem.Spec PySem.SeqAt L2
section
variable {K : PySem.W.Frag} {H : Hp} {L : Addr → Prop}
theorem keyD_inj {a b : Key} (e : keyD a = keyD b) : a = b := by
  cases a <;> cases b <;> cases e <;> rfl
theorem toKey_keyD {d : Dt} {k : Key} (e : toKey d = some k) : d = keyD k := by
  cases d <;> simp only [toKey] at e <;> cases e <;> rfl
theorem RD.key {d : Dt} {k : Key} {x : V} (r : RD K H L x d) (e : toKey d = some k) : x = kV k := by
  rw [toKey_keyD e] at r
  cases k with
  | inl i => exact RD.int_ r
  | inr z => exact RD.str_ r
theorem val_cons {α : Type} (p : Key × α) (r : List (Key × α)) (k : Key) : val (p :: r) k = if p.1 = k then some p.2 else val r k := by
  unfold val
  rw [List.find?_cons]
  by_cases e : p.1 = k
  · simp [e]
  · simp [e]
theorem RDk.val : ∀ {kvs : List (Key × Dt)} {vs : List (Key × V)}, RDk K H L vs (kvD kvs) → ∀ k : Key, (∃ v d, valV vs k = some v ∧ EV.val kvs k = some d ∧ RD K H L v d) ∨ (valV vs k = none ∧ EV.val kvs k = none)
  | [], _, r, k => by
    have r : RDk K H L _ [] := r
    cases r
    exact .inr ⟨rfl, rfl⟩
  | (k0, d0) :: kvs, vs, r, k => by
    have r : RDk K H L vs ((keyD k0, d0) :: kvD kvs) := r
    generalize hk : keyD k0 = kd at r
    cases r with
    | @cons k1 v1 vs1 _ _ a b =>
      have e := keyD_inj hk
      subst e
      rw [val_cons]
      by_cases ek : k0 = k
      · left
        exact ⟨v1, d0, valV_pos (p := (k0, v1)) ek, if_pos ek, a⟩
      · rw [valV_neg (p := (k0, v1)) ek, if_neg ek]
        exact RDk.val b k
theorem RDk.any : ∀ {kvs : List (Key × Dt)} {vs : List (Key × V)}, RDk K H L vs (kvD kvs) → ∀ k : Key, (vs.any fun kv => decide (kv.1 = k)) = kvs.any fun kv => decide (kv.1 = k)
  | [], _, r, k => by
    have r : RDk K H L _ [] := r
    cases r
    rfl
  | (k0, d0) :: kvs, vs, r, k => by
    have r : RDk K H L vs ((keyD k0, d0) :: kvD kvs) := r
    generalize hk : keyD k0 = kd at r
    cases r with
    | @cons k1 v1 vs1 _ _ a b =>
      have e := keyD_inj hk
      subst e
      rw [List.any_cons, List.any_cons, RDk.any b k]
theorem RDk.repl {k : Key} {v : V} {d : Dt} (rv : RD K H L v d) : ∀ {kvs : List (Key × Dt)} {vs : List (Key × V)}, RDk K H L vs (kvD kvs) →
    RDk K H L (vs.map fun kv => if kv.1 = k then (kv.1, v) else kv) (kvD (kvs.map fun kv => if kv.1 = k then (kv.1, d) else kv))
  | [], _, r => by
    have r : RDk K H L _ [] := r
    cases r
    exact .nil
  | (k0, d0) :: kvs, vs, r => by
    have r : RDk K H L vs ((keyD k0, d0) :: kvD kvs) := r
    generalize hk : keyD k0 = kd at r
    cases r with
    | @cons k1 v1 vs1 _ _ a b =>
      have e := keyD_inj hk
      subst e
      have t := RDk.repl (k := k) rv b
      rw [List.map_cons, List.map_cons]
      by_cases ek : k0 = k
      · rw [if_pos ek, if_pos ek]
        exact .cons rv t
      · rw [if_neg ek, if_neg ek]
        exact .cons a t
theorem RDk.app : ∀ {kvs more : List (Key × Dt)} {vs ws : List (Key × V)}, RDk K H L vs (kvD kvs) → RDk K H L ws (kvD more) → RDk K H L (vs ++ ws) (kvD (kvs ++ more))
  | [], _, _, _, r, q => by
    have r : RDk K H L _ [] := r
    cases r
    exact q
  | (k0, d0) :: kvs, more, vs, ws, r, q => by
    have r : RDk K H L vs ((keyD k0, d0) :: kvD kvs) := r
    generalize hk : keyD k0 = kd at r
    cases r with
    | @cons k1 v1 vs1 _ _ a b =>
      have e := keyD_inj hk
      subst e
      exact .cons a (RDk.app b q)
theorem RDk.put {kvs : List (Key × Dt)} {vs : List (Key × V)} (r : RDk K H L vs (kvD kvs)) (k : Key) {v : V} {d : Dt} (rv : RD K H L v d) : RDk K H L (putK vs k v) (kvD (EV.put kvs k d)) := by
  unfold putK EV.put
  rw [r.any k]
  split
  · exact r.repl rv
  · exact r.app (.cons rv .nil)
theorem RDk.merge : ∀ {more : List (Key × Dt)} {ws : List (Key × V)} {kvs : List (Key × Dt)} {vs : List (Key × V)}, RDk K H L ws (kvD more) → RDk K H L vs (kvD kvs) → RDk K H L (mergeK vs ws) (kvD (EV.merge kvs more))
  | [], _, _, _, r, q => by
    have r : RDk K H L _ [] := r
    cases r
    exact q
  | (k0, d0) :: more, ws, kvs, vs, r, q => by
    have r : RDk K H L ws ((keyD k0, d0) :: kvD more) := r
    generalize hk : keyD k0 = kd at r
    cases r with
    | @cons k1 v1 vs1 _ _ a b =>
      have e := keyD_inj hk
      subst e
      exact RDk.merge (more := more) (ws := vs1) (kvs := EV.put kvs k0 d0) (vs := putK vs k0 v1) b (RDk.put q k0 a)
theorem RDk.length : ∀ {ds : List (Dt × Dt)} {vs : List (Key × V)}, RDk K H L vs ds → vs.length = ds.length
  | _, _, .nil => rfl
  | _, _, .cons _ b => by rw [List.length_cons, List.length_cons, RDk.length b]
theorem kvD_length (kvs : List (Key × Dt)) : (kvD kvs).length = kvs.length := List.length_map _
end
section
variable {X : Cx} {pins : List (Addr × Obj)} {σ : L2.St} {H : Hp} {s : Shared} {F : Addr → Prop} {A : List Addr} {h : Hs} {x y : V} {v u : Value} {e e' : Ev} {d d' : Dt}
theorem eqD_some {a b : Dt} {k : Bool} (q : eqD a b = some k) : a.plain = true ∧ b.plain = true ∧ min a.depth b.depth ≤ 100 ∧ k = PyData.eqv a b := by
  unfold eqD at q
  split at q
  · cases q
    exact ⟨rfl, rfl, by simp [PyData.depth], rfl⟩
  · cases q
    exact ⟨rfl, rfl, by simp [PyData.depth], rfl⟩
  · split at q
    · rename_i hc
      cases q
      simp only [Bool.and_eq_true, decide_eq_true_eq] at hc
      exact ⟨hc.1.1, hc.1.2, hc.2, rfl⟩
    · cases q
def Cm.py : Cm → CmpOp
  | .eq => .Eq
  | .ne => .NotEq
  | .lt => .Lt
  | .le => .LtE
  | .gt => .Gt
  | .ge => .GtE
  | .isin => .In
  | .notin => .NotIn
  | .is => .Is
  | .isnot => .IsNot
theorem ofB_some {K : PySem.W.Frag} {o : Option Bool} {Q : VK} (q : Ov K F A h H (ofB o h) Q) : ∃ b, o = some b ∧ Ov K F A h H (some (.d (.bool b), h)) Q := by
  cases o with
  | none => exact q.elim
  | some b => exact ⟨b, rfl, q⟩
theorem RV.nonB {a : Dt} {K : PySem.W.Frag} (r : RV K F A h H e x) (p : peek e h = some a) : isNone a = decide (x = .non) := by
  cases e with
  | d y =>
    cases p
    cases r <;> rfl
  | r n =>
    obtain ⟨b, _, rfl⟩ := r
    simp only [peek] at p
    split at p <;> cases p <;> rfl
/-- two things of which the evaluator sees data -/
theorem cmp_data (hu : X.A.units + 200 < cLine) (o : Cm) {a b : Dt} {Q : VK} (I : Inv X pins σ H s) (c : Cs X.K F A h H) (r1 : RV X.K F A h H e x) (r2 : RV X.K F A h H e' y) (rx : RelV x v) (ry : RelV y u)
    (e1 : peek e h = some a) (e2 : peek e' h = some b) (q0 : Ov X.K F A h H (ofB (cmpD o a b) h) Q) : wpAny (model X.prog X.w) X.A (compareOp o.py v u) (EP X pins σ Q) X.xe s := by
  obtain ⟨k, ek, q⟩ := ofB_some q0
  clear q0
  have sm := Hsm.of I
  have inn : ∀ {xs : List Dt} {tup : Bool} {k : Bool}, b = (if tup then .tuple xs else .list xs) → inD a xs = some k → PyData.plainAll xs = true ∧ a.plain = true ∧ X.A.units + 1 + min (PyData.depthAll xs) a.depth < cLine ∧ k = (xs.any fun y => PyData.eqv y a) ∧ b.plain = true := by
    intro xs tup k hb hi
    unfold inD at hi
    split at hi
    · rename_i hc
      cases hi
      simp only [Bool.and_eq_true, decide_eq_true_eq] at hc
      refine ⟨hc.1.1, hc.1.2, by omega, rfl, ?_⟩
      rw [hb]
      cases tup <;> simpa [PyData.plain] using hc.1.1
    · cases hi
  cases o with
  | eq =>
    obtain ⟨p1, p2, p3, rfl⟩ := eqD_some ek
    obtain ⟨as, ra⟩ := r1.reads I c rx e1 p1
    obtain ⟨bs, rb⟩ := r2.reads I c ry e2 p2
    exact eq_plain ra rb p1 p2 (by omega) (ep_bool I c q rfl)
  | ne =>
    cases ee : eqD a b with
    | none => rw [cmpD, ee] at ek; cases ek
    | some k' =>
      rw [cmpD, ee] at ek
      cases ek
      obtain ⟨p1, p2, p3, rfl⟩ := eqD_some ee
      obtain ⟨as, ra⟩ := r1.reads I c rx e1 p1
      obtain ⟨bs, rb⟩ := r2.reads I c ry e2 p2
      exact ne_plain ra rb p1 p2 (by omega) (ep_bool I c q rfl)
  | lt =>
    have gen : ltD a b = some k → wpAny (model X.prog X.w) X.A (compareOp .Lt v u) (EP X pins σ Q) X.xe s := by
      intro hl
      unfold ltD at hl
      split at hl
      · cases hl
      · rename_i hne
        split at hl
        · rename_i hc
          cases hl
          simp only [Bool.and_eq_true, decide_eq_true_eq] at hc
          obtain ⟨as, ra⟩ := r1.reads I c rx e1 hc.1.1.2
          obtain ⟨bs, rb⟩ := r2.reads I c ry e2 hc.1.2
          exact PySem.W.lt_data ra rb hc.1.1.1 hne (by omega) (ep_bool I c q rfl)
        · cases hl
    cases a <;> cases b <;> first | exact gen ek | skip
    rename_i i j
    cases ek
    exact op_at op_lt I rx ry ⟨i, j, r1.int_ e1, r2.int_ e2, fun _ => Ov.data c sm q (.bl _)⟩
  | le =>
    obtain ⟨i, j, rfl, rfl, rfl⟩ : ∃ i j, a = .int i ∧ b = .int j ∧ k = decide (i ≤ j) := by
      cases a <;> cases b <;> cases ek <;> exact ⟨_, _, rfl, rfl, rfl⟩
    exact op_at op_le I rx ry ⟨i, j, r1.int_ e1, r2.int_ e2, fun _ => Ov.data c sm q (.bl _)⟩
  | gt =>
    obtain ⟨i, j, rfl, rfl, rfl⟩ : ∃ i j, a = .int i ∧ b = .int j ∧ k = decide (j < i) := by
      cases a <;> cases b <;> cases ek <;> exact ⟨_, _, rfl, rfl, rfl⟩
    exact op_at op_gt I rx ry ⟨i, j, r1.int_ e1, r2.int_ e2, fun _ => Ov.data c sm q (.bl _)⟩
  | ge =>
    obtain ⟨i, j, rfl, rfl, rfl⟩ : ∃ i j, a = .int i ∧ b = .int j ∧ k = decide (j ≤ i) := by
      cases a <;> cases b <;> cases ek <;> exact ⟨_, _, rfl, rfl, rfl⟩
    exact op_at op_ge I rx ry ⟨i, j, r1.int_ e1, r2.int_ e2, fun _ => Ov.data c sm q (.bl _)⟩
  | isin =>
    have ek : (match b with
      | .list ys => inD a ys
      | .tuple ys => inD a ys
      | _ => none) = some k := by
      cases b <;> first | exact ek | (simp only [cmpD] at ek; cases ek)
    cases b with
    | list ys =>
      obtain ⟨p1, p2, p3, rfl, p4⟩ := inn (tup := false) rfl ek
      obtain ⟨as, ra⟩ := r1.reads I c rx e1 p2
      obtain ⟨bs, rb⟩ := r2.reads I c ry e2 p4
      exact in_list_data rb ra p1 p2 p3 (ep_bool I c q rfl)
    | tuple ys =>
      obtain ⟨p1, p2, p3, rfl, p4⟩ := inn (tup := true) rfl ek
      obtain ⟨as, ra⟩ := r1.reads I c rx e1 p2
      obtain ⟨bs, rb⟩ := r2.reads I c ry e2 p4
      exact in_tuple_data rb ra p1 p2 p3 (ep_bool I c q rfl)
    | _ => cases ek
  | notin =>
    have ek : (match b with
      | .list ys => inD a ys
      | .tuple ys => inD a ys
      | _ => none) = some (!k) := by
      cases b <;> simp only [cmpD] at ek <;> first | cases ek | skip
      all_goals
        rename_i ys
        cases ee : inD a ys with
        | none => rw [ee] at ek; cases ek
        | some k' =>
          rw [ee] at ek
          cases ek
          rw [Bool.not_not]
          exact ee
    cases b with
    | list ys =>
      obtain ⟨p1, p2, p3, p5, p4⟩ := inn (tup := false) rfl ek
      obtain ⟨as, ra⟩ := r1.reads I c rx e1 p2
      obtain ⟨bs, rb⟩ := r2.reads I c ry e2 p4
      exact notIn_list_data rb ra p1 p2 p3 (ep_bool I c q (by rw [← p5, Bool.not_not]))
    | tuple ys =>
      obtain ⟨p1, p2, p3, p5, p4⟩ := inn (tup := true) rfl ek
      obtain ⟨as, ra⟩ := r1.reads I c rx e1 p2
      obtain ⟨bs, rb⟩ := r2.reads I c ry e2 p4
      exact notIn_tuple_data rb ra p1 p2 p3 (ep_bool I c q (by rw [← p5, Bool.not_not]))
    | _ => cases ek
  | is =>
    have two : b = .none ∧ k = isNone a ∨ ∃ i j, a = .bool i ∧ b = .bool j ∧ k = decide (i = j) := by
      cases b with
      | none => left; cases a <;> cases ek <;> exact ⟨rfl, rfl⟩
      | bool j => cases a <;> cases ek; exact .inr ⟨_, _, rfl, rfl, rfl⟩
      | _ => cases a <;> cases ek
    rcases two with ⟨rfl, rfl⟩ | ⟨i, j, rfl, rfl, rfl⟩
    · exact op_at op_isN I rx ry ⟨r2.none_ e2, fun _ => by rw [r1.nonB e1] at q; exact Ov.data c sm q (.bl _)⟩
    · exact op_at op_isBl I rx ry ⟨i, j, r1.bool_ e1, r2.bool_ e2, fun _ => Ov.data c sm q (.bl _)⟩
  | isnot =>
    have two : b = .none ∧ k = !isNone a ∨ ∃ i j, a = .bool i ∧ b = .bool j ∧ k = !decide (i = j) := by
      cases b with
      | none => left; cases a <;> cases ek <;> exact ⟨rfl, rfl⟩
      | bool j => cases a <;> cases ek; exact .inr ⟨_, _, rfl, rfl, rfl⟩
      | _ => cases a <;> cases ek
    rcases two with ⟨rfl, rfl⟩ | ⟨i, j, rfl, rfl, rfl⟩
    · exact op_at op_notN I rx ry ⟨r2.none_ e2, fun _ => by rw [r1.nonB e1] at q; exact Ov.data c sm q (.bl _)⟩
    · exact op_at op_notBl I rx ry ⟨i, j, r1.bool_ e1, r2.bool_ e2, fun _ => Ov.data c sm q (.bl _)⟩
theorem RV.dget {n : Nat} {lk : Bool} {kvs : List (Key × Dt)} {k : Key} {kd : Dt} {K : PySem.W.Frag} (c : Cs K F A h H) (r : RV K F A h H (.r n) x) (e : h[n]? = some (.dic lk kvs)) (rk : RV K F A h H (.d kd) y) (ek : toKey kd = some k) :
    ∃ a o, x = .ref a ∧ DGet H a y o ∧ ((∃ w d, o = some w ∧ val kvs k = some d ∧ RD K H (Gd F A h) w d) ∨ (o = none ∧ val kvs k = none)) := by
  obtain ⟨a, _, rfl, q⟩ := r.cell c e
  have ey : y = kV k := RD.key rk ek
  cases lk with
  | false =>
    obtain ⟨vs, q1, q2⟩ := q
    refine ⟨a, valV vs k, rfl, .inl ⟨vs, k, .inl q1, ey, rfl⟩, ?_⟩
    exact q2.val k
  | true =>
    obtain ⟨vs, o, q1, q2⟩ := q
    refine ⟨a, valV vs k, rfl, .inl ⟨vs, k, .inr ⟨o, q1⟩, ey, rfl⟩, ?_⟩
    exact q2.val k
theorem or_cmp (hu : X.A.units + 200 < cLine) (o : Cm) : OpR X (compareOp o.py) (r2 X.K (cmpE o)) := by
  intro pins s σ H x y v u Q I rx ry ⟨F, A, h, ex, ey, c, r1, r2, q0⟩
  have gen : (∃ a b, peek ex h = some a ∧ peek ey h = some b ∧ Ov X.K F A h H (ofB (cmpD o a b) h) Q) → wpAny (model X.prog X.w) X.A (compareOp o.py v u) (EP X pins σ Q) X.xe s := fun ⟨a, b, e1, e2, q⟩ => cmp_data hu o I c r1 r2 rx ry e1 e2 q
  have two : Ov X.K F A h H (match peek ex h, peek ey h with
      | some a, some b => ofB (cmpD o a b) h
      | _, _ => none) Q → ∃ a b, peek ex h = some a ∧ peek ey h = some b ∧ Ov X.K F A h H (ofB (cmpD o a b) h) Q := fun q => by
    cases e1 : peek ex h with
    | none => rw [e1] at q; exact q.elim
    | some a =>
      cases e2 : peek ey h with
      | none => rw [e1, e2] at q; exact q.elim
      | some b => rw [e1, e2] at q; exact ⟨a, b, rfl, rfl, q⟩
  cases o with
  | isin =>
    cases ex with
    | r m => exact gen (two q0)
    | d kd =>
      cases ey with
      | d z => exact gen (two q0)
      | r n =>
        simp only [cmpE] at q0
        cases ee : h[n]? with
        | none => rw [ee] at q0; exact q0.elim
        | some cl =>
          rw [ee] at q0
          cases cl with
          | lst ys => exact gen ⟨kd, .list ys, rfl, by simp only [peek, ee], q0⟩
          | dic lk kvs =>
            cases ek : toKey kd with
            | none => rw [ek] at q0; exact q0.elim
            | some k =>
              rw [ek] at q0
              obtain ⟨a, o, rfl, g, w⟩ := r2.dget c ee r1 ek
              cases ry
              refine d_in (by omega) I g rx fun s' I' => ?_
              refine ep_bool I' c q0 ?_
              rcases w with ⟨_, _, rfl, e2, _⟩ | ⟨rfl, e2⟩ <;> rw [e2] <;> rfl
          | _ => exact q0.elim
  | notin =>
    cases ex with
    | r m => exact gen (two q0)
    | d kd =>
      cases ey with
      | d z => exact gen (two q0)
      | r n =>
        simp only [cmpE] at q0
        cases ee : h[n]? with
        | none => rw [ee] at q0; exact q0.elim
        | some cl =>
          rw [ee] at q0
          cases cl with
          | lst ys => exact gen ⟨kd, .list ys, rfl, by simp only [peek, ee], q0⟩
          | dic lk kvs =>
            cases ek : toKey kd with
            | none => rw [ek] at q0; exact q0.elim
            | some k =>
              rw [ek] at q0
              obtain ⟨a, o, rfl, g, w⟩ := r2.dget c ee r1 ek
              cases ry
              refine d_notIn (by omega) I g rx fun s' I' => ?_
              refine ep_bool I' c q0 ?_
              rcases w with ⟨_, _, rfl, e2, _⟩ | ⟨rfl, e2⟩ <;> rw [e2] <;> rfl
          | _ => exact q0.elim
  | _ => exact gen (two q0)
/-! ### subscripts -/
theorem atI_rel {K : PySem.W.Frag} {L : Addr → Prop} {vs : List V} {ds : List Dt} {i : Int} {d : Dt} (r : RDs K H L vs ds) (e : atI ds i = some d) : ∃ w, atI vs i = some w ∧ RD K H L w d := by
  unfold atI at e ⊢
  rw [r.length]
  cases q : ixN ds.length i with
  | none => rw [q] at e; cases e
  | some j =>
    rw [q] at e
    exact r.get e
theorem ixL_some {K : PySem.W.Frag} {xs : List Dt} {i : Int} {Q : VK} (q : Ov K F A h H (ixL xs i h) Q) : ∃ d, atI xs i = some d ∧ Ov K F A h H (some (.d d, h)) Q := by
  unfold ixL at q
  cases e : atI xs i with
  | none => rw [e] at q; exact q.elim
  | some d => rw [e] at q; exact ⟨d, rfl, q⟩
theorem tail_any {prog : Program} {w : World} {AA : Around} {E : Value → Shared → Prop} {s : Shared} {value slice : Expr} {o i : Value} {T id : String} {Q : Value → Shared → Prop} (hT : s.TypeIs o T)
    (hl : typeLookup (.type T) "__getitem__" = pure (some (.builtin id))) (w0 : wpAny (model prog w) AA (getItem o i) Q E s)
    (hs : subscripted slice false o i = operate [o, i] (getItem o i)) : wpAny (model prog w) AA (PyProof.Rows.subscriptTail value slice o i) Q E s := by
  unfold PyProof.Rows.subscriptTail
  rw [getitemInPython_of_ne hT.not_modules]
  have k : wpAny (model prog w) AA (subscripted slice false o i) (fun r s' => wpAny (model prog w) AA (do letTemporaryGo value o r; pure r) Q E s') E s := by
    rw [hs]
    refine wpAny_operating (wpAny_mono w0 (fun r s' q => ?_) fun _ _ z => z)
    exact wpAny_bind (wpAny_letTemporaryGo (wpAny_pure q))
  refine wpAny_bind (wpAny_bind (wpAny_specialOf hT hl ?_))
  first
    | exact wpAny_pure (wpAny_bind k)
    | exact wpAny_bind (wpAny_pure (wpAny_bind k))
    | exact wpAny_bind k
theorem ix_at {r : R2} {Q : VK} {value slice : Expr} (q : IxR X r) (I : Inv X pins σ H s) (rx : RelV x v) (ry : RelV y u) (w : r x y H (fun v H' => Hsm X.K H' → Q v H')) (hs : subscripted slice false v u = operate [v, u] (getItem v u)) :
    wpAny (model X.prog X.w) X.A (PyProof.Rows.subscriptTail value slice v u) (EP X pins σ Q) X.xe s := thn (q value slice pins s σ H x y v u _ I rx ry w hs) fun _ _ e => ep_sm e
/-- o[i], any o -/
theorem ir_ix (hu : X.A.units + 200 < cLine) : IxR X (r2 X.K ixE) := by
  intro value slice pins s σ H x y v u Q I rx ry ⟨F, A, h, ex, ey, c, r1, r2, q0⟩ hs
  have sm := Hsm.of I
  have lst : ∀ {xs : List Dt} {i : Int}, ey = .d (.int i) → (∃ a vs, x = .ref a ∧ H a = some (.lst vs) ∧ RDs X.K H (Gd F A h) vs xs) → Ov X.K F A h H (ixL xs i h) Q → wpAny (model X.prog X.w) X.A (PyProof.Rows.subscriptTail value slice v u) (EP X pins σ Q) X.xe s := by
    intro xs i ei ⟨a, vs, ea, ha, k⟩ q
    subst ei
    obtain ⟨d, ed, q⟩ := ixL_some q
    obtain ⟨w, ew, rw'⟩ := atI_rel k ed
    exact ix_at ix_list I rx ry ⟨a, vs, i, w, ea, RD.int_ r2, SqL.of ha, ew, fun _ => Ov.data c sm q rw'⟩ hs
  unfold ixE at q0
  split at q0
  · obtain ⟨a, vs, e, q, _, k⟩ := RD.list_ r1
    exact lst rfl ⟨a, vs, e, q, k⟩ q0
  · rename_i xs i
    obtain ⟨a, vs, e, qt, k⟩ := RD.tuple_ r1
    obtain ⟨d, ed, q⟩ := ixL_some q0
    obtain ⟨w, ew, rw'⟩ := atI_rel k ed
    exact ix_at ix_tup I rx ry ⟨a, vs, i, w, e, RD.int_ r2, qt, ew, fun _ => Ov.data c sm q rw'⟩ hs
  · rename_i n kd
    cases ee : h[n]? with
    | none => rw [ee] at q0; exact q0.elim
    | some cl =>
      rw [ee] at q0
      cases cl with
      | lst xs =>
        cases kd with
        | int i =>
          obtain ⟨a, _, e, vs, q1, k⟩ := r1.cell c ee
          exact lst rfl ⟨a, vs, e, q1, k⟩ q0
        | _ => exact q0.elim
      | dic lk kvs =>
        have q0 : Ov X.K F A h H (match toKey kd with
          | some k => match val kvs k with
            | some d => okO (.d d) h
            | none => none
          | none => none) Q := q0
        cases ek : toKey kd with
        | none => rw [ek] at q0; exact q0.elim
        | some k =>
          rw [ek] at q0
          obtain ⟨a, o, e, g, w⟩ := r1.dget c ee r2 ek
          subst e
          rcases w with ⟨w, d, rfl, e2, rd⟩ | ⟨rfl, e2⟩
          · simp only [e2] at q0
            cases rx
            refine tail_any (dict_typeIs I g) PySem.F.slot_dict_getitem.lookup (d_getItem (by omega) I g ry fun w' s' I' rw' => ⟨w, H, I', rw', Ov.data c sm q0 rd⟩) hs
          · simp only [e2] at q0
            exact q0.elim
      | _ => exact q0.elim
  · exact q0.elim
/-! ### slices -/
theorem cut_rel {K : PySem.W.Frag} {L : Addr → Prop} {vs : List V} {ds : List Dt} (r : RDs K H L vs ds) (lo hi : Option Int) : RDs K H L (cutV vs lo hi) (cutD ds lo hi) := by
  unfold cutV cutD
  rw [r.length]
  exact (r.drop _).take _
theorem cutD_all {vs : List Dt} {lo hi : Option Int} (e : HT.sIx vs.length 0 lo = 0 ∧ HT.sIx vs.length vs.length hi = vs.length) : cutD vs lo hi = vs := by
  unfold cutD
  rw [e.1, e.2, Nat.sub_zero, List.drop_zero, List.take_length]
def rSl (K : PySem.W.Frag) (mk : Bool) : V → Option Int → Option Int → Hp → VK → Prop := fun x lo hi H Q => ∃ F A h ex, Cs K F A h H ∧ RV K F A h H ex x ∧ Ov K F A h H (slE mk ex lo hi h) Q
theorem sr_sl (mk : Bool) : SlR X (rSl X.K mk) := by
  intro pins s σ H x v vl vu lo hi sl Q I rx hsl pl pu ⟨F, A, h, ex, c, r1, q0⟩
  have sm := Hsm.of I
  have at_ : ∀ {r : V → Option Int → Option Int → Hp → VK → Prop}, SlR X r → r x lo hi H (fun v H' => Hsm X.K H' → Q v H') →
      ∃ T id, typeLookup (.type T) "__getitem__" = pure (some (.builtin id)) ∧ s.TypeIs v T ∧ wpAny (model X.prog X.w) X.A (getItem v (.ref sl)) (EP X pins σ Q) X.xe s := fun q w => by
    obtain ⟨T, id, h1, h2, h3⟩ := q pins s σ H x v vl vu lo hi sl _ I rx hsl pl pu w
    exact ⟨T, id, h1, h2, thn h3 fun _ _ e => ep_sm e⟩
  have lst : ∀ {xs : List Dt} {a : Addr} {vs : List V}, x = .ref a → SqL X.K H a vs → RDs X.K H (Gd F A h) vs xs → Ov X.K F A h H (newL mk (cutD xs lo hi) h) Q →
      ∃ T id, typeLookup (.type T) "__getitem__" = pure (some (.builtin id)) ∧ s.TypeIs v T ∧ wpAny (model X.prog X.w) X.A (getItem v (.ref sl)) (EP X pins σ Q) X.xe s := fun {xs a vs} e hl k q =>
    at_ sl_list ⟨a, vs, e, hl, fun p hp sm => Ov.newL c q hp (cut_rel k lo hi) sm⟩
  unfold slE at q0
  split at q0
  · obtain ⟨a, vs, e, q, _, k⟩ := RD.list_ r1
    exact lst e (SqL.of q) k q0
  · obtain ⟨a, vs, e, qt, k⟩ := RD.tuple_ r1
    subst e
    cases rx
    obtain ⟨its, rv, ht, hz⟩ := I.tuple qt
    have l1 := rv.length
    have hlen : its.toArray.size = vs.length := by rw [List.size_toArray, l1]
    refine ⟨"tuple", _, PyProof.Rows.slot_tuple_getitem.lookup, ht.typeIs, ?_⟩
    by_cases hall : HT.sIx vs.length 0 lo = 0 ∧ HT.sIx vs.length vs.length hi = vs.length
    · refine getItem_tuple_whole ht hsl pl pu (by rw [hlen]; exact hall) ⟨.ref a, H, I, rfl, ?_⟩
      rw [k.length] at hall
      rw [cutD_all hall] at q0
      exact Ov.data c sm q0 r1
    · refine HT.getItem_tuple_cut ht hsl pl pu (by rw [hlen]; exact hall) ?_ (by rw [hlen]; exact hz)
      refine ep_newT (tk := s.toks) I c q0 (cut_rel k lo hi) ?_ (Nat.le_trans (cutV_length _ _ _) hz)
      rw [hlen]
      exact (rv.drop _).take _
  · rename_i n
    cases ee : h[n]? with
    | none => rw [ee] at q0; exact q0.elim
    | some cl =>
      rw [ee] at q0
      cases cl with
      | lst xs =>
        obtain ⟨a, _, e, vs, q1, k⟩ := r1.cell c ee
        exact lst e (SqL.of q1) k q0
      | ro xs =>
        obtain ⟨a, _, e, vs, o, q1, k⟩ := r1.cell c ee
        exact lst e (.inl (.inr ⟨o, q1⟩)) k q0
      | _ => exact q0.elim
  · exact q0.elim
end
end EV

/-! EV6: sorting, built-in functions, methods -/
namespace EV
open PySem PySem.Spec PySem.SeqAt L2
open PySem.W (alike alikeAll dataLt dataLe keyToks)
/-! ### order -/
mutual
theorem eqv_eq : ∀ {a b : Dt}, alike a b = true → PyData.eqv a b = true → a = b
  | .none, b, h, e => by cases b <;> simp_all [alike, PyData.eqv]
  | .bool x, b, h, e => by cases b <;> simp_all [alike, PyData.eqv]
  | .int x, b, h, e => by cases b <;> simp_all [alike, PyData.eqv]
  | .str x, b, h, e => by cases b <;> simp_all [alike, PyData.eqv]
  | .list xs, b, h, e => by
    cases b with
    | list ys =>
      simp only [alike] at h
      simp only [PyData.eqv] at e
      rw [eqvs_eq h e]
    | _ => simp [alike] at h
  | .tuple xs, b, h, e => by
    cases b with
    | tuple ys =>
      simp only [alike] at h
      simp only [PyData.eqv] at e
      rw [eqvs_eq h e]
    | _ => simp [alike] at h
  | .dict _, b, h, e => by cases b <;> simp [alike] at h
theorem eqvs_eq : ∀ {a b : List Dt}, alikeAll a b = true → PyData.eqvAll a b = true → a = b
  | [], [], _, _ => rfl
  | [], _ :: _, _, e => by simp [PyData.eqvAll] at e
  | _ :: _, [], _, e => by simp [PyData.eqvAll] at e
  | x :: xs, y :: ys, h, e => by
    rw [alikeAll, Bool.and_eq_true] at h
    rw [PyData.eqvAll, Bool.and_eq_true] at e
    rw [eqv_eq h.1 e.1, eqvs_eq h.2 e.2]
end
theorem lt_antisymm {a b : Dt} (h : alike a b = true) (h1 : dataLt a b = false) (h2 : dataLt b a = false) : a = b := by
  have e : keyToks a = keyToks b := PyProof.Rows.lex_total _ _ h1 h2
  refine eqv_eq h ?_
  cases q : PyData.eqv a b with
  | true => rfl
  | false =>
    have t := (PySem.W.toks_eqv a b h).2 q [.inl 0] [.inl 1]
    rw [e, PySem.W.lex_pre, PyProof.Rows.lex_irrefl] at t
    exact absurd t (by decide)
def leX (a b : Dt) : Bool := !dataLt b a
theorem leX_trans (a b c : Dt) (h1 : leX a b = true) (h2 : leX b c = true) : leX a c = true := by
  unfold leX at *
  cases q : dataLt c a with
  | false => rfl
  | true =>
    rcases PyProof.Rows.lex_negTrans _ (keyToks b) _ q with z | z
    · have : dataLt c b = true := z
      rw [this] at h2; cases h2
    · have : dataLt b a = true := z
      rw [this] at h1; cases h1
theorem leX_total (a b : Dt) : (leX a b || leX b a) = true := by
  unfold leX
  cases q : dataLt b a with
  | false => rfl
  | true =>
    cases q' : dataLt a b with
    | false => rfl
    | true =>
      have := PyProof.Rows.lex_trans _ _ _ q q'
      rw [PyProof.Rows.lex_irrefl] at this
      cases this
theorem insX_perm (x : Dt) : ∀ ys : List Dt, (insX x ys).Perm (x :: ys)
  | [] => .refl _
  | y :: ys => by
    unfold insX
    split
    · exact (List.Perm.cons y (insX_perm x ys)).trans (List.Perm.swap x y ys)
    · exact .refl _
theorem sortX_perm : ∀ xs : List Dt, (sortX xs).Perm xs
  | [] => .refl _
  | x :: xs => (insX_perm x (sortX xs)).trans (List.Perm.cons x (sortX_perm xs))
theorem insX_sorted (x : Dt) : ∀ ys : List Dt, ys.Pairwise (fun a b => leX a b = true) → (insX x ys).Pairwise (fun a b => leX a b = true)
  | [], _ => List.pairwise_singleton _ _
  | y :: ys, h => by
    rw [List.pairwise_cons] at h
    unfold insX
    split
    · rename_i c
      refine List.pairwise_cons.mpr ⟨fun z hz => ?_, insX_sorted x ys h.2⟩
      rcases List.mem_cons.mp ((insX_perm x ys).mem_iff.mp hz) with rfl | hz
      · have := leX_total y z
        unfold leX at this ⊢
        cases q : dataLt z y with
        | false => rfl
        | true =>
          have := PyProof.Rows.lex_trans _ _ _ q c
          rw [PyProof.Rows.lex_irrefl] at this
          cases this
      · exact h.1 z hz
    · rename_i c
      have xy : leX x y = true := by
        unfold leX
        cases q : dataLt y x with
        | false => rfl
        | true => exact absurd q c
      refine List.pairwise_cons.mpr ⟨fun z hz => ?_, List.pairwise_cons.mpr h⟩
      rcases List.mem_cons.mp hz with rfl | hz
      · exact xy
      · exact leX_trans _ _ _ xy (h.1 z hz)
theorem sortX_sorted : ∀ xs : List Dt, (sortX xs).Pairwise (fun a b => leX a b = true)
  | [] => .nil
  | x :: xs => insX_sorted x _ (sortX_sorted xs)
theorem sort_unique {xs ys zs : List Dt} (hal : ∀ a ∈ xs, ∀ b ∈ xs, alike a b = true) (p1 : ys.Perm xs) (p2 : zs.Perm xs) (s1 : ys.Pairwise (fun a b => leX a b = true)) (s2 : zs.Pairwise (fun a b => leX a b = true)) : ys = zs := by
  refine List.Perm.eq_of_pairwise (le := fun a b => leX a b = true) (fun a b ha hb h1 h2 => ?_) s1 s2 (p1.trans p2.symm)
  refine lt_antisymm (hal a (p1.mem_iff.mp ha) b (p2.mem_iff.mp hb)) ?_ ?_
  · unfold leX at h2
    simpa using h2
  · unfold leX at h1
    simpa using h1
theorem dataLe_leX : (dataLe false (fun d : Dt => d)) = leX := rfl
theorem sortX_eq {xs : List Dt} (hal : ∀ a ∈ xs, ∀ b ∈ xs, alike a b = true) : sortX xs = xs.mergeSort leX :=
  sort_unique hal (sortX_perm xs) (List.mergeSort_perm xs _) (sortX_sorted xs) (List.pairwise_mergeSort leX_trans leX_total xs)
theorem mem_depth : ∀ {xs : List Dt} {x : Dt}, x ∈ xs → x.depth ≤ PyData.depthAll xs
  | y :: ys, x, h => by
    rw [PyData.depthAll]
    rcases List.mem_cons.mp h with rfl | h
    · omega
    · have := mem_depth h
      omega
mutual
theorem alike_plain : ∀ {a : Dt}, alike a a = true → a.plain = true
  | .none, _ => by simp [PyData.plain]
  | .bool _, _ => by simp [PyData.plain]
  | .int _, _ => by simp [PyData.plain]
  | .str _, _ => by simp [PyData.plain]
  | .list xs, h => by
    simp only [alike] at h
    simpa [PyData.plain] using alike_plains h
  | .tuple xs, h => by
    simp only [alike] at h
    simpa [PyData.plain] using alike_plains h
  | .dict _, h => by simp [alike] at h
theorem alike_plains : ∀ {a : List Dt}, alikeAll a a = true → PyData.plainAll a = true
  | [], _ => by simp [PyData.plainAll]
  | x :: xs, h => by
    rw [alikeAll, Bool.and_eq_true] at h
    simp [PyData.plainAll, alike_plain h.1, alike_plains h.2]
end
theorem plains_mem : ∀ {xs : List Dt}, (∀ x ∈ xs, x.plain = true) → PyData.plainAll xs = true
  | [], _ => by simp [PyData.plainAll]
  | x :: xs, h => by simp [PyData.plainAll, h x List.mem_cons_self, plains_mem fun y hy => h y (List.mem_cons_of_mem _ hy)]
theorem all_alike {xs : List Dt} (h : (xs.all fun x => xs.all fun y => alike x y) = true) : ∀ a ∈ xs, ∀ b ∈ xs, alike a b = true := fun a ha b hb => by
  rw [List.all_eq_true] at h
  have := h a ha
  rw [List.all_eq_true] at this
  exact this b hb
/-! ### calls of built-ins, by values -/
section
variable {X : Cx} {pins : List (Addr × Obj)} {σ : L2.St} {H : Hp} {s : Shared} {F : Addr → Prop} {A : List Addr} {h : Hs} {x y : V} {v u : Value} {e e' : Ev} {d d' : Dt}
def rA (K : PySem.W.Frag) (f : List Ev → Hs → Option (Ev × Hs)) : List V → Hp → VK → Prop := fun vs H Q => ∃ F A h es, Cs K F A h H ∧ RVs K F A h H es vs ∧ Ov K F A h H (f es h) Q
theorem cr_at {f : Value} {r : List V → Hp → VK → Prop} {Q : VK} {vs : List V} {us : List Value} (q : CallR X f r) (I : Inv X pins σ H s) (rx : Vals vs us) (w : r vs H (fun v H' => Hsm X.K H' → Q v H')) :
    wpAny (model X.prog X.w) X.A (PySem.call f us) (EP X pins σ Q) X.xe s := thn (q pins s σ H vs us _ I rx w) fun _ _ e => ep_sm e
theorem pairs_each {K : PySem.W.Frag} {L : Addr → Prop} : ∀ {vs : List V} {ds : List Dt} {us : List Value}, RDs K H L vs ds → Vals vs us →
    ∃ ps : List (Dt × V), ps.map Prod.fst = ds ∧ ps.map Prod.snd = vs ∧ PySem.W.EachIs (fun v (b : Dt × V) => RelV b.2 v) us ps ∧ ∀ p ∈ ps, RD K H L p.2 p.1
  | _, _, _, .nil, .nil => ⟨[], rfl, rfl, .nil, fun _ h => by cases h⟩
  | _, _, _, .cons (v := v) (d := d) a b, .cons r t => by
    obtain ⟨ps, e1, e2, e3, e4⟩ := pairs_each b t
    exact ⟨(d, v) :: ps, by simp [e1], by simp [e2], .cons r e3, fun p hp => by
      rcases List.mem_cons.mp hp with rfl | hp
      · exact a
      · exact e4 p hp⟩
theorem each_reads (I : Inv X pins σ H s) {L : Addr → Prop} : ∀ {us : List Value} {ps : List (Dt × V)}, PySem.W.EachIs (fun v (b : Dt × V) => RelV b.2 v) us ps → (∀ p ∈ ps, RD X.K H L p.2 p.1 ∧ p.1.plain = true) →
    PySem.W.EachIs (fun v (b : Dt × V) => ∃ as, Reads s.heap v b.1 as) us ps
  | _, _, .nil, _ => .nil
  | _, _, .cons (b := b) r t, h => by
    have hb := h b List.mem_cons_self
    exact .cons (Dp.reads I b.1 b.2 _ (RD.dp hb.1 hb.2) r) (each_reads I t fun p hp => h p (List.mem_cons_of_mem _ hp))
theorem each_vals : ∀ {us : List Value} {ps : List (Dt × V)}, PySem.W.EachIs (fun v (b : Dt × V) => RelV b.2 v) us ps → Vals (ps.map Prod.snd) us
  | _, _, .nil => .nil
  | _, _, .cons r t => .cons r (each_vals t)
theorem pairs_rds {K : PySem.W.Frag} {L : Addr → Prop} : ∀ {ps : List (Dt × V)}, (∀ p ∈ ps, RD K H L p.2 p.1) → RDs K H L (ps.map Prod.snd) (ps.map Prod.fst)
  | [], _ => .nil
  | p :: ps, h => .cons (h p List.mem_cons_self) (pairs_rds fun q hq => h q (List.mem_cons_of_mem _ hq))
/-- sorted(list of data) -/
theorem call_sorts (hu : X.A.units + 200 < cLine) {mk : Bool} {a : Addr} {vs : List V} {ds ys : List Dt} {Q : VK} (I : Inv X pins σ H s) (c : Cs X.K F A h H) (ha : H a = some (.lst vs)) (k : RDs X.K H (Gd F A h) vs ds) (e : sorts ds = some ys)
    (q : Ov X.K F A h H (newL mk ys h) Q) : wpAny (model X.prog X.w) X.A (PySem.call (.builtin "sorted") [.ref a]) (EP X pins σ Q) X.xe s := by
  unfold sorts at e
  split at e
  · rename_i hc
    cases e
    simp only [Bool.and_eq_true, Bool.or_eq_true, decide_eq_true_eq] at hc
    obtain ⟨⟨h1, h2⟩, h3⟩ := hc
    have hal := all_alike h1
    obtain ⟨its, rv, hl, hz⟩ := I.list (SqL.of ha)
    obtain ⟨ps, e1, e2, e3, e4⟩ := pairs_each k rv
    have pl : ∀ p ∈ ps, RD X.K H (Gd F A h) p.2 p.1 ∧ p.1.plain = true := fun p hp => by
      have hm : p.1 ∈ ds := by rw [← e1]; exact List.mem_map_of_mem hp
      exact ⟨e4 p hp, alike_plain (hal _ hm _ hm)⟩
    have hlen : ps.length = vs.length := by rw [← e2, List.length_map]
    refine PySem.W.sorted_data (enc := Prod.fst) hl.isList e3 (each_reads I e3 pl) (by rw [e1]; exact hal) ?_ (by omega) (fun b hb => ?_) fun out ho ee => ?_
    · rw [e1]
      rcases h2 with h2 | h2
      · left
        intro d hd
        have := List.all_eq_true.mp h2 d hd
        cases d with
        | tuple xs =>
          cases xs with
          | nil => cases this
          | cons x r => exact ⟨x, r, rfl⟩
        | _ => cases this
      · right
        intro d hd
        have := List.all_eq_true.mp h2 d hd
        cases d with
        | none => cases this
        | tuple xs => cases this
        | _ => exact ⟨nofun, nofun⟩
    · have hm : b.1 ∈ ds := by rw [← e1]; exact List.mem_map_of_mem hb
      have := mem_depth hm
      omega
    · have eL : (dataLe false (Prod.fst : Dt × V → Dt)) = fun p q => leX p.1 q.1 := rfl
      rw [eL] at ee
      have em : (ps.mergeSort fun p q => leX p.1 q.1).map Prod.fst = sortX ds := by
        rw [List.map_mergeSort (s := leX) (fun _ _ _ _ => rfl), e1, sortX_eq hal]
      have hmem : ∀ p ∈ (ps.mergeSort fun p q => leX p.1 q.1), RD X.K H (Gd F A h) p.2 p.1 := fun p hp => e4 p ((List.mergeSort_perm ps _).mem_iff.mp hp)
      have rds := pairs_rds hmem
      rw [em] at rds
      obtain ⟨ep, he'⟩ := PyProof.Rows.sortedAll_at s.heap its out.toArray
      have hlen2 : ((ps.mergeSort fun p q => leX p.1 q.1).map Prod.snd).length ≤ sizeLine := by
        rw [List.length_map, (List.mergeSort_perm ps _).length_eq]
        omega
      have I' : Inv X pins σ (upd H (s.heap.objs.size + 1) (.lst ((ps.mergeSort fun p q => leX p.1 q.1).map Prod.snd))) { s with heap := PyProof.Rows.sortedAll s.heap its out.toArray } :=
        I.laid (t' := s.toks) (fun _ _ => PyProof.Rows.sortedAll_old) (Nat.le_succ _) ⟨hlen2, out, ep, each_vals ee, he'⟩
      exact ⟨.ref _, _, I', rfl, Ov.newL c q (I.hok.fresh (Nat.le_succ _)) rds (Hsm.of I')⟩
  · cases e
theorem rvs1 {K : PySem.W.Frag} {vs : List V} (r : RVs K F A h H [e] vs) : ∃ w, vs = [w] ∧ RV K F A h H e w := by
  cases r with
  | cons a b => cases b; exact ⟨_, rfl, a⟩
theorem rvs2 {K : PySem.W.Frag} {vs : List V} (r : RVs K F A h H [e, e'] vs) : ∃ w z, vs = [w, z] ∧ RV K F A h H e w ∧ RV K F A h H e' z := by
  cases r with
  | cons a b => cases b with
    | cons c d => cases d; exact ⟨_, _, rfl, a, c⟩
theorem seqOf_some {K : PySem.W.Frag} {f : List Dt → Option (Ev × Hs)} {Q : VK} (q : Ov K F A h H (match seqOf e h with
    | some xs => f xs
    | none => none) Q) : ∃ xs, seqOf e h = some xs ∧ Ov K F A h H (f xs) Q := by
  cases e1 : seqOf e h with
  | none => rw [e1] at q; exact q.elim
  | some xs => rw [e1] at q; exact ⟨xs, rfl, q⟩
theorem seqOf_bind {K : PySem.W.Frag} {α : Type} {g : List Dt → Option α} {f : α → Option (Ev × Hs)} {Q : VK} (q : Ov K F A h H (match (seqOf e h).bind g with
    | some m => f m
    | none => none) Q) : ∃ xs m, seqOf e h = some xs ∧ g xs = some m ∧ Ov K F A h H (f m) Q := by
  cases e1 : seqOf e h with
  | none => rw [e1] at q; exact q.elim
  | some xs =>
    rw [e1] at q
    have q : Ov K F A h H (match g xs with
      | some m => f m
      | none => none) Q := q
    cases e2 : g xs with
    | none => rw [e2] at q; exact q.elim
    | some m => rw [e2] at q; exact ⟨xs, m, rfl, e2, q⟩
theorem lstOf_bind {K : PySem.W.Frag} {α : Type} {g : List Dt → Option α} {f : α → Option (Ev × Hs)} {Q : VK} (q : Ov K F A h H (match (lstOf e h).bind g with
    | some m => f m
    | none => none) Q) : ∃ xs m, lstOf e h = some xs ∧ g xs = some m ∧ Ov K F A h H (f m) Q := by
  cases e1 : lstOf e h with
  | none => rw [e1] at q; exact q.elim
  | some xs =>
    rw [e1] at q
    have q : Ov K F A h H (match g xs with
      | some m => f m
      | none => none) Q := q
    cases e2 : g xs with
    | none => rw [e2] at q; exact q.elim
    | some m => rw [e2] at q; exact ⟨xs, m, rfl, e2, q⟩
theorem intsD_some : ∀ {ds : List Dt} {is : List Int}, intsD ds = some is → ds = is.map .int
  | [], is, e => by cases e; rfl
  | d :: ds, is, e => by
    cases d with
    | int i =>
      simp only [intsD] at e
      cases e2 : intsD ds with
      | none => rw [e2] at e; cases e
      | some js => rw [e2] at e; cases e; rw [intsD_some e2]; rfl
    | _ => cases e
theorem boolsD_some : ∀ {ds : List Dt} {is : List Bool}, boolsD ds = some is → ds = is.map .bool
  | [], is, e => by cases e; rfl
  | d :: ds, is, e => by
    cases d with
    | bool i =>
      simp only [boolsD] at e
      cases e2 : boolsD ds with
      | none => rw [e2] at e; cases e
      | some js => rw [e2] at e; cases e; rw [boolsD_some e2]; rfl
    | _ => cases e
theorem rds_ints {K : PySem.W.Frag} {L : Addr → Prop} : ∀ {is : List Int} {vs : List V}, RDs K H L vs (is.map .int) → vs = is.map V.int
  | [], _, r => by
    have r : RDs K H L _ [] := r
    cases r; rfl
  | i :: is, _, r => by
    have r : RDs K H L _ (.int i :: is.map .int) := r
    cases r with
    | cons a b => rw [RD.int_ a, rds_ints b]; rfl
theorem ints_rds {K : PySem.W.Frag} {L : Addr → Prop} : ∀ (is : List Int), RDs K H L (is.map V.int) (is.map .int)
  | [] => .nil
  | i :: is => .cons (.int i) (ints_rds is)
theorem rds_bools {K : PySem.W.Frag} {L : Addr → Prop} : ∀ {is : List Bool} {vs : List V}, RDs K H L vs (is.map .bool) → vs = is.map V.bl
  | [], _, r => by
    have r : RDs K H L _ [] := r
    cases r; rfl
  | i :: is, _, r => by
    have r : RDs K H L _ (.bool i :: is.map .bool) := r
    cases r with
    | cons a b => rw [RD.bool_ a, rds_bools b]; rfl
theorem RDk.keys {K : PySem.W.Frag} {L : Addr → Prop} : ∀ {kvs : List (Key × Dt)} {vs : List (Key × V)}, RDk K H L vs (kvD kvs) → vs.map (·.1) = kvs.map (·.1)
  | [], _, r => by
    have r : RDk K H L _ [] := r
    cases r
    rfl
  | (k0, d0) :: kvs, vs, r => by
    have r : RDk K H L vs ((keyD k0, d0) :: kvD kvs) := r
    generalize hk : keyD k0 = kd at r
    cases r with
    | cons a b =>
      have e := keyD_inj hk
      subst e
      rw [List.map_cons, List.map_cons, RDk.keys b]
theorem map_inj : ∀ {a b : List Key}, a.map keyD = b.map keyD → a = b
  | [], [], _ => rfl
  | [], _ :: _, e => by cases e
  | _ :: _, [], e => by cases e
  | x :: xs, y :: ys, e => by
    rw [List.map_cons, List.map_cons] at e
    injection e with e1 e2
    rw [keyD_inj e1, map_inj e2]
/-- len -/
theorem cr_len (mk : Bool) : CallR X (.builtin "len") (rA X.K (bf mk .len)) := by
  intro pins s σ H vs us Q I ru ⟨F, A, h, es, c, r, q⟩
  have sm := Hsm.of I
  match es, r, q with
  | [], _, q => exact q.elim
  | _ :: _ :: _, _, q => exact q.elim
  | [e], r, q =>
    obtain ⟨w, rfl, r1⟩ := rvs1 r
    clear r
    have seq : ∀ {xs : List Dt}, (∃ a vs, w = .ref a ∧ RDs X.K H (Gd F A h) vs xs ∧ (H a = some (.lst vs) ∨ SqT X.K H a vs)) → Ov X.K F A h H (some (.d (.int xs.length), h)) Q → wpAny (model X.prog X.w) X.A (PySem.call (.builtin "len") us) (EP X pins σ Q) X.xe s := by
      intro xs ⟨a, vs, e1, k, z⟩ q
      refine cr_at call_len_seq I ru ⟨a, vs, by rw [e1], ?_, fun _ => by rw [k.length]; exact Ov.data c sm q (.int _)⟩
      rcases z with z | z
      · exact .inl (SqL.of z)
      · exact .inr z
    simp only [bf] at q
    split at q
    · rename_i z
      split at q
      · rename_i hz
        have := RD.str_ r1
        subst this
        exact cr_at call_len_str I ru ⟨z, rfl, hz, fun _ => Ov.data c sm q (.int _)⟩
      · exact q.elim
    · rename_i n
      split at q
      · rename_i kvs hn
        obtain ⟨a, _, rfl, vs, q1, k⟩ := r1.cell c hn
        obtain ⟨u, rfl, rx⟩ := vals1 ru
        cases rx
        refine d_len I (.inl q1) fun t s' I' => ⟨.int vs.length, H, I', ⟨t, rfl⟩, ?_⟩
        rw [k.length, kvD_length]
        exact Ov.data c sm q (.int _)
      · rename_i xs hn
        obtain ⟨a, _, e1, vs, q1, k⟩ := r1.cell c hn
        exact seq ⟨a, vs, e1, k, .inl q1⟩ q
      · exact q.elim
    · obtain ⟨xs, e1, q⟩ := seqOf_some q
      exact seq (r1.seq_ c e1) q
theorem cr_tuple (mk : Bool) : CallR X (.type "tuple") (rA X.K (bf mk .tuple)) := by
  intro pins s σ H vs us Q I ru ⟨F, A, h, es, c, r, q⟩
  have sm := Hsm.of I
  match es, r, q with
  | [], _, q => exact q.elim
  | _ :: _ :: _, _, q => exact q.elim
  | [e], r, q =>
    obtain ⟨w, rfl, r1⟩ := rvs1 r
    clear r
    obtain ⟨xs, e1, q⟩ := seqOf_some q
    have lst : ∀ {a : Addr} {vs : List V}, w = .ref a → H a = some (.lst vs) → RDs X.K H (Gd F A h) vs xs → wpAny (model X.prog X.w) X.A (PySem.call (.type "tuple") us) (EP X pins σ Q) X.xe s := fun {a vs} e2 ha k => by
      subst e2
      rw [Vals.ref1 ru]
      obtain ⟨its, rv, pl, hz⟩ := I.list (SqL.of ha)
      have l1 := rv.length
      refine call_tuple_list pl.isList (fun h' kp => ?_) (by rw [List.size_toArray]; omega)
      have I1 : Inv X pins σ H { s with heap := h' } := I.kept (t' := s.toks) kp
      exact ep_newT (s := { s with heap := h' }) (tk := s.toks) I1 c q k rv hz
    unfold seqOf at e1
    split at e1
    · cases e1
      obtain ⟨a, vs, e2, q2, _, k⟩ := RD.list_ r1
      exact lst e2 q2 k
    · cases e1
      obtain ⟨a, vs, e2, qt, k⟩ := RD.tuple_ r1
      subst e2
      exact cr_at call_tuple_of I ru ⟨a, vs, rfl, .inr ⟨qt, fun _ => Ov.data c sm q r1⟩⟩
    · split at e1
      · rename_i ys hy
        cases e1
        obtain ⟨a, _, e2, vs, q1, k⟩ := r1.cell c hy
        exact lst e2 q1 k
      · cases e1
    · cases e1
theorem cr_list (mk : Bool) : CallR X (.type "list") (rA X.K (bf mk .list)) := by
  intro pins s σ H vs us Q I ru ⟨F, A, h, es, c, r, q⟩
  match es, r, q with
  | [], _, q => exact q.elim
  | _ :: _ :: _, _, q => exact q.elim
  | [e], r, q =>
    obtain ⟨w, rfl, r1⟩ := rvs1 r
    clear r
    obtain ⟨xs, e1, q⟩ := seqOf_some q
    obtain ⟨a, vs, e2, k, z⟩ := r1.seq_ c e1
    refine cr_at call_list_of I ru ⟨a, vs, by rw [e2], ?_, fun p hp sm => Ov.newL c q hp k sm⟩
    rcases z with z | z
    · exact .inl (SqL.of z)
    · exact .inr z
theorem cr_sum (mk : Bool) (hc : X.calm = true) : CallR X (.builtin "sum") (rA X.K (bf mk .sum)) := by
  intro pins s σ H vs us Q I ru ⟨F, A, h, es, c, r, q⟩
  have sm := Hsm.of I
  match es, r, q with
  | [], _, q => exact q.elim
  | _ :: _ :: _, _, q => exact q.elim
  | [e], r, q =>
    obtain ⟨w, rfl, r1⟩ := rvs1 r
    clear r
    simp only [bf] at q
    cases e0 : (lstOf e h).bind intsD with
    | none => rw [e0] at q; exact q.elim
    | some is =>
      rw [e0] at q
      obtain ⟨xs, e1, e2⟩ := Option.bind_eq_some_iff.mp e0
      obtain ⟨a, vs, e3, z, k⟩ := r1.list_ c (lstOf_list e1)
      rw [intsD_some e2] at k
      have := rds_ints k
      subst this
      exact cr_at (L2.cr_sum hc) I ru ⟨a, is, by rw [e3], SqL.of z, fun _ => Ov.data c sm q (.int _)⟩
theorem cr_all (mk : Bool) (hc : X.calm = true) : CallR X (.builtin "all") (rA X.K (bf mk .all)) := by
  intro pins s σ H vs us Q I ru ⟨F, A, h, es, c, r, q⟩
  have sm := Hsm.of I
  match es, r, q with
  | [], _, q => exact q.elim
  | _ :: _ :: _, _, q => exact q.elim
  | [e], r, q =>
    obtain ⟨w, rfl, r1⟩ := rvs1 r
    clear r
    simp only [bf] at q
    cases e0 : (lstOf e h).bind boolsD with
    | none => rw [e0] at q; exact q.elim
    | some is =>
      rw [e0] at q
      obtain ⟨xs, e1, e2⟩ := Option.bind_eq_some_iff.mp e0
      obtain ⟨a, vs, e3, z, k⟩ := r1.list_ c (lstOf_list e1)
      rw [boolsD_some e2] at k
      have := rds_bools k
      subst this
      exact cr_at (L2.cr_all hc) I ru ⟨a, is, by rw [e3], SqL.of z, fun _ => Ov.data c sm q (.bl _)⟩
theorem cr_any (mk : Bool) (hc : X.calm = true) : CallR X (.builtin "any") (rA X.K (bf mk .any)) := by
  intro pins s σ H vs us Q I ru ⟨F, A, h, es, c, r, q⟩
  have sm := Hsm.of I
  match es, r, q with
  | [], _, q => exact q.elim
  | _ :: _ :: _, _, q => exact q.elim
  | [e], r, q =>
    obtain ⟨w, rfl, r1⟩ := rvs1 r
    clear r
    simp only [bf] at q
    cases e0 : (lstOf e h).bind boolsD with
    | none => rw [e0] at q; exact q.elim
    | some is =>
      rw [e0] at q
      obtain ⟨xs, e1, e2⟩ := Option.bind_eq_some_iff.mp e0
      obtain ⟨a, vs, e3, z, k⟩ := r1.list_ c (lstOf_list e1)
      rw [boolsD_some e2] at k
      have := rds_bools k
      subst this
      exact cr_at (L2.cr_any hc) I ru ⟨a, is, by rw [e3], SqL.of z, fun _ => Ov.data c sm q (.bl _)⟩
theorem cr_abs (mk : Bool) : CallR X (.builtin "abs") (rA X.K (bf mk .abs)) := by
  intro pins s σ H vs us Q I ru ⟨F, A, h, es, c, r, q⟩
  have sm := Hsm.of I
  simp only [bf] at q
  split at q <;> first | exact q.elim | skip
  all_goals try (rename_i hh; cases hh)
  obtain ⟨w, rfl, r1⟩ := rvs1 r
  exact cr_at call_abs I ru ⟨_, by rw [RD.int_ r1], fun _ => Ov.data c sm q (.int _)⟩
theorem cr_min2 (mk : Bool) (hc : X.calm = true) : CallR X (.builtin "min") (rA X.K (bf mk .min2)) := by
  intro pins s σ H vs us Q I ru ⟨F, A, h, es, c, r, q⟩
  have sm := Hsm.of I
  simp only [bf] at q
  split at q <;> first | exact q.elim | skip
  all_goals try (rename_i hh; cases hh)
  obtain ⟨w, z, rfl, r1, r2⟩ := rvs2 r
  exact cr_at (call_min2 hc) I ru ⟨_, _, by rw [RD.int_ r1, RD.int_ r2], fun _ => Ov.data c sm q (.int _)⟩
theorem cr_max2 (mk : Bool) (hc : X.calm = true) : CallR X (.builtin "max") (rA X.K (bf mk .max2)) := by
  intro pins s σ H vs us Q I ru ⟨F, A, h, es, c, r, q⟩
  have sm := Hsm.of I
  simp only [bf] at q
  split at q <;> first | exact q.elim | skip
  all_goals try (rename_i hh; cases hh)
  obtain ⟨w, z, rfl, r1, r2⟩ := rvs2 r
  exact cr_at (call_max2 hc) I ru ⟨_, _, by rw [RD.int_ r1, RD.int_ r2], fun _ => Ov.data c sm q (.int _)⟩
theorem cr_sorted (mk : Bool) (hc : X.calm = true) (hu : X.A.units + 200 < cLine) : CallR X (.builtin "sorted") (rA X.K (bf mk .sorted)) := by
  intro pins s σ H vs us Q I ru ⟨F, A, h, es, c, r, q⟩
  match es, r, q with
  | [], _, q => exact q.elim
  | _ :: _ :: _, _, q => exact q.elim
  | [e], r, q =>
    obtain ⟨w, rfl, r1⟩ := rvs1 r
    clear r
    have lst : ∀ {xs : List Dt} {a : Addr} {vs : List V}, w = .ref a → H a = some (.lst vs) → RDs X.K H (Gd F A h) vs xs → Ov X.K F A h H (match sorts xs with
        | some ys => newL mk ys h
        | none => none) Q → wpAny (model X.prog X.w) X.A (PySem.call (.builtin "sorted") us) (EP X pins σ Q) X.xe s := by
      intro xs a vs e1 ha k q
      subst e1
      rw [Vals.ref1 ru]
      cases e2 : sorts xs with
      | none => rw [e2] at q; exact q.elim
      | some ys => rw [e2] at q; exact call_sorts hu I c ha k e2 q
    simp only [bf] at q
    split at q
    · rename_i n
      split at q
      · rename_i lk kvs hn
        cases e2 : intsD (kvs.map fun p => keyD p.1) with
        | none => rw [e2] at q; exact q.elim
        | some is =>
          rw [e2] at q
          have q : Ov X.K F A h H (if is.length < 64 then newL mk (sortX (is.map .int)) h else none) Q := q
          split at q
          · rename_i h64
            obtain ⟨a, vs, e1, rd, k⟩ : ∃ a vs, w = .ref a ∧ Rd H a (.dK vs) ∧ RDk X.K H (Gd F A h) vs (kvD kvs) := by
              obtain ⟨a, _, e1, q1⟩ := r1.cell c hn
              cases lk with
              | false => obtain ⟨vs, q1, k⟩ := q1; exact ⟨a, vs, e1, .inl q1, k⟩
              | true => obtain ⟨vs, o, q1, k⟩ := q1; exact ⟨a, vs, e1, .inr ⟨o, q1⟩, k⟩
            have ek : vs.map (·.1) = is.map Sum.inl := by
              rw [k.keys]
              have e3 : (kvs.map (·.1)).map keyD = (is.map Sum.inl).map keyD := by
                rw [List.map_map, List.map_map]
                exact intsD_some e2
              exact map_inj e3
            refine cr_at (call_sortedDI hc) I ru ⟨a, vs, is, by rw [e1], rd, ek, h64, fun ys p hp hs hn sm => ?_⟩
            have hal : ∀ x ∈ is.map PyData.int, ∀ y ∈ is.map PyData.int, alike x y = true := fun x hx y hy => by
              obtain ⟨i, _, rfl⟩ := List.mem_map.mp hx
              obtain ⟨j, _, rfl⟩ := List.mem_map.mp hy
              simp [alike]
            have es : sortX (is.map .int) = ys.map .int := by
              refine sort_unique hal (sortX_perm _) (hp.map _) (sortX_sorted _) ?_
              rw [List.pairwise_map]
              refine hs.imp fun {i j} hij => ?_
              show (!dataLt (.int j) (.int i)) = true
              rw [PySem.W.dataLt_int]
              simpa using hij
            rw [es] at q
            exact Ov.newL c q hn (ints_rds ys) sm
          · exact q.elim
      · rename_i xs hn
        obtain ⟨a, _, e1, vs, q1, k⟩ := r1.cell c hn
        exact lst e1 q1 k q
      · exact q.elim
    · obtain ⟨a, vs, e1, q1, _, k⟩ := RD.list_ r1
      exact lst e1 q1 k q
    · exact q.elim
mutual
theorem plain_noDict : ∀ {d : Dt}, d.plain = true → d.hasDict = false
  | .none, _ => by simp [PyData.hasDict]
  | .bool _, _ => by simp [PyData.hasDict]
  | .int _, _ => by simp [PyData.hasDict]
  | .str _, _ => by simp [PyData.hasDict]
  | .list xs, h => by
    simp only [PyData.plain] at h
    simpa [PyData.hasDict] using plain_noDicts h
  | .tuple xs, h => by
    simp only [PyData.plain] at h
    simpa [PyData.hasDict] using plain_noDicts h
  | .dict _, h => by simp [PyData.plain] at h
theorem plain_noDicts : ∀ {ds : List Dt}, PyData.plainAll ds = true → PyData.hasDictAll ds = false
  | [], _ => by simp [PyData.hasDictAll]
  | x :: xs, h => by
    rw [PyData.plainAll, Bool.and_eq_true] at h
    simp [PyData.hasDictAll, plain_noDict h.1, plain_noDicts h.2]
end
theorem cr_repr (mk : Bool) (hg : X.A.guards = some []) (hu : X.A.units + 200 < cLine) : CallR X (.builtin "repr") (rA X.K (bf mk .repr)) := by
  intro pins s σ H vs us Q I ru ⟨F, A, h, es, c, r, q⟩
  match es, r, q with
  | [], _, q => exact q.elim
  | _ :: _ :: _, _, q => exact q.elim
  | [e], r, q =>
    obtain ⟨w, rfl, r1⟩ := rvs1 r
    clear r
    obtain ⟨u, rfl, rx⟩ := vals1 ru
    simp only [bf] at q
    cases e1 : peek e h with
    | none => rw [e1] at q; exact q.elim
    | some d =>
      rw [e1] at q
      have q : Ov X.K F A h H (if shownOk d then okO (.d (.str d.shown)) h else none) Q := q
      split at q
      · rename_i hc
        unfold shownOk at hc
        simp only [Bool.and_eq_true, decide_eq_true_eq] at hc
        obtain ⟨⟨⟨h1, h2⟩, h3⟩, h4⟩ := hc
        have big : (∃ a, u = .ref a) → wpAny (model X.prog X.w) X.A (PySem.call (.builtin "repr") [u]) (EP X pins σ Q) X.xe s := by
          rintro ⟨a, rfl⟩
          obtain ⟨as, rd⟩ := r1.reads I c rx e1 h1
          refine repr_of_reads' rd h2 (fun z => by rw [plain_noDict h1] at z; cases z) hg (by omega) (fun _ _ z => z) (fun h' u tk kp => ?_) h4
          have I' : Inv X pins σ H { s with heap := h', toks := tk } := I.kept kp
          exact ⟨.str d.shown, H, I', ⟨u, rfl⟩, Ov.data c (Hsm.of I) q (.str _)⟩
        cases d with
        | none =>
          have := r1.none_ e1
          subst this
          cases rx
          exact P.repr_of_none ⟨.str _, H, I.tok _, ⟨_, rfl⟩, Ov.data c (Hsm.of I) q (.str _)⟩
        | bool b =>
          have := r1.bool_ e1
          subst this
          cases rx
          exact P.repr_of_bool ⟨.str _, H, I.tok _, ⟨_, rfl⟩, Ov.data c (Hsm.of I) q (.str _)⟩
        | int i =>
          have := r1.int_ e1
          subst this
          obtain ⟨t, rfl⟩ := rx
          exact P.repr_of_int (by simpa [PyData.showable] using h2) ⟨.str _, H, I.tok _, ⟨_, rfl⟩, Ov.data c (Hsm.of I) q (.str _)⟩
        | str z =>
          have := r1.str_ e1
          subst this
          obtain ⟨t, rfl⟩ := rx
          refine P.repr_of_str ⟨.str _, H, I.tok _, ⟨_, rfl⟩, Ov.data c (Hsm.of I) q ?_⟩ (by simpa [PyData.shown] using h4)
          rw [PyData.shown]
          exact .str _
        | list xs =>
          obtain ⟨a, _, rfl, _⟩ := r1.list_ c e1
          exact big ⟨a, rx⟩
        | tuple xs =>
          obtain ⟨a, _, rfl, _⟩ := r1.tuple_ e1
          exact big ⟨a, rx⟩
        | dict _ => simp [PyData.plain] at h1
      · exact q.elim
/-- a part of what was handed in, given back -/
theorem keep_item {K : PySem.W.Frag} {xs : List Dt} {vs : List V} {L : Addr → Prop} {i : Nat} {d : Dt} (k : RDs K H L vs xs) (e : xs[i]? = some d) : ∃ w, vs[i]? = some w ∧ RD K H L w d := k.get e
theorem isNone_ne {d : Dt} (h : (!isNone d) = true) : d ≠ .none := by
  rintro rfl
  cases h
theorem reads_uniq (I : Inv X pins σ H s) {L : Addr → Prop} {w : V} {u : Value} {d1 d2 : Dt} {bs : List Addr} {h' : Heap} (r : RD X.K H L w d1) (rw' : RelV w u) (h1 : d1.plain = true) (hk : ∀ b o, s.heap.get? b = some o → h'.get? b = some o)
    (rd : Reads h' u d2 bs) (ha : alike d1 d2 = true) : d1 = d2 := by
  obtain ⟨cs, r1⟩ := Dp.reads I d1 w u (RD.dp r h1) rw'
  exact PySem.W.alike_unique _ _ _ _ _ ha (PySem.W.reads_keeps hk r1) rd
theorem minD_mem : ∀ (xs : List Dt) (x : Dt), PySem.W.minD x xs ∈ x :: xs
  | [], x => List.mem_cons_self
  | y :: ys, x => by
    show PySem.W.minD (if dataLt y x then y else x) ys ∈ _
    have := minD_mem ys (if dataLt y x then y else x)
    rcases List.mem_cons.mp this with e | e
    · rw [e]
      split
      · exact List.mem_cons_of_mem _ List.mem_cons_self
      · exact List.mem_cons_self
    · exact List.mem_cons_of_mem _ (List.mem_cons_of_mem _ e)
theorem maxD_mem : ∀ (xs : List Dt) (x : Dt), PySem.W.maxD x xs ∈ x :: xs
  | [], x => List.mem_cons_self
  | y :: ys, x => by
    show PySem.W.maxD (if dataLt x y then y else x) ys ∈ _
    have := maxD_mem ys (if dataLt x y then y else x)
    rcases List.mem_cons.mp this with e | e
    · rw [e]
      split
      · exact List.mem_cons_of_mem _ List.mem_cons_self
      · exact List.mem_cons_self
    · exact List.mem_cons_of_mem _ (List.mem_cons_of_mem _ e)
theorem cr_min (mk : Bool) (hc : X.calm = true) (hu : X.A.units + 200 < cLine) : CallR X (.builtin "min") (rA X.K (bf mk .min)) := by
  intro pins s σ H vs us Q I ru ⟨F, A, h, es, c, r, q⟩
  match es, r, q with
  | [], _, q => exact q.elim
  | _ :: _ :: _, _, q => exact q.elim
  | [e], r, q =>
    obtain ⟨w, rfl, r1⟩ := rvs1 r
    clear r
    simp only [bf] at q
    cases e0 : (seqOf e h).bind minX with
    | none => rw [e0] at q; exact q.elim
    | some m =>
      rw [e0] at q
      obtain ⟨xs, e1, e2⟩ := Option.bind_eq_some_iff.mp e0
      obtain ⟨a, vs, e3, k, z⟩ := r1.seq_ c e1
      subst e3
      rw [Vals.ref1 ru]
      cases xs with
      | nil => cases e2
      | cons x xs =>
        simp only [minX] at e2
        split at e2
        · rename_i hcond
          cases e2
          simp only [Bool.and_eq_true, decide_eq_true_eq] at hcond
          obtain ⟨⟨h1, h2⟩, h3⟩ := hcond
          have hal := all_alike h1
          have hn : ∀ y ∈ x :: xs, y ≠ .none := fun y hy => isNone_ne (List.all_eq_true.mp h2 y hy)
          have pl : PyData.plainAll (x :: xs) = true := plains_mem fun y hy => alike_plain (hal y hy y hy)
          have fin : ∀ {its : List Value}, Vals vs its → ∀ (i : Nat) (v : Value) (h' : Heap) (tk : Nat) (bs : List Addr), its.toArray[i]? = some v → Reads h' v (PySem.W.minD x xs) bs → (∀ b o, s.heap.get? b = some o → h'.get? b = some o) →
              EP X pins σ Q v { s with heap := h', toks := tk } := by
            intro its rv i v h' tk bs hi rd hk
            have hil : i < its.length := by
              have := (Array.getElem?_eq_some_iff.mp hi).1
              simpa using this
            have hix : i < (x :: xs).length := by rw [← k.length, rv.length]; exact hil
            obtain ⟨wv, ew, rdw⟩ := k.get (List.getElem?_eq_getElem hix)
            obtain ⟨u, eu, ru'⟩ := rv.get ew
            have euv : u = v := by
              have e5 : its[i]? = some v := by simpa using hi
              rw [eu] at e5
              exact Option.some.inj e5
            subst euv
            have hm : (x :: xs)[i] ∈ x :: xs := List.getElem_mem hix
            have eq := reads_uniq I rdw ru' (alike_plain (hal _ hm _ hm)) hk rd (hal _ hm _ (minD_mem xs x))
            rw [eq] at rdw
            have I' : Inv X pins σ H { s with heap := h', toks := tk } := I.kept hk
            exact ⟨wv, H, I', ru', Ov.data c (Hsm.of I) q rdw⟩
          rcases z with z | z
          · obtain ⟨its, rv, hl, hz⟩ := I.list (SqL.of z)
            obtain ⟨as, rds⟩ := Dp.readsAll I (x :: xs) vs its (RDs.dp k pl) rv
            exact PySem.W.min_list_data (I.ok.hd hc) hl.isList (by simpa using rds) ⟨hal, hn⟩ (by omega) fun i v h' tk bs hi rd hk => fin rv i v h' tk bs hi rd hk
          · obtain ⟨its, rv, hl, hz⟩ := I.tuple z
            obtain ⟨as, rds⟩ := Dp.readsAll I (x :: xs) vs its (RDs.dp k pl) rv
            exact PySem.W.min_tuple_data (I.ok.hd hc) (show s.heap.IsTuple a its.toArray from hl) (by simpa using rds) ⟨hal, hn⟩ (by omega) fun i v h' tk bs hi rd hk => fin rv i v h' tk bs hi rd hk
        · cases e2
theorem cr_max (mk : Bool) (hc : X.calm = true) (hu : X.A.units + 200 < cLine) : CallR X (.builtin "max") (rA X.K (bf mk .max)) := by
  intro pins s σ H vs us Q I ru ⟨F, A, h, es, c, r, q⟩
  match es, r, q with
  | [], _, q => exact q.elim
  | _ :: _ :: _, _, q => exact q.elim
  | [e], r, q =>
    obtain ⟨w, rfl, r1⟩ := rvs1 r
    clear r
    simp only [bf] at q
    cases e0 : (seqOf e h).bind maxX with
    | none => rw [e0] at q; exact q.elim
    | some m =>
      rw [e0] at q
      obtain ⟨xs, e1, e2⟩ := Option.bind_eq_some_iff.mp e0
      obtain ⟨a, vs, e3, k, z⟩ := r1.seq_ c e1
      subst e3
      rw [Vals.ref1 ru]
      cases xs with
      | nil => cases e2
      | cons x xs =>
        simp only [maxX] at e2
        split at e2
        · rename_i hcond
          cases e2
          simp only [Bool.and_eq_true, decide_eq_true_eq] at hcond
          obtain ⟨⟨h1, h2⟩, h3⟩ := hcond
          have hal := all_alike h1
          have hn : ∀ y ∈ x :: xs, y ≠ .none := fun y hy => isNone_ne (List.all_eq_true.mp h2 y hy)
          have pl : PyData.plainAll (x :: xs) = true := plains_mem fun y hy => alike_plain (hal y hy y hy)
          have fin : ∀ {its : List Value}, Vals vs its → ∀ (i : Nat) (v : Value) (h' : Heap) (tk : Nat) (bs : List Addr), its.toArray[i]? = some v → Reads h' v (PySem.W.maxD x xs) bs → (∀ b o, s.heap.get? b = some o → h'.get? b = some o) →
              EP X pins σ Q v { s with heap := h', toks := tk } := by
            intro its rv i v h' tk bs hi rd hk
            have hil : i < its.length := by
              have := (Array.getElem?_eq_some_iff.mp hi).1
              simpa using this
            have hix : i < (x :: xs).length := by rw [← k.length, rv.length]; exact hil
            obtain ⟨wv, ew, rdw⟩ := k.get (List.getElem?_eq_getElem hix)
            obtain ⟨u, eu, ru'⟩ := rv.get ew
            have euv : u = v := by
              have e5 : its[i]? = some v := by simpa using hi
              rw [eu] at e5
              exact Option.some.inj e5
            subst euv
            have hm : (x :: xs)[i] ∈ x :: xs := List.getElem_mem hix
            have eq := reads_uniq I rdw ru' (alike_plain (hal _ hm _ hm)) hk rd (hal _ hm _ (maxD_mem xs x))
            rw [eq] at rdw
            have I' : Inv X pins σ H { s with heap := h', toks := tk } := I.kept hk
            exact ⟨wv, H, I', ru', Ov.data c (Hsm.of I) q rdw⟩
          rcases z with z | z
          · obtain ⟨its, rv, hl, hz⟩ := I.list (SqL.of z)
            obtain ⟨as, rds⟩ := Dp.readsAll I (x :: xs) vs its (RDs.dp k pl) rv
            exact PySem.W.max_list_data (I.ok.hd hc) hl.isList (by simpa using rds) ⟨hal, hn⟩ (by omega) fun i v h' tk bs hi rd hk => fin rv i v h' tk bs hi rd hk
          · obtain ⟨its, rv, hl, hz⟩ := I.tuple z
            obtain ⟨as, rds⟩ := Dp.readsAll I (x :: xs) vs its (RDs.dp k pl) rv
            exact PySem.W.max_tuple_data (I.ok.hd hc) (show s.heap.IsTuple a its.toArray from hl) (by simpa using rds) ⟨hal, hn⟩ (by omega) fun i v h' tk bs hi rd hk => fin rv i v h' tk bs hi rd hk
        · cases e2
end
end EV

/-! EV7: methods -/
namespace EV
open PySem PySem.Spec PySem.SeqAt L2
section
variable {K : PySem.W.Frag} {F : Addr → Prop} {A : List Addr} {h h' : Hs} {H : Hp} {e : Ev} {x : V} {d : Dt}
theorem Stay.write {n : Nat} {a : Addr} {c₀ cl : Cell} {o : HO} (hA : A[n]? = some a) (hh : h[n]? = some c₀) (hd : c₀ ≠ Cell.dead) : Stay H (Gd F A h) (upd H a o) (Gd F A (h.set n cl)) := fun b u e q => by
  have hd' : ∀ c, h[n]? = some c → c ≠ Cell.dead := fun c e => by rw [hh] at e; cases e; exact hd
  have lv : Lv A h a := ⟨n, c₀, hA, hh, hd⟩
  refine ⟨?_, fun z => ?_⟩
  · rw [upd_ne (show b ≠ a from fun z => q (.inr (by rw [z]; exact lv)))]; exact e
  · rcases z with z | z
    · exact q (.inl z)
    · exact q (.inr (z.of_set hd'))
theorem wr_list {n : Nat} {a : Addr} {xs xs' : List Dt} {vs' : List V} (c : Cs K F A h H) (hA : A[n]? = some a) (hh : h[n]? = some (.lst xs)) (k : RDs K H (Gd F A h) vs' xs') : Po K F A h H A (h.set n (.lst xs')) (upd H a (.lst vs')) :=
  Po.write c hA hh nofun ⟨vs', upd_same, RDs.mono (Stay.write hA hh nofun) k⟩
theorem wr_dict {n : Nat} {a : Addr} {kvs kvs' : List (Key × Dt)} {vs' : List (Key × V)} (c : Cs K F A h H) (hA : A[n]? = some a) (hh : h[n]? = some (.dic false kvs)) (k : RDk K H (Gd F A h) vs' (kvD kvs')) : Po K F A h H A (h.set n (.dic false kvs')) (upd H a (.dK vs')) :=
  Po.write c hA hh nofun ⟨vs', upd_same, RDk.mono (Stay.write hA hh nofun) k⟩
/-- a cell is told as data from here on -/
theorem frz_ok (c : Cs K F A h H) (r : RV K F A h H e x) (q : frz e h = some (d, h')) : Po K F A h H A h' H ∧ RD K H (Gd F A h') x d := by
  cases e with
  | d y => cases q; exact ⟨Po.refl c, r⟩
  | r n =>
    simp only [frz] at q
    split at q
    · rename_i xs hh
      cases q
      obtain ⟨a, hA, rfl, vs, q1, k⟩ := r.cell c hh
      have po : Po K F A h H A (h.set n .dead) H := Po.turn c hA hh nofun (by show H a ≠ none; rw [q1]; exact nofun)
      exact ⟨po, .lst q1 (c.off hA hh nofun) (RDs.mono (po.stay c) k)⟩
    · rename_i kvs hh
      cases q
      obtain ⟨a, hA, rfl, vs, q1, k⟩ := r.cell c hh
      have po : Po K F A h H A (h.set n .dead) H := Po.turn c hA hh nofun (by show H a ≠ none; rw [q1]; exact nofun)
      exact ⟨po, .dic q1 (c.off hA hh nofun) (RDk.mono (po.stay c) k)⟩
    · cases q
theorem frzs_ok : ∀ {es : List Ev} {vs : List V} {ds : List Dt} {h h' : Hs}, Cs K F A h H → RVs K F A h H es vs → frzs es h = some (ds, h') → Po K F A h H A h' H ∧ RDs K H (Gd F A h') vs ds
  | [], _, _, h, _, c, .nil, q => by cases q; exact ⟨Po.refl c, .nil⟩
  | e :: es, _, ds, h, h', c, .cons a b, q => by
    simp only [frzs] at q
    cases e1 : frz e h with
    | none => rw [e1] at q; cases q
    | some p =>
      obtain ⟨d, h1⟩ := p
      rw [e1] at q
      have q : ((frzs es h1).bind fun p => okO (d :: p.1) p.2) = some (ds, h') := q
      cases e2 : frzs es h1 with
      | none => rw [e2] at q; cases q
      | some p =>
        obtain ⟨ds2, h2⟩ := p
        rw [e2] at q
        cases q
        obtain ⟨p1, r1⟩ := frz_ok c a e1
        obtain ⟨p2, r2⟩ := frzs_ok p1.cs (RVs.mono c p1 b) e2
        exact ⟨p1.trans p2, .cons (RD.mono (p2.stay p1.cs) r1) r2⟩
end
/-! ### the rule of a method, its type seen when it is asked -/
def IsTy (K : PySem.W.Frag) (T : String) (x : V) (H : Hp) : Prop := ∃ a, x = .ref a ∧
  ((T = "list" ∧ ∃ vs, H a = some (.lst vs)) ∨ (T = "dict" ∧ ∃ vs, Rd H a (.dK vs)) ∨ (T = "tuple" ∧ ((∃ (o : Obj) (vs : List V), H a = some (.frz o (.tup vs)) ∧ o.dict = none) ∨ ∃ vs, KT K a vs)))
section
variable {X : Cx} {pins : List (Addr × Obj)} {σ : L2.St} {H : Hp} {s : Shared} {x : V} {v : Value} {T : String}
theorem IsTy.of (I : Inv X pins σ H s) (r : RelV x v) (ty : IsTy X.K T x H) : s.TypeIs v T ∧ ∀ a, v = .ref a → ∃ ob, s.heap.get? a = some ob ∧ ob.dict = none := by
  obtain ⟨a, rfl, ty⟩ := ty
  cases r
  rcases ty with ⟨rfl, vs, q⟩ | ⟨rfl, vs, q⟩ | ⟨rfl, q⟩
  · obtain ⟨its, _, pl, _⟩ := I.list (SqL.of q)
    refine ⟨pl.isList.typeIs, fun b e => ?_⟩
    cases e
    obtain ⟨o, n, e, _, hd, _⟩ := pl
    exact ⟨o, e, hd⟩
  · obtain ⟨_, _, w, _, ob, _, _, h1, h2, _⟩ := dk_rd I.hok q
    refine ⟨⟨ob, h1, h2.1⟩, fun b e => ?_⟩
    cases e
    exact ⟨ob, h1, h2.2.1⟩
  · rcases q with ⟨o, vs, q, hd⟩ | ⟨vs, q⟩
    · have ok := I.hok a _ q
      have e1 : s.heap.get? a = some o := ok.1
      obtain ⟨its, _, ht, _⟩ := I.tuple (.inl (.inr ⟨o, q⟩))
      refine ⟨ht.typeIs, fun b e => ?_⟩
      cases e
      exact ⟨o, e1, hd⟩
    · obtain ⟨its, _, ht, _⟩ := I.tuple q.sq
      obtain ⟨o, _, _, h1, _, h3, _⟩ := q
      refine ⟨ht.typeIs, fun b e => ?_⟩
      cases e
      exact ⟨o, I.kIn _ o h1, h3⟩
structure MdOk (T : String) (nm : Str) (id : String) : Prop where
  pa : PlainAttrs T
  slot : Slot T nm id
  ty : typeOf (.builtin id) = pure (.type "method_descriptor")
def tM (X : Cx) (nm : Str) (to : TE) (t : TA) : TE := fun σ H Q => to σ H fun x H1 => ∃ (T id : String) (r : V → List V → Hp → VK → Prop), MdOk T nm id ∧ IsTy X.K T x H1 ∧ MtR X id r ∧ t σ H1 fun xs H2 => r x xs H2 Q
variable {o e : Expr} {es : List Expr} {to : TE} {t : TA} {name : Str} {apos cpos : Pos}
theorem pe_m0 (ho : PE X o to) (hbase : attributeBase o name X.env (eval o X.env) = eval o X.env) (hline : (apos.endLine == cpos.line) = true) : PE X (.Call (.Attribute o name apos) [] [] cpos) (tM X name to tNil) := by
  refine ⟨fun pins s σ H Q I q => ?_⟩
  refine wpAny_Call_method0_late hbase hline (thn (ho.run pins s σ H _ I q) fun v s1 ⟨x, H1, I1, r1, T, id, r, md, ty, hm, q1⟩ => ?_)
  obtain ⟨h1, h2⟩ := IsTy.of I1 r1 ty
  exact ⟨T, id, md.pa, md.slot, md.ty, h1, h2, Calls.callWith_builtin rfl (PySem.evalArgs_none (hm pins s1 σ H1 x [] v [] Q I1 r1 .nil q1))⟩
theorem pe_m (ho : PE X o to) (ha : PA X (e :: es) t) (hbase : attributeBase o name X.env (eval o X.env) = eval o X.env)
    (hfew : ((backTo cpos (starEach (e :: es) X.env)).all (fun x => !x.1) && (backToKw cpos (keywordEach [] X.env)).all (fun x => x.1.isSome)
      && decide ((e :: es).length + ([] : List Keyword).length + (if ([] : List Keyword).isEmpty then 0 else 1) < 30)) = true)
    (hline : (apos.endLine == cpos.line) = true) (hs : starEach (e :: es) X.env = (false, eval e X.env) :: starEach es X.env) (hp : (backTo cpos (starEach es X.env)).any (·.1) = false) :
    PE X (.Call (.Attribute o name apos) (e :: es) [] cpos) (tM X name to t) := by
  refine ⟨fun pins s σ H Q I q => ?_⟩
  refine wpAny_Call_method_late hbase hfew hline rfl (thn (ho.run pins s σ H _ I q) fun v s1 ⟨x, H1, I1, r1, T, id, r, md, ty, hm, q1⟩ => ?_)
  obtain ⟨h1, h2⟩ := IsTy.of I1 r1 ty
  refine ⟨T, id, md.pa, md.slot, md.ty, h1, h2, ?_⟩
  have hA := ha.run cpos pins s1 σ H1 _ I1 q1
  rw [hs] at hA ⊢
  refine Calls.callWith_builtin ?_ (Calls.evalArgs_plain ?_)
  · show (false || (backTo cpos (starEach es X.env)).any (·.1)) = false
    rw [hp]
    rfl
  · exact thn hA fun us s2 ⟨vs, H2, I2, r2, q2⟩ => hm pins s2 σ H2 x vs v us Q I2 r1 r2 q2
end
end EV

/-! EV8: methods, one by one -/
namespace EV
open PySem PySem.Spec PySem.SeqAt L2
section
variable {X : Cx} {pins : List (Addr × Obj)} {σ : L2.St} {H : Hp} {s : Shared} {F : Addr → Prop} {A : List Addr} {h : Hs} {x y : V} {v u : Value} {e e' : Ev} {d d' : Dt}
def rM (K : PySem.W.Frag) (f : Mf) : V → List V → Hp → VK → Prop := fun x vs H Q => ∃ F A h ex es, Cs K F A h H ∧ RV K F A h H ex x ∧ RVs K F A h H es vs ∧ Ov K F A h H (mf f ex es h) Q
theorem mt_at {id : String} {r : V → List V → Hp → VK → Prop} {Q : VK} {x : V} {v : Value} {vs : List V} {us : List Value} (q : MtR X id r) (I : Inv X pins σ H s) (r0 : RelV x v) (rx : Vals vs us) (w : r x vs H (fun v H' => Hsm X.K H' → Q v H')) :
    wpAny (model X.prog X.w) X.A (PySem.call (.builtin id) (v :: us)) (EP X pins σ Q) X.xe s := thn (q pins s σ H x vs v us _ I r0 rx w) fun _ _ e => ep_sm e
theorem m_append : MtR X "list.append" (rM X.K .append) := by
  intro pins s σ H x xs v us Q I rx rs ⟨F, A, h, ex, es, c, r, ra, q⟩
  match ex, es, r, ra, q with
  | .d _, _, _, _, q => exact q.elim
  | .r n, [], _, _, q => exact q.elim
  | .r n, _ :: _ :: _, _, _, q => exact q.elim
  | .r n, [e], r, ra, q =>
    obtain ⟨w, rfl, r1⟩ := rvs1 ra
    simp only [mf] at q
    cases e1 : frz e h with
    | none => rw [e1] at q; exact q.elim
    | some p =>
      obtain ⟨d, h1⟩ := p
      rw [e1] at q
      simp only [Option.bind_some] at q
      obtain ⟨po, rd⟩ := frz_ok c r1 e1
      split at q
      · rename_i ys hh
        split at q
        · rename_i hz
          obtain ⟨a, hA, rfl, vs, q1, k⟩ := (RV.mono c po r).cell po.cs hh
          refine mt_at mt_append I rx rs ⟨a, vs, w, rfl, rfl, q1, by rw [k.length]; exact hz, fun sm => ?_⟩
          exact q A _ (po.trans (wr_list po.cs hA hh (k.append (.cons rd .nil)))) sm .non .non
        · exact q.elim
      · exact q.elim
theorem m_extend : MtR X "list.extend" (rM X.K .extend) := by
  intro pins s σ H x xs v us Q I rx rs ⟨F, A, h, ex, es, c, r, ra, q⟩
  match ex, es, r, ra, q with
  | .d _, _, _, _, q => exact q.elim
  | .r n, [], _, _, q => exact q.elim
  | .r n, _ :: _ :: _, _, _, q => exact q.elim
  | .r n, [e], r, ra, q =>
    obtain ⟨w, rfl, r1⟩ := rvs1 ra
    simp only [mf] at q
    split at q
    · rename_i ys zs hh hs
      obtain ⟨a, hA, rfl, vs, q1, k⟩ := r.cell c hh
      have lst : (∃ b ws, w = .ref b ∧ H b = some (.lst ws) ∧ RDs X.K H (Gd F A h) ws zs) → Ov X.K F A h H (if ys.length + zs.length ≤ sizeLine then okO (.d .none) (h.set n (.lst (ys ++ zs))) else none) Q →
          wpAny (model X.prog X.w) X.A (PySem.call (.builtin "list.extend") (v :: us)) (EP X pins σ Q) X.xe s := by
        intro ⟨b, ws, e1, z, k2⟩ q
        split at q
        · rename_i hz
          subst e1
          refine mt_at mt_extend I rx rs ⟨a, b, vs, ws, rfl, rfl, q1, z, by rw [k.length, k2.length]; exact hz, fun sm => ?_⟩
          exact q A _ (wr_list c hA hh (k.append k2)) sm .non .non
        · exact q.elim
      cases e with
      | r m =>
        simp only [seqOf] at hs
        split at hs
        · rename_i zs' hm
          cases hs
          obtain ⟨b, _, e1, ws, q2, k2⟩ := r1.cell c hm
          exact lst ⟨b, ws, e1, q2, k2⟩ q
        · cases hs
      | d y =>
        cases y with
        | list zs' =>
          cases hs
          obtain ⟨b, ws, e1, q2, _, k2⟩ := RD.list_ r1
          exact lst ⟨b, ws, e1, q2, k2⟩ q
        | tuple _ => exact q.elim
        | none => cases hs
        | bool _ => cases hs
        | int _ => cases hs
        | str _ => cases hs
        | dict _ => cases hs
    · exact q.elim
theorem m_pop : MtR X "list.pop" (rM X.K .pop) := by
  intro pins s σ H x xs v us Q I rx rs ⟨F, A, h, ex, es, c, r, ra, q⟩
  match ex, es, r, ra, q with
  | .d _, _, _, _, q => exact q.elim
  | .r n, _ :: _, _, _, q => exact q.elim
  | .r n, [], r, ra, q =>
    cases ra
    simp only [mf] at q
    split at q
    · rename_i ys hh
      split at q
      · rename_i d hd
        obtain ⟨a, hA, rfl, vs, q1, k⟩ := r.cell c hh
        obtain ⟨w, hw, rd⟩ := k.get hd
        refine mt_at mt_pop I rx rs ⟨a, vs, w, rfl, rfl, q1, by rw [k.length]; exact hw, fun sm => ?_⟩
        have po := wr_list c hA hh k.dropLast
        exact q A _ po sm w (RD.mono (po.stay c) rd)
      · exact q.elim
    · exact q.elim
theorem m_popAt : MtR X "list.pop" (rM X.K .popAt) := by
  intro pins s σ H x xs v us Q I rx rs ⟨F, A, h, ex, es, c, r, ra, q⟩
  simp only [mf] at q
  split at q <;> rename_i hf <;> first | exact (Mf.noConfusion hf) | skip
  rename_i n i
  · obtain ⟨w, rfl, r1⟩ := rvs1 ra
    split at q
    · rename_i ys hh
      split at q
      · rename_i hi
        split at q
        · rename_i d hd
          obtain ⟨a, hA, rfl, vs, q1, k⟩ := r.cell c hh
          obtain ⟨w2, hw, rd⟩ := k.get hd
          have := RD.int_ r1
          subst this
          have hl := (List.getElem?_eq_some_iff.mp hw).1
          refine mt_at mt_popAt I rx rs ⟨a, vs, i, i.toNat, w2, rfl, rfl, q1, by omega, hi.2, ?_, hw, fun sm => ?_⟩
          · unfold seqIndex?
            have e0 : ¬ i < 0 := by omega
            have e2 : i < (vs.length : Int) := by omega
            simp [e0, e2, hi.1]
          · have po := wr_list c hA hh (k.eraseIdx i.toNat)
            exact q A _ po sm w2 (RD.mono (po.stay c) rd)
        · exact q.elim
      · exact q.elim
    · exact q.elim
  all_goals exact q.elim
def isTup : Ev → Bool
  | .d (.tuple _) => true
  | _ => false
def rMs (K : PySem.W.Frag) (b : Bool) (f : Mf) : V → List V → Hp → VK → Prop := fun x vs H Q => ∃ F A h ex es, isTup ex = b ∧ Cs K F A h H ∧ RV K F A h H ex x ∧ RVs K F A h H es vs ∧ Ov K F A h H (mf f ex es h) Q
theorem isTup_f {ex : Ev} {xs : List Dt} (hb : isTup ex = false) (e : seqOf ex h = some xs) : peek ex h = some (.list xs) := by
  cases ex with
  | d y =>
    cases y with
    | list ys => cases e; rfl
    | tuple ys => cases hb
    | _ => cases e
  | r n =>
    simp only [seqOf] at e
    split at e
    · rename_i hm
      cases e
      simp only [peek, hm]
    · cases e
theorem isTup_t {ex : Ev} {xs : List Dt} (hb : isTup ex = true) (e : seqOf ex h = some xs) : ex = .d (.tuple xs) := by
  cases ex with
  | d y =>
    cases y with
    | tuple ys => cases e; rfl
    | _ => cases hb
  | r n => cases hb
theorem mf_index {K : PySem.W.Frag} {ex : Ev} {es : List Ev} {Q : VK} (q : Ov K F A h H (mf .index ex es h) Q) : ∃ i xs is, es = [.d (.int i)] ∧ seqOf ex h = some xs ∧ intsD xs = some is ∧ is.contains i = true ∧ Ov K F A h H (some (.d (.int (is.idxOf i : Nat)), h)) Q := by
  have e0 : (∃ i, es = [.d (.int i)]) ∨ ¬ ∃ i, es = [.d (.int i)] := Classical.em _
  rcases e0 with ⟨i, rfl⟩ | e0
  · simp only [mf] at q
    cases e1 : (seqOf ex h).bind intsD with
    | none => rw [e1] at q; exact q.elim
    | some is =>
      rw [e1] at q
      obtain ⟨xs, e2, e3⟩ := Option.bind_eq_some_iff.mp e1
      have q : Ov K F A h H (if is.contains i = true then okO (.d (.int (is.idxOf i : Nat))) h else none) Q := q
      split at q
      · rename_i hc
        exact ⟨i, xs, is, rfl, e2, e3, hc, q⟩
      · exact q.elim
  · have e1 : mf .index ex es h = none := by
      unfold mf
      split <;> first | rfl | (rename_i hf; cases hf; done) | (exfalso; exact e0 ⟨_, rfl⟩)
    rw [e1] at q
    exact q.elim
theorem mf_count {K : PySem.W.Frag} {ex : Ev} {es : List Ev} {Q : VK} (q : Ov K F A h H (mf .count ex es h) Q) : ∃ i xs is, es = [.d (.int i)] ∧ seqOf ex h = some xs ∧ intsD xs = some is ∧ Ov K F A h H (some (.d (.int (is.count i : Nat)), h)) Q := by
  have e0 : (∃ i, es = [.d (.int i)]) ∨ ¬ ∃ i, es = [.d (.int i)] := Classical.em _
  rcases e0 with ⟨i, rfl⟩ | e0
  · simp only [mf] at q
    cases e1 : (seqOf ex h).bind intsD with
    | none => rw [e1] at q; exact q.elim
    | some is =>
      rw [e1] at q
      obtain ⟨xs, e2, e3⟩ := Option.bind_eq_some_iff.mp e1
      exact ⟨i, xs, is, rfl, e2, e3, q⟩
  · have e1 : mf .count ex es h = none := by
      unfold mf
      split <;> first | rfl | (rename_i hf; cases hf; done) | (exfalso; exact e0 ⟨_, rfl⟩)
    rw [e1] at q
    exact q.elim
theorem m_index_l : MtR X "list.index" (rMs X.K false .index) := by
  intro pins s σ H x xs v us Q I rx rs ⟨F, A, h, ex, es, ty, c, r, ra, q⟩
  obtain ⟨i, xs, is, rfl, e2, e3, hc, q1⟩ := mf_index q
  clear q
  have q := q1
  clear q1
  · obtain ⟨w, rfl, r1⟩ := rvs1 ra
    have e3 := intsD_some e3
    subst e3
    · skip
      obtain ⟨a, vs, rfl, z, k⟩ := r.list_ c (isTup_f ty e2)
      have e4 := rds_ints k
      subst e4
      have := RD.int_ r1
      subst this
      obtain ⟨u, rfl, ru⟩ := vals1 rs
      obtain ⟨t, rfl⟩ := ru
      cases rx
      have hm : i ∈ is := by simpa using hc
      obtain ⟨its, rv, hl, hz⟩ := I.list (SqL.of z)
      exact list_index_ints hl.isList rv.ints (by simpa using hz) hm ⟨.int (is.idxOf i : Nat), H, I.tok _, ⟨_, rfl⟩, Ov.data c (Hsm.of I) q (.int _)⟩
theorem m_index_t : MtR X "tuple.index" (rMs X.K true .index) := by
  intro pins s σ H x xs v us Q I rx rs ⟨F, A, h, ex, es, ty, c, r, ra, q⟩
  obtain ⟨i, xs, is, rfl, e2, e3, hc, q1⟩ := mf_index q
  clear q
  have q := q1
  clear q1
  · obtain ⟨w, rfl, r1⟩ := rvs1 ra
    have e3 := intsD_some e3
    subst e3
    · skip
      have e5 := isTup_t ty e2
      subst e5
      obtain ⟨a, vs, rfl, z, k⟩ := RD.tuple_ r
      have e4 := rds_ints k
      subst e4
      have := RD.int_ r1
      subst this
      obtain ⟨u, rfl, ru⟩ := vals1 rs
      obtain ⟨t, rfl⟩ := ru
      cases rx
      have hm : i ∈ is := by simpa using hc
      obtain ⟨its, rv, hl, hz⟩ := I.tuple z
      exact tuple_index_ints hl rv.ints hm ⟨.int (is.idxOf i : Nat), H, I.tok _, ⟨_, rfl⟩, Ov.data c (Hsm.of I) q (.int _)⟩
theorem plains_ints (is : List Int) : PyData.plainAll (is.map .int) = true := by
  induction is with
  | nil => rfl
  | cons a r ih => simp [PyData.plainAll, PyData.plain, ih]
theorem count_ints (i : Int) : ∀ (is : List Int), ((is.map PyData.int).countP fun y => PyData.eqv y (.int i)) = is.count i
  | [] => rfl
  | a :: r => by
    rw [List.map_cons, List.countP_cons, List.count_cons, count_ints i r]
    simp [PyData.eqv]
theorem min_zero (n : Nat) : min n 0 = 0 := Nat.min_zero n
theorem m_count_l (hu : X.A.units + 200 < cLine) : MtR X "list.count" (rMs X.K false .count) := by
  intro pins s σ H x xs v us Q I rx rs ⟨F, A, h, ex, es, ty, c, r, ra, q⟩
  obtain ⟨i, xs, is, rfl, e2, e3, q1⟩ := mf_count q
  clear q
  have q := q1
  clear q1
  · obtain ⟨w, rfl, r1⟩ := rvs1 ra
    have e3 := intsD_some e3
    subst e3
    obtain ⟨a, vs, rfl, z, k⟩ := r.list_ c (isTup_f ty e2)
    have e4 := rds_ints k
    subst e4
    have := RD.int_ r1
    subst this
    obtain ⟨u, rfl, ru⟩ := vals1 rs
    obtain ⟨t, rfl⟩ := ru
    cases rx
    obtain ⟨its, rv, hl, hz⟩ := I.list (SqL.of z)
    obtain ⟨as, rds⟩ := Dp.readsAll I _ _ its (RDs.dp k (plains_ints is)) rv
    refine count_list_data (bs := []) hl.isList (by simpa using rds) (.int i t) (plains_ints is) rfl (by simp [PyData.depth]; omega) ?_
    rw [count_ints]
    exact ⟨.int (is.count i : Nat), H, I.tok _, ⟨_, rfl⟩, Ov.data c (Hsm.of I) q (.int _)⟩
theorem m_count_t (hu : X.A.units + 200 < cLine) : MtR X "tuple.count" (rMs X.K true .count) := by
  intro pins s σ H x xs v us Q I rx rs ⟨F, A, h, ex, es, ty, c, r, ra, q⟩
  obtain ⟨i, xs, is, rfl, e2, e3, q1⟩ := mf_count q
  clear q
  have q := q1
  clear q1
  · obtain ⟨w, rfl, r1⟩ := rvs1 ra
    have e3 := intsD_some e3
    subst e3
    have e5 := isTup_t ty e2
    subst e5
    obtain ⟨a, vs, rfl, z, k⟩ := RD.tuple_ r
    have e4 := rds_ints k
    subst e4
    have := RD.int_ r1
    subst this
    obtain ⟨u, rfl, ru⟩ := vals1 rs
    obtain ⟨t, rfl⟩ := ru
    cases rx
    obtain ⟨its, rv, hl, hz⟩ := I.tuple z
    obtain ⟨as, rds⟩ := Dp.readsAll I _ _ its (RDs.dp k (plains_ints is)) rv
    refine count_tuple_data (bs := []) (show s.heap.IsTuple a its.toArray from hl) (by simpa using rds) (.int i t) (plains_ints is) rfl (by simp [PyData.depth]; omega) ?_
    rw [count_ints]
    exact ⟨.int (is.count i : Nat), H, I.tok _, ⟨_, rfl⟩, Ov.data c (Hsm.of I) q (.int _)⟩
theorem vals2 {x y : V} {us : List Value} (r : Vals [x, y] us) : ∃ u w, us = [u, w] ∧ RelV x u ∧ RelV y w := by
  cases r with
  | cons a b =>
    cases b with
    | cons a' b' =>
      cases b'
      exact ⟨_, _, rfl, a, a'⟩
theorem m_get (hu : X.A.units + 200 < cLine) : MtR X "dict.get" (rM X.K .get) := by
  intro pins s σ H x xs v us Q I rx rs ⟨F, A, h, ex, es, c, r, ra, q⟩
  simp only [mf] at q
  split at q <;> rename_i hf <;> first | exact (Mf.noConfusion hf) | skip
  · rename_i n k
    obtain ⟨w, rfl, r1⟩ := rvs1 ra
    split at q
    · rename_i lk kvs key hh hk
      obtain ⟨a, o, rfl, g, z⟩ := r.dget c hh r1 hk
      cases rx
      obtain ⟨u, rfl, ru⟩ := vals1 rs
      refine d_get1 (by omega) I g ru fun w' s' I' rw' => ⟨o.getD .non, H, I', rw', ?_⟩
      rcases z with ⟨w2, d, rfl, e1, rd⟩ | ⟨rfl, e1⟩
      · rw [e1] at q
        exact Ov.data c (Hsm.of I) q rd
      · rw [e1] at q
        exact Ov.data c (Hsm.of I) q .non
    · exact q.elim
  · rename_i n k d
    obtain ⟨w, w0, rfl, r1, r2⟩ := rvs2 ra
    split at q
    · rename_i lk kvs key hh hk
      obtain ⟨a, o, rfl, g, z⟩ := r.dget c hh r1 hk
      cases rx
      obtain ⟨u, u0, rfl, ru, ru0⟩ := vals2 rs
      refine d_get2 (by omega) I g ru ru0 fun w' s' I' rw' => ⟨o.getD w0, H, I', rw', ?_⟩
      rcases z with ⟨w2, d, rfl, e1, rd⟩ | ⟨rfl, e1⟩
      · rw [e1] at q
        exact Ov.data c (Hsm.of I) q rd
      · rw [e1] at q
        exact q A H (Po.refl c) (Hsm.of I) w0 r2
    · exact q.elim
  all_goals exact q.elim
def rUpd (K : PySem.W.Frag) : V → List V → Hp → VK → Prop := fun x vs H Q => ∃ (a b : Addr) (kvs more : List (Key × V)), x = .ref a ∧ vs = [.ref b] ∧ a ≠ b ∧ H a = some (.dK kvs) ∧ Rd H b (.dK more) ∧ kvs.length + more.length ≤ sizeLine ∧ Q .non (upd H a (.dK (mergeK kvs more)))
theorem mt_update : MtR X "dict.update" (rUpd X.K) := by
  intro pins s σ H x xs v us Q I rx rs ⟨a, b, kvs, more, e1, e2, ne, ha, hb, hz, q⟩
  subst e1
  subst e2
  cases rx
  obtain ⟨u, rfl, ru⟩ := vals1 rs
  cases ru
  obtain ⟨z1, hd1, vs1, rel1, dd1⟩ := dk_rd I.hok (.inl ha)
  obtain ⟨z2, hd2, vs2, rel2, dd2⟩ := dk_rd I.hok hb
  refine call_meetsIn PySem.F.slot_dict_update dd1.typeIs PySem.F.entry_dict_update (PySem.F.args_dict_update_2 _ _) (meets_dict_update (mixKind X.prog X.w) a b ne hd2)
    ⟨vs1, vs2, dd1, dd2, by rw [← rel1.length, ← rel2.length]; exact hz, fun h' m1 m2 sb => ?_⟩
  have hz' : (mergeK kvs more).length ≤ sizeLine := Nat.le_trans (length_mergeK _ _) hz
  have he : ∃ o, h'.get? a = some o := let ⟨o, _, _, e, _⟩ := m1; ⟨o, e⟩
  exact ⟨.non, upd H a (.dK (mergeK kvs more)), d_write I (by rw [ha]; exact True.intro) sb he (dk_new hz' hd1 (rel2.merge rel1) m1), rfl, q⟩
end
end EV

/-! EV9: the evaluator's steps are the hand layer's -/
namespace EV
open PySem PySem.Spec PySem.SeqAt L2
section
variable {mg : Str → Option Value} {K : PySem.W.Frag} {W : WX} {F : Addr → Prop} {A : List Addr} {h : Hs} {H : Hp} {σ : L2.St} {σe : Sl} {α β : Type}
theorem tE.step {ra : TR Ev} {k : Ev → Hs → R β} {P : β → List Addr → Hs → Hp → Prop} {Q : VK} (c : Cs K F A h H) (s : Ss K F A h H σe σ) (o : Ou mg K W F A h H σ ((ra σe h).bind k) P)
    (f : ∀ x A1 h1 H1 v, Po K F A h H A1 h1 H1 → Hsm K H1 → Ss K F A1 h1 H1 σe σ → RV K F A1 h1 H1 x v → Ou mg K W F A1 h1 H1 σ (k x h1) P → Q v H1) : tE mg K W ra σ H Q :=
  ⟨F, A, σe, h, c, s, o.bind.imp fun x A1 h1 H1 p1 sm1 o1 v rv => f x A1 h1 H1 v p1 sm1 (s.mono c p1) rv o1⟩
theorem tT.step {ra : TR Bool} {k : Bool → Hs → R β} {P : β → List Addr → Hs → Hp → Prop} {Q : Bool → Hp → Prop} (c : Cs K F A h H) (s : Ss K F A h H σe σ) (o : Ou mg K W F A h H σ ((ra σe h).bind k) P)
    (f : ∀ x A1 h1 H1, Po K F A h H A1 h1 H1 → Hsm K H1 → Ss K F A1 h1 H1 σe σ → Ou mg K W F A1 h1 H1 σ (k x h1) P → Q x H1) : tT mg K W ra σ H Q :=
  ⟨F, A, σe, h, c, s, o.bind.imp fun x A1 h1 H1 p1 sm1 o1 => f x A1 h1 H1 p1 sm1 (s.mono c p1) o1⟩
theorem tA.step {ra : TR (List Ev)} {k : List Ev → Hs → R β} {P : β → List Addr → Hs → Hp → Prop} {Q : List V → Hp → Prop} (c : Cs K F A h H) (s : Ss K F A h H σe σ) (o : Ou mg K W F A h H σ ((ra σe h).bind k) P)
    (f : ∀ x A1 h1 H1 v, Po K F A h H A1 h1 H1 → Hsm K H1 → Ss K F A1 h1 H1 σe σ → RVs K F A1 h1 H1 x v → Ou mg K W F A1 h1 H1 σ (k x h1) P → Q v H1) : tA mg K W ra σ H Q :=
  ⟨F, A, σe, h, c, s, o.bind.imp fun x A1 h1 H1 p1 sm1 o1 v rv => f x A1 h1 H1 v p1 sm1 (s.mono c p1) rv o1⟩
theorem Ov.hsm {o : Option (Ev × Hs)} {Q : VK} (q : Ov K F A h H o Q) : Ov K F A h H o (fun v H' => Hsm K H' → Q v H') := q.imp fun _ _ _ q _ => q
end
section
variable {X : Cx} {mg : Str → Option Value} {W : WX} {a b c : Expr} {ra rb rc : TR Ev} {pos : Pos}
theorem s_k {e : Expr} {v : V} {d : Dt} (p : PE X e (tC v)) (r : ∀ H L, RD X.K H L v d) : PE X e (tE mg X.K W fun _ h => .ok (.d d) h) :=
  pe_imps p fun σ H Q ⟨F, A, σe, h, c, s, o⟩ sm => fun _ => Ou.here c sm o v (r _ _)
theorem s_var {i : Nat} {x : Str} (hN : X.N[i]? = some x) (hv : Vis X.env.scope x) (hd : (x == ("__debug__" : Str)) = false) (hcd : (x == ("__classdict__" : Str)) = false) :
    PE X (.Name x pos) (tE mg X.K W fun σ h => match σ[i]? with
      | some (some v) => .ok v h
      | _ => .bad) := by
  refine pe_imps (pe_var hN hv hd hcd) fun σ H Q ⟨F, A, σe, h, c, s, o⟩ sm => ?_
  dsimp only at o
  cases e : σe[i]? with
  | none => rw [e] at o; exact o.elim
  | some w =>
    cases w with
    | none => rw [e] at o; exact o.elim
    | some w =>
      rw [e] at o
      obtain ⟨v, h1, h2⟩ := s.at_ i w e
      exact ⟨v, h1, fun _ => Ou.here c sm o v h2⟩
theorem s_bin (mk : Bool) (o : O2) (ha : PE X a (tE mg X.K W ra)) (hb : PE X b (tE mg X.K W rb)) :
    PE X (.BinOp a o.py b pos) (tE mg X.K W fun σ h => (ra σ h).bind fun x h => (rb σ h).bind fun y h => lift (opB mk o x y h)) :=
  pe_imps (pe_op (or_bin o) ha hb) fun σ H Q ⟨F, A, σe, h, c, s, o⟩ sm => tE.step c s o fun x A1 h1 H1 v p1 sm1 s1 r1 o1 => tE.step p1.cs s1 o1 fun y A2 h2 H2 w p2 sm2 s2 r2 o2 =>
    ⟨F, A2, h2, x, y, p2.cs, r1.mono p1.cs p2, r2, (Ou.lift o2).hsm⟩
theorem s_ix (hu : X.A.units + 200 < cLine) (hs : PlainIx b) (ha : PE X a (tE mg X.K W ra)) (hb : PE X b (tE mg X.K W rb)) :
    PE X (.Subscript a b pos) (tE mg X.K W fun σ h => (ra σ h).bind fun x h => (rb σ h).bind fun y h => lift (ixE x y h)) :=
  pe_imps (pe_ix (ir_ix hu) ha hb hs) fun σ H Q ⟨F, A, σe, h, c, s, o⟩ sm => tE.step c s o fun x A1 h1 H1 v p1 sm1 s1 r1 o1 => tE.step p1.cs s1 o1 fun y A2 h2 H2 w p2 sm2 s2 r2 o2 =>
    ⟨F, A2, h2, x, y, p2.cs, r1.mono p1.cs p2, r2, (Ou.lift o2).hsm⟩
theorem s_cmp (hu : X.A.units + 200 < cLine) (o : Cm) (hm : behindInMarks o.py b = false) (ha : PE X a (tE mg X.K W ra)) (hb : PE X b (tE mg X.K W rb)) :
    PE X (.Compare a [o.py] [b] pos) (tE mg X.K W fun σ h => (ra σ h).bind fun x h => (rb σ h).bind fun y h => lift (cmpE o x y h)) :=
  pe_imps (pe_cmpR (or_cmp hu o) ha hb hm) fun σ H Q ⟨F, A, σe, h, c, s, o⟩ sm => tE.step c s o fun x A1 h1 H1 v p1 sm1 s1 r1 o1 => tE.step p1.cs s1 o1 fun y A2 h2 H2 w p2 sm2 s2 r2 o2 =>
    ⟨F, A2, h2, x, y, p2.cs, r1.mono p1.cs p2, r2, (Ou.lift o2).hsm⟩
/-- what a comparison gives is a truth -/
theorem cmp_bool {K : PySem.W.Frag} {F : Addr → Prop} {A : List Addr} {h : Hs} {H : Hp} {σ : L2.St} {o : Option (Ev × Hs)} {k : Ev → Hs → R Ev} {P : Ev → List Addr → Hs → Hp → Prop} {k2 : Bool → Hs → R Ev}
    (hk : ∀ x h, k x h = match x with
      | .d (.bool b) => k2 b h
      | _ => .bad) (q : Ou mg K W F A h H σ ((lift o).bind k) P) : Ov K F A h H o (fun v H' => ∃ b A' h', v = .bl b ∧ Po K F A h H A' h' H' ∧ Hsm K H' ∧ Ou mg K W F A' h' H' σ (k2 b h') P) := by
  cases o with
  | none => exact q.elim
  | some p =>
    obtain ⟨x, h2⟩ := p
    intro A' H' po sm v r
    have q : Ou mg K W F A' h2 H' σ (k x h2) P := q.bind A' H' po sm
    rw [hk] at q
    cases x with
    | r n => exact q.elim
    | d y =>
      cases y with
      | bool b =>
        have := RD.bool_ r
        subst this
        exact ⟨b, A', h2, rfl, po, sm, q⟩
      | _ => exact q.elim
theorem s_chain (hu : X.A.units + 200 < cLine) (o o' : Cm) (hm : lastMarks [o.py, o'.py] [b, c] = false) (ha : PE X a (tE mg X.K W ra)) (hb : PE X b (tE mg X.K W rb)) (hc : PE X c (tE mg X.K W rc)) :
    PE X (.Compare a [o.py, o'.py] [b, c] pos) (tE mg X.K W fun σ h => (ra σ h).bind fun x h => (rb σ h).bind fun y h => (lift (cmpE o x y h)).bind fun k h => match k with
      | .d (.bool true) => (rc σ h).bind fun z h => lift (cmpE o' y z h)
      | .d (.bool false) => .ok (.d (.bool false)) h
      | _ => .bad) := by
  refine pe_imps (pe_chain (or_cmp hu o) (or_cmp hu o') ha hb hc hm) fun σ H Q ⟨F, A, σe, h, c0, s, o⟩ sm => tE.step c0 s o fun x A1 h1 H1 v p1 sm1 s1 r1 o1 => tE.step p1.cs s1 o1 fun y A2 h2 H2 w p2 sm2 s2 r2 o2 =>
    ⟨F, A2, h2, x, y, p2.cs, r1.mono p1.cs p2, r2, ?_⟩
  refine (cmp_bool (k2 := fun b h => if b = true then (rc σe h).bind fun z h => lift (cmpE o' y z h) else .ok (.d (.bool false)) h) (fun x h => ?_) o2).imp fun z H3 sm3 ⟨k, A3, h3, ez, p3, _, o3⟩ => ⟨k, ez, ?_⟩
  · cases x with
    | r n => rfl
    | d y =>
      cases y with
      | bool b => cases b <;> rfl
      | _ => rfl
  · cases k with
    | false => exact fun _ => Ou.here p3.cs sm3 o3 _ (.bl false)
    | true =>
      have o3 : Ou mg X.K W F A3 h3 H3 σ ((rc σe h3).bind fun z h => lift (cmpE o' y z h)) _ := o3
      exact tE.step p3.cs (s2.mono p2.cs p3) o3 fun z A4 h4 H4 u p4 sm4 s4 r4 o4 => ⟨F, A4, h4, y, z, p4.cs, (r2.mono p2.cs p3).mono p3.cs p4, r4, (Ou.lift o4).hsm⟩
theorem s_neg (ha : PE X a (tE mg X.K W ra)) : PE X (.UnaryOp .USub a pos) (tE mg X.K W fun σ h => (ra σ h).bind fun x h => match x with
    | .d (.int i) => .ok (.d (.int (-i))) h
    | _ => .bad) := by
  refine pe_imps (pe_un un_neg ha) fun σ H Q ⟨F, A, σe, h, c, s, o⟩ sm => tE.step c s o fun x A1 h1 H1 v p1 sm1 s1 r1 o1 => ?_
  split at o1
  · rename_i i
    exact ⟨i, RD.int_ r1, fun _ => Ou.here p1.cs sm1 o1 _ (.int _)⟩
  · exact o1.elim
theorem s_not (ha : PE X a (tE mg X.K W ra)) : PE X (.UnaryOp .Not a pos) (tE mg X.K W fun σ h => (ra σ h).bind fun x h => match x with
    | .d (.bool b) => .ok (.d (.bool (!b))) h
    | _ => .bad) := by
  refine pe_imps (pe_not ha) fun σ H Q ⟨F, A, σe, h, c, s, o⟩ sm => tE.step c s o fun x A1 h1 H1 v p1 sm1 s1 r1 o1 => ?_
  split at o1
  · rename_i i
    exact ⟨i, RD.bool_ r1, fun _ => Ou.here p1.cs sm1 o1 _ (.bl _)⟩
  · exact o1.elim
theorem s_and {rest : List Expr} (ha : PE X a (tE mg X.K W ra)) (hb : PE X (.BoolOp .And (b :: rest) pos) (tE mg X.K W rb)) :
    PE X (.BoolOp .And (a :: b :: rest) pos) (tE mg X.K W fun σ h => (ra σ h).bind fun x h => match x with
      | .d (.bool true) => rb σ h
      | .d (.bool false) => .ok (.d (.bool false)) h
      | _ => .bad) := by
  refine pe_imps (pe_and ha hb) fun σ H Q ⟨F, A, σe, h, c, s, o⟩ sm => tE.step c s o fun x A1 h1 H1 v p1 sm1 s1 r1 o1 => ?_
  split at o1
  · exact ⟨true, RD.bool_ r1, F, A1, σe, h1, p1.cs, s1, o1.imp fun v A2 h2 H2 p2 sm2 q w r _ => q w r⟩
  · exact ⟨false, RD.bool_ r1, fun _ => Ou.here p1.cs sm1 o1 _ (.bl _)⟩
  · exact o1.elim
theorem s_or {rest : List Expr} (ha : PE X a (tE mg X.K W ra)) (hb : PE X (.BoolOp .Or (b :: rest) pos) (tE mg X.K W rb)) :
    PE X (.BoolOp .Or (a :: b :: rest) pos) (tE mg X.K W fun σ h => (ra σ h).bind fun x h => match x with
      | .d (.bool true) => .ok (.d (.bool true)) h
      | .d (.bool false) => rb σ h
      | _ => .bad) := by
  refine pe_imps (pe_or ha hb) fun σ H Q ⟨F, A, σe, h, c, s, o⟩ sm => tE.step c s o fun x A1 h1 H1 v p1 sm1 s1 r1 o1 => ?_
  split at o1
  · exact ⟨true, RD.bool_ r1, fun _ => Ou.here p1.cs sm1 o1 _ (.bl _)⟩
  · exact ⟨false, RD.bool_ r1, F, A1, σe, h1, p1.cs, s1, o1.imp fun v A2 h2 H2 p2 sm2 q w r _ => q w r⟩
  · exact o1.elim
theorem s_one {op : BoolOp} {t : TE} (h : PE X a t) : PE X (.BoolOp op [a] pos) t := pe_one h
theorem s_ifx {rt : TR Bool} (ht : PT X c (tT mg X.K W rt)) (ha : PE X a (tE mg X.K W ra)) (hb : PE X b (tE mg X.K W rb)) :
    PE X (.IfExp c a b pos) (tE mg X.K W fun σ h => (rt σ h).bind fun k h => match k with
      | true => ra σ h
      | false => rb σ h) := by
  refine pe_imps (pe_ifExp ht ha hb) fun σ H Q ⟨F, A, σe, h, c, s, o⟩ sm => tT.step c s o fun k A1 h1 H1 p1 sm1 s1 o1 => ?_
  cases k with
  | true => exact ⟨F, A1, σe, h1, p1.cs, s1, Ou.imp o1 fun v A2 h2 H2 p2 sm2 q w r _ => q w r⟩
  | false => exact ⟨F, A1, σe, h1, p1.cs, s1, Ou.imp o1 fun v A2 h2 H2 p2 sm2 q w r _ => q w r⟩
/-! ### lists of expressions -/
theorem s_nil : PA X [] (tA mg X.K W fun _ h => .ok [] h) := pa_imps pa_nil fun σ H Q ⟨F, A, σe, h, c, s, o⟩ sm => fun _ => Ou.here c sm o [] .nil
theorem s_cons {es : List Expr} {rs : TR (List Ev)} (hs : starEach (a :: es) X.env = (false, eval a X.env) :: starEach es X.env) (ha : PE X a (tE mg X.K W ra)) (hr : PA X es (tA mg X.K W rs)) :
    PA X (a :: es) (tA mg X.K W fun σ h => (ra σ h).bind fun v h => (rs σ h).bind fun vs h => .ok (v :: vs) h) :=
  pa_imps (pa_cons ha hr hs) fun σ H Q ⟨F, A, σe, h, c, s, o⟩ sm => tE.step c s o fun x A1 h1 H1 v p1 sm1 s1 r1 o1 => tA.step p1.cs s1 o1 fun y A2 h2 H2 w p2 sm2 s2 r2 o2 =>
    fun _ => Ou.here p2.cs sm2 o2 _ (.cons (r1.mono p1.cs p2) r2)
theorem lift_bind {K : PySem.W.Frag} {F : Addr → Prop} {A : List Addr} {h : Hs} {H : Hp} {σ : L2.St} {α β : Type} {o : Option (α × Hs)} {k : α → Hs → R β} {P : β → List Addr → Hs → Hp → Prop} (q : Ou mg K W F A h H σ ((lift o).bind k) P) :
    ∃ a h', o = some (a, h') ∧ Ou mg K W F A h H σ (k a h') P := by
  cases o with
  | none => exact q.elim
  | some p => exact ⟨p.1, p.2, rfl, q⟩
/-- from a later state with the same cells' names -/
theorem Ou.later {K : PySem.W.Frag} {F : Addr → Prop} {A A1 : List Addr} {h h1 : Hs} {H H1 : Hp} {σ : L2.St} {β : Type} {r : R β} {P : β → List Addr → Hs → Hp → Prop} (p : Po K F A h H A1 h1 H1) (o : Ou mg K W F A h H σ r P) : Ou mg K W F A1 h1 H1 σ r P := by
  cases r with
  | ok b h2 => exact fun A2 H2 p2 => o A2 H2 (p.trans p2)
  | ex x h2 => exact fun A2 H2 c od p2 => o A2 H2 c od (p.trans p2)
  | bad => exact o
theorem s_tup {es : List Expr} {rs : TR (List Ev)} {x1 : Nat} (hr : PA X es (tA mg X.K W rs)) :
    PE X (.Tuple es x1 pos) (tE mg X.K W fun σ h => (rs σ h).bind fun vs h => (lift (frzs vs h)).bind fun ds h => if ds.length ≤ sizeLine then .ok (.d (.tuple ds)) h else .bad) := by
  refine ⟨fun pins s σ H Q I ⟨F, A, σe, h, c, s0, o⟩ => ?_⟩
  refine wpAny_Tuple_spliced (thn (hr.run pos pins s σ H (fun vs H1 => ∃ A1 h1 x, Po X.K F A h H A1 h1 H1 ∧ RVs X.K F A1 h1 H1 x vs ∧ Ou mg X.K W F A1 h1 H1 σ ((lift (frzs x h1)).bind fun ds h => if ds.length ≤ sizeLine then .ok (.d (.tuple ds)) h else .bad) fun v A' h' H' => ∀ v', RV X.K F A' h' H' v v' → Q v' H') I
    (tA.step c s0 o fun x A1 h1 H1 v p1 sm1 s1 r1 o1 => ⟨A1, h1, x, p1, r1, o1⟩)) fun us s1 ⟨vs, H1, I1, rv, A1, h1, x, p1, r1, o1⟩ => ?_)
  obtain ⟨ds, h2, e2, o2⟩ := lift_bind o1
  obtain ⟨p2, r2⟩ := frzs_ok p1.cs r1 e2
  split at o2
  · rename_i hz
    have hz' : vs.length ≤ sizeLine := by rw [r2.length]; exact hz
    refine ⟨by rw [← rv.length]; exact hz', ?_⟩
    exact ep_newT (tk := s1.toks) I1 p2.cs (Ou.later p2 o2) r2 rv hz'
  · exact o2.elim
theorem s_lst {es : List Expr} {rs : TR (List Ev)} (mk : Bool) (hr : PA X es (tA mg X.K W rs)) :
    PE X (.List es pos) (tE mg X.K W fun σ h => (rs σ h).bind fun vs h => (lift (frzs vs h)).bind fun ds h => if ds.length ≤ sizeLine then lift (newL mk ds h) else .bad) := by
  refine pe_imps (pe_lst hr) fun σ H Q ⟨F, A, σe, h, c, s, o⟩ sm => tA.step c s o fun x A1 h1 H1 v p1 sm1 s1 r1 o1 => ?_
  obtain ⟨ds, h2, e2, o2⟩ := lift_bind o1
  obtain ⟨p2, r2⟩ := frzs_ok p1.cs r1 e2
  split at o2
  · rename_i hz
    exact ⟨by rw [r2.length]; exact hz, fun p hp sm' => Ov.newL p2.cs (Ou.lift (Ou.later p2 o2)) hp r2 sm'⟩
  · exact o2.elim
/-! ### slices -/
theorem s_po {e : Option Expr} {ro : TR (Option Int)} (h : (e = none ∧ ro = fun _ h => .ok none h) ∨ (∃ x rx, e = some x ∧ PE X x (tE mg X.K W rx) ∧ ro = fun σ h => (rx σ h).bind fun v h => match v with
      | .d (.int i) => .ok (some i) h
      | _ => .bad)) : PO X e (fun σ H Q => ∃ F A σe h, Cs X.K F A h H ∧ Ss X.K F A h H σe σ ∧ Hsm X.K H ∧ Ou mg X.K W F A h H σ (ro σe h) fun v A' h' H' => Q v H') := by
  rcases h with ⟨rfl, rfl⟩ | ⟨x, rx, rfl, hx, rfl⟩
  · exact ⟨fun pins s σ H Q I ⟨F, A, σe, h, c, s0, sm, o⟩ => po_none.run pins s σ H Q I (Ou.here c sm o)⟩
  · refine ⟨fun pins s σ H Q I ⟨F, A, σe, h, c, s0, sm, o⟩ => (po_some hx).run pins s σ H Q I (tE.step c s0 o fun x A1 h1 H1 v p1 sm1 s1 r1 o1 => ?_)⟩
    split at o1
    · rename_i i
      exact ⟨i, RD.int_ r1, Ou.here p1.cs sm1 o1⟩
    · exact o1.elim
theorem s_sl {lo hi : Option Expr} {rl rh : TR (Option Int)} {p2 : Pos} (mk : Bool) (ha : PE X a (tE mg X.K W ra))
    (hl : PO X lo (fun σ H Q => ∃ F A σe h, Cs X.K F A h H ∧ Ss X.K F A h H σe σ ∧ Hsm X.K H ∧ Ou mg X.K W F A h H σ (rl σe h) fun v A' h' H' => Q v H'))
    (hh : PO X hi (fun σ H Q => ∃ F A σe h, Cs X.K F A h H ∧ Ss X.K F A h H σe σ ∧ Hsm X.K H ∧ Ou mg X.K W F A h H σ (rh σe h) fun v A' h' H' => Q v H')) :
    PE X (.Subscript a (.Slice lo hi none p2) pos) (tE mg X.K W fun σ h => (ra σ h).bind fun x h => (rl σ h).bind fun l h => (rh σ h).bind fun u h => lift (slE mk x l u h)) := by
  refine pe_imps (pe_slice (sr_sl mk) ha hl hh) fun σ H Q ⟨F, A, σe, h, c, s, o⟩ sm => tE.step c s o fun x A1 h1 H1 v p1 sm1 s1 r1 o1 => ?_
  refine ⟨F, A1, σe, h1, p1.cs, s1, sm1, o1.bind.imp fun l A2 h2 H2 p2 sm2 o2 => ⟨F, A2, σe, h2, p2.cs, s1.mono p1.cs p2, sm2, Ou.imp (Ou.bind o2) fun u A3 h3 H3 p3 sm3 o3 => ?_⟩⟩
  exact ⟨F, A3, h3, x, p3.cs, (r1.mono p1.cs p2).mono p2.cs p3, (Ou.lift o3).hsm⟩
end
end EV

/-! EV10: tests, calls of built-ins, methods, displays of dicts -/
namespace EV
open PySem PySem.Spec PySem.SeqAt L2
section
variable {X : Cx} {mg : Str → Option Value} {W : WX} {a b c : Expr} {ra rb rc : TR Ev} {ta tb : TR Bool} {pos : Pos}
/-! ### tests -/
theorem t_not (ha : PT X a (tT mg X.K W ta)) : PT X (.UnaryOp .Not a pos) (tT mg X.K W fun σ h => (ta σ h).bind fun k h => .ok (!k) h) :=
  pt_imps (pt_not ha) fun σ H Q ⟨F, A, σe, h, c, s, o⟩ sm => tT.step c s o fun k A1 h1 H1 p1 sm1 s1 o1 => fun _ => Ou.here p1.cs sm1 o1
theorem t_and {rest : List Expr} (ha : PT X a (tT mg X.K W ta)) (hb : PW X (.BoolOp .And (b :: rest) pos) (tT mg X.K W tb)) : PW X (.BoolOp .And (a :: b :: rest) pos) (tT mg X.K W fun σ h => (ta σ h).bind fun k h => match k with
      | true => tb σ h
      | false => .ok false h) :=
  pw_imps (pw_and ha hb) fun σ H Q ⟨F, A, σe, h, c, s, o⟩ sm => tT.step c s o fun k A1 h1 H1 p1 sm1 s1 o1 => by
    cases k with
    | true => exact ⟨F, A1, σe, h1, p1.cs, s1, Ou.imp o1 fun v A2 h2 H2 p2 sm2 q _ => q⟩
    | false => exact fun _ => Ou.here p1.cs sm1 o1
theorem t_or {rest : List Expr} (ha : PT X a (tT mg X.K W ta)) (hb : PW X (.BoolOp .Or (b :: rest) pos) (tT mg X.K W tb)) : PW X (.BoolOp .Or (a :: b :: rest) pos) (tT mg X.K W fun σ h => (ta σ h).bind fun k h => match k with
      | true => .ok true h
      | false => tb σ h) :=
  pw_imps (pw_or ha hb) fun σ H Q ⟨F, A, σe, h, c, s, o⟩ sm => tT.step c s o fun k A1 h1 H1 p1 sm1 s1 o1 => by
    cases k with
    | false => exact ⟨F, A1, σe, h1, p1.cs, s1, Ou.imp o1 fun v A2 h2 H2 p2 sm2 q _ => q⟩
    | true => exact fun _ => Ou.here p1.cs sm1 o1
theorem bool_at {F : Addr → Prop} {A : List Addr} {h : Hs} {H : Hp} {σ : L2.St} {x : Ev} {v : V} {Q : Bool → Hp → Prop} (c : Cs X.K F A h H) (sm : Hsm X.K H) (r : RV X.K F A h H x v) (o : Ou mg X.K W F A h H σ (match x with
      | .d (.bool k) => (.ok k h : R Bool)
      | _ => .bad) fun k A' h' H' => Q k H') : ∃ k, v = .bl k ∧ Q k H := by
  split at o
  · exact ⟨_, RD.bool_ r, Ou.here c sm o⟩
  · exact o.elim
theorem t_cmp (hu : X.A.units + 200 < cLine) (o : Cm) (hm : behindInMarks o.py b = false) (ha : PE X a (tE mg X.K W ra)) (hb : PE X b (tE mg X.K W rb)) :
    PT X (.Compare a [o.py] [b] pos) (tT mg X.K W fun σ h => (ra σ h).bind fun x h => (rb σ h).bind fun y h => (lift (cmpE o x y h)).bind fun v h => match v with
      | .d (.bool k) => .ok k h
      | _ => .bad) :=
  pt_imps (pt_cmpR (or_cmp hu o) ha hb hm) fun σ H Q ⟨F, A, σe, h, c, s, o⟩ sm => tE.step c s o fun x A1 h1 H1 v p1 sm1 s1 r1 o1 => tE.step p1.cs s1 o1 fun y A2 h2 H2 w p2 sm2 s2 r2 o2 =>
    ⟨F, A2, h2, x, y, p2.cs, r1.mono p1.cs p2, r2, Ou.lift ((Ou.bind o2).imp fun z A3 h3 H3 p3 sm3 o3 v rv => by
      obtain ⟨k, e, q⟩ := bool_at p3.cs sm3 rv o3
      exact ⟨k, e, fun _ => q⟩)⟩
theorem t_chain (hu : X.A.units + 200 < cLine) (o o' : Cm) (hm : lastMarks [o.py, o'.py] [b, c] = false) (ha : PE X a (tE mg X.K W ra)) (hb : PE X b (tE mg X.K W rb)) (hc : PE X c (tE mg X.K W rc)) :
    PT X (.Compare a [o.py, o'.py] [b, c] pos) (tT mg X.K W fun σ h => ((ra σ h).bind fun x h => (rb σ h).bind fun y h => (lift (cmpE o x y h)).bind fun k h => match k with
      | .d (.bool true) => (rc σ h).bind fun z h => lift (cmpE o' y z h)
      | .d (.bool false) => .ok (.d (.bool false)) h
      | _ => .bad).bind fun v h => match v with
      | .d (.bool k) => .ok k h
      | _ => .bad) := by
  refine pt_imps (pt_chain (or_cmp hu o) (or_cmp hu o') ha hb hc hm) fun σ H Q ⟨F, A, σe, h, c0, s, o⟩ sm => ?_
  have o := Ou.bind o
  refine tE.step c0 s o fun x A1 h1 H1 v p1 sm1 s1 r1 o1 => tE.step p1.cs s1 o1 fun y A2 h2 H2 w p2 sm2 s2 r2 o2 =>
    ⟨F, A2, h2, x, y, p2.cs, r1.mono p1.cs p2, r2, ?_⟩
  refine (cmp_bool (k2 := fun b h => if b = true then (rc σe h).bind fun z h => lift (cmpE o' y z h) else .ok (.d (.bool false)) h) (fun x h => ?_) o2).imp fun z H3 sm3 ⟨k, A3, h3, ez, p3, _, o3⟩ => ⟨k, ez, ?_⟩
  · cases x with
    | r n => rfl
    | d y =>
      cases y with
      | bool b => cases b <;> rfl
      | _ => rfl
  · cases k with
    | false =>
      have o3 : Ou mg X.K W F A3 h3 H3 σ (R.ok (Ev.d (.bool false)) h3) _ := o3
      obtain ⟨k', e', q⟩ := bool_at (x := .d (.bool false)) (v := .bl false) p3.cs sm3 (RD.bl false) (Ou.here p3.cs sm3 o3)
      exact ⟨k', e', fun _ => q⟩
    | true =>
      have o3 : Ou mg X.K W F A3 h3 H3 σ ((rc σe h3).bind fun z h => lift (cmpE o' y z h)) _ := o3
      refine tE.step p3.cs (s2.mono p2.cs p3) o3 fun z A4 h4 H4 u p4 sm4 s4 r4 o4 => ⟨F, A4, h4, y, z, p4.cs, (r2.mono p2.cs p3).mono p3.cs p4, r4, ?_⟩
      refine Ou.lift (Ou.imp o4 fun z A5 h5 H5 p5 sm5 o5 v rv => ?_)
      obtain ⟨k, e, q⟩ := bool_at p5.cs sm5 rv o5
      exact ⟨k, e, fun _ => q⟩
theorem truth_of {F : Addr → Prop} {A : List Addr} {h : Hs} {H : Hp} {x : Ev} {v : V} {k : Bool} (c : Cs X.K F A h H) (r : RV X.K F A h H x v) (e : truth x h = some k) : TruV X.K v H k := by
  have emp : ∀ {L : Addr → Prop} {vs : List V} {xs : List Dt}, RDs X.K H L vs xs → (!xs.isEmpty) = !vs.isEmpty := fun k => by cases k <;> rfl
  have empk : ∀ {L : Addr → Prop} {vs : List (Key × V)} {xs : List (Dt × Dt)}, RDk X.K H L vs xs → (!xs.isEmpty) = !vs.isEmpty := fun k => by cases k <;> rfl
  cases x with
  | d y =>
    cases y with
    | none => cases e; have := RD.none_ r; subst this; rfl
    | bool b => cases e; have := RD.bool_ r; subst this; rfl
    | int i => cases e; have := RD.int_ r; subst this; rfl
    | str z =>
      have := RD.str_ r
      subst this
      simp only [truth] at e
      split at e
      · rename_i hz
        cases e
        refine ⟨hz, ?_⟩
        rw [Bool.eq_iff_iff]
        simp
      · cases e
    | list xs =>
      cases e
      obtain ⟨p, vs, rfl, h1, _, k⟩ := RD.list_ r
      exact .inl ⟨vs, SqL.of h1, emp k⟩
    | tuple xs =>
      cases e
      obtain ⟨p, vs, rfl, h1, k⟩ := RD.tuple_ r
      exact .inr (.inl ⟨vs, h1, emp k⟩)
    | dict _ => cases e
  | r n =>
    simp only [truth] at e
    split at e
    · rename_i xs hn
      cases e
      obtain ⟨p, _, rfl, vs, h1, k⟩ := r.cell c hn
      exact .inl ⟨vs, SqL.of h1, emp k⟩
    · rename_i kvs hn
      cases e
      obtain ⟨p, _, rfl, vs, h1, k⟩ := r.cell c hn
      refine .inr (.inr ⟨vs, h1, ?_⟩)
      rw [← empk k]
      cases kvs <;> rfl
    · cases e
theorem t_val (ha : PE X a (tE mg X.K W ra)) (he : ∀ whole, isTrue a X.env whole = (do let v ← whole; standAt a.pos; holding [v] (truthy v))) :
    PT X a (tT mg X.K W fun σ h => (ra σ h).bind fun v h => match truth v h with
      | some k => .ok k h
      | none => .bad) :=
  pt_imps (pt_truth ha he) fun σ H Q ⟨F, A, σe, h, c, s, o⟩ sm => tE.step c s o fun x A1 h1 H1 v p1 sm1 s1 r1 o1 => by
    cases e : truth x h1 with
    | none => rw [e] at o1; exact o1.elim
    | some k =>
      rw [e] at o1
      exact ⟨k, truth_of p1.cs r1 e, fun _ => Ou.here p1.cs sm1 o1⟩
/-! ### calls of built-ins -/
theorem s_call {f : Expr} {g : List Ev → Hs → Option (Ev × Hs)} {rs : TR (List Ev)} (p : PE X f (tCB (rA X.K g) (tA mg X.K W rs))) : PE X f (tE mg X.K W fun σ h => (rs σ h).bind fun vs h => lift (g vs h)) :=
  pe_imps p fun σ H Q ⟨F, A, σe, h, c, s, o⟩ sm => tA.step c s o fun x A1 h1 H1 v p1 sm1 s1 r1 o1 => ⟨F, A1, h1, x, p1.cs, r1, (Ou.lift o1).hsm⟩
/-! ### list(range(..)) -/
theorem rgs {K : PySem.W.Frag} {H : Hp} {L : Addr → Prop} (i j : Int) : RDs K H L (rgV i j) (rngOf i j) := by
  unfold rgV rngOf
  generalize (j - i).toNat = n
  have : ∀ l : List Nat, RDs K H L (l.map fun k => V.int (i + (k : Nat))) (l.map fun k => PyData.int (i + (k : Nat))) := fun l => by
    induction l with
    | nil => exact .nil
    | cons x r ih => exact .cons (.int _) ih
  exact this _
theorem s_lrg1 {p p2 pos2 : Pos} (mk : Bool) (hc : X.calm = true) (hg : Gl X "list") (hm : X.mg "list" = none) (hg2 : Gl X "range") (hm2 : X.mg "range" = none) (na : starEach [a] X.env = (false, eval a X.env) :: starEach [] X.env) (ha : PE X a (tE mg X.K W ra)) :
    PE X (.Call (.Name "list" p) [.Call (.Name "range" p2) [a] [] pos2] [] pos) (tE mg X.K W fun σ h => ((ra σ h).bind fun v h => (R.ok [] h : R (List Ev)).bind fun vs h => .ok (v :: vs) h).bind fun vs h => lift (bf mk .lrange vs h)) := by
  refine pe_imps (pe_listRg hc hg hm (prg_1 hg2 hm2 ha na)) fun σ H Q ⟨F, A, σe, h, c, s, o⟩ sm => tE.step c s (Ou.bind o) fun x A1 h1 H1 v p1 sm1 s1 r1 o1 => ?_
  have q := Ou.lift (Ou.here p1.cs sm1 o1)
  simp only [bf] at q
  cases x with
  | r n => exact q.elim
  | d y =>
    cases y with
    | int j =>
      simp only [rngD] at q
      split at q
      · rename_i xs e
        split at e
        · rename_i hj
          cases e
          refine ⟨j, RD.int_ r1, ⟨by omega, by omega, hj.1, hj.2.1, ?_⟩, fun p hp sm' => ?_⟩
          · have := hj.2.2; rw [sizeLine_eq] at this; simpa using this
          · exact Ov.newL p1.cs q hp (rgs 0 j) sm'
        · cases e
      · exact q.elim
    | _ => exact q.elim
theorem s_lrg2 {p p2 pos2 : Pos} (mk : Bool) (hc : X.calm = true) (hg : Gl X "list") (hm : X.mg "list" = none) (hg2 : Gl X "range") (hm2 : X.mg "range" = none) (na : starEach [a, b] X.env = (false, eval a X.env) :: starEach [b] X.env)
    (nb : starEach [b] X.env = (false, eval b X.env) :: starEach [] X.env) (hp : (backTo pos2 (starEach [b] X.env)).any (·.1) = false) (ha : PE X a (tE mg X.K W ra)) (hb : PE X b (tE mg X.K W rb)) :
    PE X (.Call (.Name "list" p) [.Call (.Name "range" p2) [a, b] [] pos2] [] pos) (tE mg X.K W fun σ h => ((ra σ h).bind fun v h => ((rb σ h).bind fun v h => (R.ok [] h : R (List Ev)).bind fun vs h => .ok (v :: vs) h).bind fun vs h => .ok (v :: vs) h).bind fun vs h => lift (bf mk .lrange vs h)) := by
  refine pe_imps (pe_listRg hc hg hm (prg_2 hg2 hm2 ha hb na nb hp)) fun σ H Q ⟨F, A, σe, h, c, s, o⟩ sm => tE.step c s (Ou.bind o) fun x A1 h1 H1 v p1 sm1 s1 r1 o1 => tE.step p1.cs s1 (Ou.bind o1) fun y A2 h2 H2 w p2 sm2 s2 r2 o2 => ?_
  have q := Ou.lift (Ou.here p2.cs sm2 (Ou.here p2.cs sm2 o2))
  simp only [bf] at q
  cases x with
  | r n =>
    cases y with
    | r m => exact q.elim
    | d y => cases y <;> exact q.elim
  | d x =>
    cases y with
    | r m => cases x <;> exact q.elim
    | d y =>
      cases x <;> try exact q.elim
      rename_i i
      cases y <;> try exact q.elim
      rename_i j
      simp only [rngD] at q
      split at q
      · rename_i xs e
        split at e
        · rename_i hj
          cases e
          have r1' := r1.mono p1.cs p2
          refine ⟨i, j, RD.int_ r1, RD.int_ r2, ⟨hj.1.1, hj.1.2.1, hj.1.2.2.1, hj.1.2.2.2, ?_⟩, fun p hp sm' => ?_⟩
          · have := hj.2; rw [sizeLine_eq] at this; simpa using this
          · exact Ov.newL p2.cs q hp (rgs i j) sm'
        · cases e
      · exact q.elim
/-! ### reversed by a slice -/
end
end EV

/-! EV11: methods and dict displays, as expressions -/
namespace EV
open PySem PySem.Spec PySem.SeqAt L2
section
variable {X : Cx} {mg : Str → Option Value} {W : WX} {a b c : Expr} {ra rb rc : TR Ev} {pos : Pos}
/-! ### the methods' table -/
def MTab (X : Cx) (f : Mf) (nm : Str) : Prop := ∀ (x : Ev) (h0 : Hs) (T : String), mTy f x h0 = some T → ∃ id, MdOk T nm id ∧
  MtR X id (fun v vs H Q => ∃ F A h es, Cs X.K F A h H ∧ RV X.K F A h H x v ∧ RVs X.K F A h H es vs ∧ Ov X.K F A h H (mf f x es h) Q)
theorem MtR.sub {id : String} {r r' : V → List V → Hp → VK → Prop} (m : MtR X id r) (f : ∀ v vs H Q, r' v vs H Q → r v vs H Q) : MtR X id r' := fun pins s σ H x xs v us Q I rx rs q => m pins s σ H x xs v us Q I rx rs (f _ _ _ _ q)
theorem md_append : MdOk "list" "append" "list.append" := ⟨F.plainAttrs_list, F.slot_list_append, F.type_list_append⟩
theorem md_extend : MdOk "list" "extend" "list.extend" := ⟨F.plainAttrs_list, F.slot_list_extend, F.type_list_extend⟩
theorem md_pop : MdOk "list" "pop" "list.pop" := ⟨F.plainAttrs_list, F.slot_list_pop, F.type_list_pop⟩
theorem md_index_l : MdOk "list" "index" "list.index" := ⟨F.plainAttrs_list, F.slot_list_index, F.type_list_index⟩
theorem md_count_l : MdOk "list" "count" "list.count" := ⟨F.plainAttrs_list, F.slot_list_count, F.type_list_count⟩
theorem md_index_t : MdOk "tuple" "index" "tuple.index" := ⟨F.plainAttrs_tuple, F.slot_tuple_index, F.type_tuple_index⟩
theorem md_count_t : MdOk "tuple" "count" "tuple.count" := ⟨F.plainAttrs_tuple, F.slot_tuple_count, F.type_tuple_count⟩
theorem md_get : MdOk "dict" "get" "dict.get" := ⟨F.plainAttrs_dict, F.slot_dict_get, F.type_dict_get⟩
theorem md_update : MdOk "dict" "update" "dict.update" := ⟨F.plainAttrs_dict, F.slot_dict_update, F.type_dict_update⟩
theorem mty_cell {x : Ev} {h : Hs} {T : String} (e : tyL x h = some T) : T = "list" := by
  unfold tyL at e
  split at e
  · split at e
    · cases e; rfl
    · cases e
  · cases e
theorem tab_append : MTab X .append "append" := fun x h0 T e => by
  obtain rfl := mty_cell e
  exact ⟨_, md_append, MtR.sub m_append fun v vs H Q ⟨F, A, h, es, c, r, rs, q⟩ => ⟨F, A, h, x, es, c, r, rs, q⟩⟩
theorem tab_extend : MTab X .extend "extend" := fun x h0 T e => by
  obtain rfl := mty_cell e
  exact ⟨_, md_extend, MtR.sub m_extend fun v vs H Q ⟨F, A, h, es, c, r, rs, q⟩ => ⟨F, A, h, x, es, c, r, rs, q⟩⟩
theorem tab_pop : MTab X .pop "pop" := fun x h0 T e => by
  obtain rfl := mty_cell e
  exact ⟨_, md_pop, MtR.sub m_pop fun v vs H Q ⟨F, A, h, es, c, r, rs, q⟩ => ⟨F, A, h, x, es, c, r, rs, q⟩⟩
theorem tab_popAt : MTab X .popAt "pop" := fun x h0 T e => by
  obtain rfl := mty_cell e
  exact ⟨_, md_pop, MtR.sub m_popAt fun v vs H Q ⟨F, A, h, es, c, r, rs, q⟩ => ⟨F, A, h, x, es, c, r, rs, q⟩⟩
theorem mty_seq {x : Ev} {h : Hs} {T : String} (e : tyS x h = some T) : (T = "list" ∧ isTup x = false) ∨ (T = "tuple" ∧ isTup x = true) := by
  unfold tyS at e
  split at e
  · cases e; exact .inl ⟨rfl, rfl⟩
  · cases e; exact .inr ⟨rfl, rfl⟩
  · rename_i n1 n2
    refine .inl ⟨mty_cell e, ?_⟩
    unfold isTup
    split
    · rename_i t
      exact absurd rfl (n2 t)
    · rfl
theorem tab_index : MTab X .index "index" := fun x h0 T e => by
  rcases mty_seq e with ⟨rfl, t⟩ | ⟨rfl, t⟩
  · exact ⟨_, md_index_l, MtR.sub m_index_l fun v vs H Q ⟨F, A, h, es, c, r, rs, q⟩ => ⟨F, A, h, x, es, t, c, r, rs, q⟩⟩
  · exact ⟨_, md_index_t, MtR.sub m_index_t fun v vs H Q ⟨F, A, h, es, c, r, rs, q⟩ => ⟨F, A, h, x, es, t, c, r, rs, q⟩⟩
theorem tab_count (hu : X.A.units + 200 < cLine) : MTab X .count "count" := fun x h0 T e => by
  rcases mty_seq e with ⟨rfl, t⟩ | ⟨rfl, t⟩
  · exact ⟨_, md_count_l, MtR.sub (m_count_l hu) fun v vs H Q ⟨F, A, h, es, c, r, rs, q⟩ => ⟨F, A, h, x, es, t, c, r, rs, q⟩⟩
  · exact ⟨_, md_count_t, MtR.sub (m_count_t hu) fun v vs H Q ⟨F, A, h, es, c, r, rs, q⟩ => ⟨F, A, h, x, es, t, c, r, rs, q⟩⟩
theorem mty_dict {x : Ev} {h : Hs} {T : String} (e : tyK x h = some T) : T = "dict" := by
  unfold tyK at e
  split at e
  · split at e
    · cases e; rfl
    · cases e
  · cases e
theorem tab_get (hu : X.A.units + 200 < cLine) : MTab X .get "get" := fun x h0 T e => by
  obtain rfl := mty_dict e
  exact ⟨_, md_get, MtR.sub (m_get hu) fun v vs H Q ⟨F, A, h, es, c, r, rs, q⟩ => ⟨F, A, h, x, es, c, r, rs, q⟩⟩
theorem m_update {x : Ev} : MtR X "dict.update" (fun v vs H Q => ∃ F A h es, Cs X.K F A h H ∧ RV X.K F A h H x v ∧ RVs X.K F A h H es vs ∧ Ov X.K F A h H (mf .update x es h) Q) := by
  intro pins s σ H v xs v0 us Q I rx rs ⟨F, A, h, es, c, r, ra, q⟩
  have e0 : (∃ n m, x = .r n ∧ es = [.r m]) ∨ ¬ ∃ n m, x = .r n ∧ es = [.r m] := Classical.em _
  rcases e0 with ⟨n, m, rfl, rfl⟩ | e0
  · obtain ⟨w, rfl, r1⟩ := rvs1 ra
    simp only [mf] at q
    split at q
    · rename_i kvs lk more hn hm
      split at q
      · rename_i hc
        obtain ⟨a1, hA, rfl, vs, q1, k1⟩ := r.cell c hn
        obtain ⟨a2, hA2, rfl, q2⟩ := r1.cell c hm
        have q2' : ∃ ws, Rd H a2 (.dK ws) ∧ RDk X.K H (Gd F A h) ws (kvD more) := by
          cases lk with
          | false => obtain ⟨ws, z, k⟩ := q2; exact ⟨ws, .inl z, k⟩
          | true => obtain ⟨ws, o, z, k⟩ := q2; exact ⟨ws, .inr ⟨o, z⟩, k⟩
        obtain ⟨ws, z, k2⟩ := q2'
        have ne : a1 ≠ a2 := fun e => by
          subst e
          obtain ⟨h1, e1⟩ := List.getElem?_eq_some_iff.mp hA
          obtain ⟨h2, e2⟩ := List.getElem?_eq_some_iff.mp hA2
          exact hc.1 ((List.getElem_inj c.nd).mp (e1.trans e2.symm))
        refine mt_at mt_update I rx rs ⟨a1, a2, vs, ws, rfl, rfl, ne, q1, z, ?_, fun sm => ?_⟩
        · rw [k1.length, k2.length, kvD_length, kvD_length]; exact hc.2
        · exact q A _ (wr_dict c hA hn (RDk.merge k2 k1)) sm .non .non
      · exact q.elim
    · exact q.elim
  · have e1 : mf .update x es h = none := by
      unfold mf
      split <;> first | rfl | (rename_i hf; cases hf; done) | (exfalso; exact e0 ⟨_, _, rfl, rfl⟩)
    rw [e1] at q
    exact q.elim
theorem tab_update : MTab X .update "update" := fun x h0 T e => by
  obtain rfl := mty_dict e
  exact ⟨_, md_update, m_update⟩
theorem isTyL {K : PySem.W.Frag} {F : Addr → Prop} {A : List Addr} {h : Hs} {H : Hp} {x : Ev} {v : V} {T : String} (c : Cs K F A h H) (r : RV K F A h H x v) (e : tyL x h = some T) : IsTy K T v H := by
  cases x with
  | d y => cases e
  | r n =>
    simp only [tyL] at e
    split at e
    · rename_i hn
      cases e
      obtain ⟨a, _, rfl, vs, q1, _⟩ := r.cell c hn
      exact ⟨a, rfl, .inl ⟨rfl, vs, q1⟩⟩
    · cases e
theorem isTyS {K : PySem.W.Frag} {F : Addr → Prop} {A : List Addr} {h : Hs} {H : Hp} {x : Ev} {v : V} {T : String} (c : Cs K F A h H) (r : RV K F A h H x v) (e : tyS x h = some T) : IsTy K T v H := by
  cases x with
  | r n => exact isTyL c r e
  | d y =>
    cases y with
    | list ys =>
      cases e
      obtain ⟨a, vs, rfl, q, _⟩ := RD.list_ r
      exact ⟨a, rfl, .inl ⟨rfl, vs, q⟩⟩
    | tuple ys =>
      cases e
      have r' : RD K H (Gd F A h) v (.tuple ys) := r
      cases r' with
      | tup q k =>
        refine ⟨_, rfl, .inr (.inr ⟨rfl, ?_⟩)⟩
        rcases q with ⟨o, z1, z2, _⟩ | z
        · exact .inl ⟨o, _, z1, z2⟩
        · exact .inr ⟨_, z⟩
    | _ => cases e
theorem isTyK {K : PySem.W.Frag} {F : Addr → Prop} {A : List Addr} {h : Hs} {H : Hp} {x : Ev} {v : V} {T : String} (c : Cs K F A h H) (r : RV K F A h H x v) (e : tyK x h = some T) : IsTy K T v H := by
  cases x with
  | d y => cases e
  | r n =>
    simp only [tyK] at e
    split at e
    · rename_i lk kvs hn
      cases e
      obtain ⟨a, _, rfl, q⟩ := r.cell c hn
      cases lk with
      | false => obtain ⟨vs, z, _⟩ := q; exact ⟨a, rfl, .inr (.inl ⟨rfl, vs, .inl z⟩)⟩
      | true => obtain ⟨vs, o, z, _⟩ := q; exact ⟨a, rfl, .inr (.inl ⟨rfl, vs, .inr ⟨o, z⟩⟩)⟩
    · cases e
theorem isTy {K : PySem.W.Frag} {F : Addr → Prop} {A : List Addr} {h : Hs} {H : Hp} {f : Mf} {x : Ev} {v : V} {T : String} (c : Cs K F A h H) (r : RV K F A h H x v) (e : mTy f x h = some T) : IsTy K T v H := by
  cases f with
  | append => exact isTyL c r e
  | extend => exact isTyL c r e
  | pop => exact isTyL c r e
  | popAt => exact isTyL c r e
  | index => exact isTyS c r e
  | count => exact isTyS c r e
  | get => exact isTyK c r e
  | update => exact isTyK c r e
variable {o : Expr} {ro : TR Ev} {rs : TR (List Ev)} {es : List Expr} {nm : Str} {apos cpos : Pos} {f : Mf}
theorem s_m0 (tb : MTab X f nm) (ho : PE X o (tE mg X.K W ro)) (hbase : attributeBase o nm X.env (eval o X.env) = eval o X.env) (hline : (apos.endLine == cpos.line) = true) :
    PE X (.Call (.Attribute o nm apos) [] [] cpos) (tE mg X.K W fun σ h => (ro σ h).bind fun x h => match mTy f x h with
      | some _ => (R.ok [] h : R (List Ev)).bind fun vs h => lift (mf f x vs h)
      | none => .bad) := by
  refine pe_imps (pe_m0 ho hbase hline) fun σ H Q ⟨F, A, σe, h, c, s, o⟩ sm => tE.step c s o fun x A1 h1 H1 v p1 sm1 s1 r1 o1 => ?_
  cases e : mTy f x h1 with
  | none => rw [e] at o1; exact o1.elim
  | some T =>
    rw [e] at o1
    obtain ⟨id, md, m⟩ := tb x h1 T e
    exact ⟨T, id, _, md, isTy p1.cs r1 e, m, ⟨F, A1, h1, [], p1.cs, r1, .nil, (Ou.lift o1).hsm⟩⟩
theorem s_m {e0 : Expr} (tb : MTab X f nm) (ho : PE X o (tE mg X.K W ro)) (ha : PA X (e0 :: es) (tA mg X.K W rs)) (hbase : attributeBase o nm X.env (eval o X.env) = eval o X.env)
    (hfew : ((backTo cpos (starEach (e0 :: es) X.env)).all (fun x => !x.1) && (backToKw cpos (keywordEach [] X.env)).all (fun x => x.1.isSome)
      && decide ((e0 :: es).length + ([] : List Keyword).length + (if ([] : List Keyword).isEmpty then 0 else 1) < 30)) = true)
    (hline : (apos.endLine == cpos.line) = true) (hs : starEach (e0 :: es) X.env = (false, eval e0 X.env) :: starEach es X.env) (hp : (backTo cpos (starEach es X.env)).any (·.1) = false) :
    PE X (.Call (.Attribute o nm apos) (e0 :: es) [] cpos) (tE mg X.K W fun σ h => (ro σ h).bind fun x h => match mTy f x h with
      | some _ => (rs σ h).bind fun vs h => lift (mf f x vs h)
      | none => .bad) := by
  refine pe_imps (pe_m ho ha hbase hfew hline hs hp) fun σ H Q ⟨F, A, σe, h, c, s, o⟩ sm => tE.step c s o fun x A1 h1 H1 v p1 sm1 s1 r1 o1 => ?_
  cases e : mTy f x h1 with
  | none => rw [e] at o1; exact o1.elim
  | some T =>
    rw [e] at o1
    obtain ⟨id, md, m⟩ := tb x h1 T e
    exact ⟨T, id, _, md, isTy p1.cs r1 e, m, tA.step p1.cs s1 o1 fun ys A2 h2 H2 ws p2 sm2 s2 r2 o2 => ⟨F, A2, h2, ys, p2.cs, r1.mono p1.cs p2, r2, (Ou.lift o2).hsm⟩⟩
/-! ### displays of dicts -/
theorem Hsm.dict {K : PySem.W.Frag} {H : Hp} {p : Addr} (sm : Hsm K H) (hp : H p = none) : Hsm K (upd H p (.dK [])) := by
  refine ⟨fun a xs e => ?_, fun a xs e => ?_, fun a kvs e => ?_⟩
  · by_cases z : a = p
    · subst z; rw [upd_same] at e; cases e
    · rw [upd_ne z] at e; exact sm.lst a xs e
  · refine sm.tup a xs ?_
    rcases e with (e | ⟨o, e⟩) | e
    · by_cases z : a = p
      · subst z; rw [upd_same] at e; cases e
      · rw [upd_ne z] at e; exact .inl (.inl e)
    · by_cases z : a = p
      · subst z; rw [upd_same] at e; cases e
      · rw [upd_ne z] at e; exact .inl (.inr ⟨o, e⟩)
    · exact .inr e
  · by_cases z : a = p
    · subst z; rw [upd_same] at e; cases e; exact Nat.zero_le _
    · rw [upd_ne z] at e; exact sm.dk a kvs e
theorem new_dict {K : PySem.W.Frag} {F : Addr → Prop} {A : List Addr} {h : Hs} {H : Hp} {p : Addr} (c : Cs K F A h H) (hp : H p = none) : Po K F A h H (A ++ [p]) (h ++ [.dic false []]) (upd H p (.dK [])) :=
  Po.cell c hp ⟨[], upd_same, .nil⟩
theorem s_disp0 : PE X (.Dict [] [] pos) (tE mg X.K W fun σ h => .ok (.r h.length) (h ++ [.dic false []])) := by
  refine pe_imps pe_dnewK fun σ H Q ⟨F, A, σe, h, c, s, o⟩ sm p hp sm' => ?_
  have q := o (A ++ [p]) _ (new_dict c hp) sm' (.ref p) ⟨p, by rw [← c.len, List.getElem?_append_right (Nat.le_refl _), Nat.sub_self]; rfl, rfl⟩
  exact q
/-- pairs, one after another -/
def PPok (X : Cx) (mg : Str → Option Value) (W : WX) (pos : Pos) (keys : List (Option Expr)) (values : List Expr) (rp : TR (List (Key × Dt))) : Prop :=
  ∃ trs, PPs X pos keys values trs ∧ ∀ (σ : L2.St) (H : Hp) (Q : List (V × V) → Hp → Prop), (∃ F A σe h, Cs X.K F A h H ∧ Ss X.K F A h H σe σ ∧ Hsm X.K H ∧
    Ou mg X.K W F A h H σ (rp σe h) fun ps A' h' H' => ∀ vs : List (Key × V), RDk X.K H' (Gd F A' h') vs (kvD ps) → Q (vs.map fun kv => (kV kv.1, kv.2)) H') → tPairs trs σ H Q
theorem pp_nil : PPok X mg W pos [] [] fun _ h => .ok [] h := ⟨[], pps_nil, fun σ H Q ⟨F, A, σe, h, c, s, sm, o⟩ => Ou.here c sm o [] .nil⟩
theorem pp_cons {k v : Expr} {ks : List (Option Expr)} {vs : List Expr} {rk rv : TR Ev} {rp : TR (List (Key × Dt))} (hk : PE X k (tE mg X.K W rk)) (hv : PE X v (tE mg X.K W rv)) (hr : PPok X mg W pos ks vs rp) :
    PPok X mg W pos (some k :: ks) (v :: vs) fun σ h => (rk σ h).bind fun k h => match k with
    | .d k => match toKey k with
      | some k => (rv σ h).bind fun v h => (lift (frz v h)).bind fun d h => (rp σ h).bind fun ps h => .ok ((k, d) :: ps) h
      | none => .bad
    | _ => .bad := by
  obtain ⟨trs, hp, ht⟩ := hr
  refine ⟨_, pps_cons (pe_imps hk fun σ H Q (q : (fun σ H Q => tE mg X.K W rk σ H fun v H' => Hsm X.K H' → Q v H') σ H Q) _ => q) (pe_imps hv fun σ H Q (q : (fun σ H Q => tE mg X.K W rv σ H fun v H' => Hsm X.K H' → Q v H') σ H Q) _ => q) hp, fun σ H Q ⟨F, A, σe, h, c, s, sm, o⟩ => ?_⟩
  refine tE.step c s o fun x A1 h1 H1 v1 p1 sm1 s1 r1 o1 _ => ?_
  cases x with
  | r n => exact o1.elim
  | d x =>
    dsimp only at o1
    cases ek : toKey x with
    | none => rw [ek] at o1; exact o1.elim
    | some key =>
      rw [ek] at o1
      refine tE.step p1.cs s1 o1 fun y A2 h2 H2 v2 p2 sm2 s2 r2 o2 _ => ?_
      obtain ⟨d, h3, e3, o3⟩ := lift_bind o2
      obtain ⟨p3, rd⟩ := frz_ok p2.cs r2 e3
      have o3 := Ou.bind (Ou.later p3 o3)
      refine ht σ H2 _ ⟨F, A2, σe, h3, p3.cs, s2.mono p2.cs p3, sm2, o3.imp fun ps A4 h4 H4 p4 sm4 o4 ws k4 => ?_⟩
      have key' := RD.key (RD.mono ((p2.trans p3).stay p1.cs) r1) ek
      have q := Ou.here p4.cs sm4 o4 ((key, v2) :: ws) (.cons (RD.mono (p4.stay p3.cs) rd) k4)
      rw [RD.key r1 ek]
      exact q
theorem s_disp {ks : List (Option Expr)} {vs : List Expr} {rp : TR (List (Key × Dt))} (hp : PPok X mg W pos ks vs rp) (hall : ks.all (·.isSome) = true) (hl : ks.length = vs.length) (h0 : ks ≠ []) (h15 : ks.length ≤ 15) :
    PE X (.Dict ks vs pos) (tE mg X.K W fun σ h => (rp σ (h ++ [.dic false []])).bind fun ps h' => match h'[h.length]? with
      | some (.dic false []) => if ps.length ≤ 15 then .ok (.r h.length) (h'.set h.length (.dic false (merge [] ps))) else .bad
      | _ => .bad) := by
  obtain ⟨trs, hpp, ht⟩ := hp
  refine pe_imps (pe_disp hpp hall hl h0 h15) fun σ H Q ⟨F, A, σe, h, c, s, o⟩ sm p hp => ?_
  have po := new_dict c hp
  refine ht σ _ _ ⟨F, A ++ [p], σe, h ++ [.dic false []], po.cs, s.mono c po, sm.dict hp, (Ou.bind (Ou.later po o)).imp fun ps A1 h1 H1 p1 sm1 o1 ws k1 => ?_⟩
  have hA : A1[h.length]? = some p := by
    obtain ⟨B, e, _⟩ := p1.ext
    rw [e, List.append_assoc, ← c.len, List.getElem?_append_right (Nat.le_refl _), Nat.sub_self]
    rfl
  split at o1
  · rename_i hh
    split at o1
    · rename_i hz
      obtain ⟨us, q1, q2⟩ := p1.cs.cell _ p _ hA hh
      cases q2
      refine ⟨q1, ws, rfl, by rw [k1.length, kvD_length]; exact hz, fun sm2 => ?_⟩
      have p2 := wr_dict p1.cs hA hh (RDk.merge (kvs := []) k1 .nil)
      exact o1 A1 _ p2 sm2 (.ref p) ⟨p, hA, rfl⟩
    · exact o1.elim
  · exact o1.elim
theorem Po.dropLast {K : PySem.W.Frag} {F : Addr → Prop} {A A' : List Addr} {h h' : Hs} {H H' : Hp} (c : Cs K F A h H) (p : Po K F A h H A' h' H') (hl : h'.length = h.length + 1) : Po K F A h H A h'.dropLast H' := by
  obtain ⟨B, e, hB⟩ := p.ext
  have hB1 : B.length = 1 := by
    have h1 := p.cs.len
    have h2 := c.len
    rw [e, List.length_append] at h1
    omega
  have hn : h'.dropLast.length = h.length := by rw [List.length_dropLast]; omega
  have get : ∀ {n : Nat} {cl : Cell}, h'.dropLast[n]? = some cl → h'[n]? = some cl := fun {n cl} q => by
    rw [List.getElem?_dropLast] at q
    split at q
    · exact q
    · cases q
  have gA : ∀ {n : Nat} {a : Addr}, A[n]? = some a → A'[n]? = some a := fun {n a} q => by
    rw [e, List.getElem?_append_left (List.getElem?_eq_some_iff.mp q).1]
    exact q
  have lv : ∀ {a : Addr}, Lv A h'.dropLast a → Lv A' h' a := fun ⟨n, cl, e1, e2, e3⟩ => ⟨n, cl, gA e1, get e2, e3⟩
  have gd : ∀ {a : Addr}, Gd F A h'.dropLast a → Gd F A' h' a := fun z => z.imp id lv
  refine ⟨⟨by rw [hn]; exact c.len, c.nd, fun n a cl e1 e2 => ?_, fun a fa => ⟨(p.cs.fr a fa).1, fun z => (p.cs.fr a fa).2 (lv z)⟩⟩, ⟨[], (List.append_nil A).symm, nofun⟩, p.keep, fun a l => p.live a (lv l)⟩
  exact (p.cs.cell n a cl (gA e1) (get e2)).mono (fun b u q z => ⟨q, fun w => z (gd w)⟩) rfl
theorem mf_upd_res {x : Ev} {es : List Ev} {h h' : Hs} {r : Ev} (e : mf .update x es h = some (r, h')) : r = .d .none := by
  have e0 : (∃ n m, x = .r n ∧ es = [.r m]) ∨ ¬ ∃ n m, x = .r n ∧ es = [.r m] := Classical.em _
  rcases e0 with ⟨n, m, rfl, rfl⟩ | e0
  · simp only [mf] at e
    split at e
    · split at e
      · cases e; rfl
      · cases e
    · cases e
  · have e1 : mf .update x es h = none := by
      unfold mf
      split <;> first | rfl | (rename_i hf; cases hf; done) | (exfalso; exact e0 ⟨_, _, rfl, rfl⟩)
    rw [e1] at e
    cases e
theorem s_upd {ks : List (Option Expr)} {vs : List Expr} {dpos : Pos} {rd : TR Ev} (ho : PE X o (tE mg X.K W ro)) (hd : PE X (.Dict ks vs dpos) (tE mg X.K W rd)) (hbase : attributeBase o "update" X.env (eval o X.env) = eval o X.env) (hline : (apos.endLine == cpos.line) = true) :
    PE X (.Call (.Attribute o "update" apos) [.Dict ks vs dpos] [] cpos) (tE mg X.K W fun σ h => (ro σ h).bind fun x h => match mTy .update x h with
    | some _ => (rd σ h).bind fun y h' => (lift (mf .update x [y] h')).bind fun r h'' => .ok r (drop1 h.length h'')
    | none => .bad) := by
  refine pe_imps (pe_m ho (pa_cons hd pa_nil) hbase rfl hline rfl rfl) fun σ H Q ⟨F, A, σe, h, c, s, o⟩ sm => tE.step c s o fun x A1 h1 H1 v p1 sm1 s1 r1 o1 => ?_
  cases e : mTy .update x h1 with
  | none => rw [e] at o1; exact o1.elim
  | some T =>
    rw [e] at o1
    obtain ⟨id, md, m⟩ := tab_update x h1 T e
    refine ⟨T, id, _, md, isTy p1.cs r1 e, m, ?_⟩
    refine ⟨F, A1, σe, h1, p1.cs, s1, ?_⟩
    dsimp only at o1
    revert o1
    cases rd σe h1 with
    | bad => exact fun o => o
    | ex x h2 => exact fun o => o
    | ok y h2 =>
      intro o1 A2 H2 p2 sm2 w rw'
      have o1 : Ou mg X.K W F A1 h1 H1 σ ((lift (mf .update x [y] h2)).bind fun r h'' => .ok r (drop1 h1.length h'')) fun v A' h' H' => ∀ v', RV X.K F A' h' H' v v' → Q v' H' := o1
      obtain ⟨r, h3, e3, o3⟩ := lift_bind o1
      refine ⟨F, A2, h2, [y], p2.cs, r1.mono p1.cs p2, .cons rw' .nil, ?_⟩
      rw [e3]
      intro A3 H3 p3 sm3 v3 r3 _
      have er : r = .d .none := mf_upd_res e3
      subst er
      have e4 := RD.none_ r3
      subst e4
      have p13 := p2.trans p3
      by_cases hl : h3.length = h1.length + 1
      · have o3 := o3
        unfold drop1 at o3
        rw [if_pos hl] at o3
        exact o3 A1 H3 (Po.dropLast p1.cs p13 hl) sm3 .non .non
      · unfold drop1 at o3
        rw [if_neg hl] at o3
        exact o3 A3 H3 p13 sm3 .non .non
/-! ### xs[::-1] -/
theorem s_revL {k : Nat} {p1 p2 p3 : Pos} (mk : Bool) (ha : PE X a (tE mg X.K W ra)) : PE X (.Subscript a (.Slice none none (some (.UnaryOp .USub (.Constant (.int 1) k p1) p2)) p3) pos) (tE mg X.K W fun σ h => (ra σ h).bind fun x h => match lstOf x h with
    | some xs => lift (newL mk xs.reverse h)
    | none => .bad) := by
  refine pe_imps (pe_revL ha) fun σ H Q ⟨F, A, σe, h, c, s, o⟩ sm => tE.step c s o fun x A1 h1 H1 v p1 sm1 s1 r1 o1 => ?_
  cases e : lstOf x h1 with
  | none => rw [e] at o1; exact o1.elim
  | some xs =>
    rw [e] at o1
    obtain ⟨l, vs, rfl, q, k⟩ := r1.list_ p1.cs (lstOf_list e)
    exact ⟨l, vs, rfl, SqL.of q, fun p hp sm' => Ov.newL p1.cs (Ou.lift o1) hp k.reverse sm'⟩
end
end EV

/-! EV12: targets, iterables -/
namespace EV
open PySem PySem.Spec PySem.SeqAt L2
/-! ### what the checker sees of a place -/
structure Ctx where
  sc : Scope
  N : List Str
  own : List Str
  fs : List Str
def Ctx.loc (c : Ctx) (x : Str) : Bool := match c.sc.names.lookup x with
  | some .local => true
  | some .cell => c.own.contains x
  | _ => false
def Ctx.vis (c : Ctx) (x : Str) : Bool := match c.sc.names.lookup x with
  | some .local => true
  | some .cell => true
  | some .free => true
  | _ => false
def Ctx.glb (c : Ctx) (x : Str) : Bool := match c.sc.names.lookup x with
  | some .globalImplicit => true
  | _ => false
structure Rt (X : Cx) (c : Ctx) : Prop where
  sc : X.env.scope = c.sc
  N : X.N = c.N
  nd : X.N.Nodup
  calm : X.calm = true
  un : X.A.units + 200 < cLine
  gd : X.A.guards = some []
  own : ∀ x ∈ c.own, X.fn x = true
section
variable {X : Cx} {c : Ctx} {x : Str}
theorem Rt.loc (r : Rt X c) (h : c.loc x = true) : Loc X.env.scope x ∧ (X.fn x = true ∨ X.env.scope.names.lookup x = some .local) := by
  unfold Ctx.loc at h
  rw [r.sc]
  split at h
  · rename_i e; exact ⟨.inl e, .inr e⟩
  · rename_i e; exact ⟨.inr e, .inl (r.own x (by simpa using h))⟩
  · cases h
theorem Rt.vis (r : Rt X c) (h : c.vis x = true) : Vis X.env.scope x := by
  unfold Ctx.vis at h
  rw [r.sc]
  split at h
  · rename_i e; exact .inl e
  · rename_i e; exact .inr (.inl e)
  · rename_i e; exact .inr (.inr e)
  · cases h
theorem Rt.glb (r : Rt X c) (h : c.glb x = true) : Gl X x := by
  unfold Ctx.glb at h
  show X.env.scope.names.lookup x = _
  rw [r.sc]
  split at h
  · rename_i e; exact e
  · cases h
end
/-! ### targets -/
def tgIx : Nat → Tg → List Nat
  | 0, _ => []
  | _ + 1, .nm i => [i]
  | n + 1, .tp ts => ts.flatMap (tgIx n)
  | _, _ => []
def notStar : Expr → Bool
  | .Starred _ _ => false
  | _ => true
def chkGs (f : Tg → Expr → Bool) : List Tg → List Expr → Bool
  | [], [] => true
  | t :: ts, e :: es => notStar e && f t e && chkGs f ts es
  | _, _ => false
def chkG (c : Ctx) : Nat → Tg → Expr → Bool
  | 0, _, _ => false
  | _ + 1, .nm i, .Name x _ => decide (c.N[i]? = some x) && c.loc x
  | n + 1, .tp ts, .Tuple es _ _ => chkGs (chkG c n) ts es
  | _, _, _ => false
def Frame (ix : List Nat) (σ σ' : L2.St) : Prop := σ'.length = σ.length ∧ ∀ j, j ∉ ix → σ'[j]? = σ[j]?
theorem Frame.refl (ix : List Nat) (σ : L2.St) : Frame ix σ σ := ⟨rfl, fun _ _ => rfl⟩
theorem Frame.trans {ix ix' : List Nat} {σ σ' σ'' : L2.St} (a : Frame ix σ σ') (b : Frame ix' σ' σ'') : Frame (ix ++ ix') σ σ'' :=
  ⟨b.1.trans a.1, fun j hj => by rw [List.mem_append, not_or] at hj; rw [b.2 j hj.2, a.2 j hj.1]⟩
def gEv (K : PySem.W.Frag) (pr : Bool) (t : Dt → Sl → Option Sl) (ix : List Nat) : TG := fun v σ H Q => ∃ F A h σe σe' d, Cs K F A h H ∧ Ss K F A h H σe σ ∧ t d σe = some σe' ∧
  (RD K H (Gd F A h) v d ∨ (pr = true ∧ ∃ a b d1 d2 p, v = .ref p ∧ H p = some (.tup [a, b]) ∧ d = .tuple [d1, d2] ∧ RD K H (Gd F A h) a d1 ∧ RD K H (Gd F A h) b d2)) ∧
  ∀ σ', Ss K F A h H σe' σ' → Frame ix σ σ' → Q σ' H
def gsEv (K : PySem.W.Frag) (t : List Dt → Sl → Option Sl) (ix : List Nat) : TGs := fun vs σ H Q => ∃ F A h σe σe' ds, Cs K F A h H ∧ Ss K F A h H σe σ ∧ t ds σe = some σe' ∧ RDs K H (Gd F A h) vs ds ∧
  ∀ σ', Ss K F A h H σe' σ' → Frame ix σ σ' → Q σ' H
theorem PG.sub {X : Cx} {e : Expr} {t t' : TG} (p : PG X e t) (f : ∀ v σ H Q, t' v σ H Q → t v σ H Q) : PG X e t' := ⟨fun pins s σ H v u Q I r q => p.run pins s σ H v u Q I r (f _ _ _ _ q)⟩
theorem PGs.sub {X : Cx} {e : List Expr} {t t' : TGs} (p : PGs X e t) (f : ∀ v σ H Q, t' v σ H Q → t v σ H Q) : PGs X e t' := ⟨fun pins s σ H v u Q I r q => p.run pins s σ H v u Q I r (f _ _ _ _ q)⟩
theorem each_plain : ∀ (es : List Expr) (env : Env), es.all notStar = true → (assignEach es env).length = es.length ∧ (assignEach es env).findIdx? (·.1) = none
  | [], _, _ => ⟨rfl, rfl⟩
  | e :: es, env, h => by
    rw [List.all_cons, Bool.and_eq_true] at h
    obtain ⟨h1, h2⟩ := each_plain es env h.2
    have e1 : assignEach (e :: es) env = (false, assign e env) :: assignEach es env := by
      cases e <;> first | rfl | (cases h.1)
    rw [e1]
    exact ⟨by rw [List.length_cons, List.length_cons, h1], by rw [List.findIdx?_cons]; simp [h2]⟩
theorem each_cons {e : Expr} {es : List Expr} {env : Env} (h : notStar e = true) : assignEach (e :: es) env = (false, assign e env) :: assignEach es env := by
  cases e <;> first | rfl | (cases h)
theorem chkGs_plain {f : Tg → Expr → Bool} : ∀ {ts : List Tg} {es : List Expr}, chkGs f ts es = true → es.all notStar = true ∧ ts.length = es.length
  | [], [], _ => ⟨rfl, rfl⟩
  | [], _ :: _, h => by cases h
  | _ :: _, [], h => by cases h
  | t :: ts, e :: es, h => by
    simp only [chkGs, Bool.and_eq_true] at h
    obtain ⟨h1, h2⟩ := chkGs_plain h.2
    exact ⟨by rw [List.all_cons, h.1.1, h1]; rfl, by rw [List.length_cons, List.length_cons, h2]⟩
theorem asgs_len {f : Tg → Dt → Sl → Option Sl} : ∀ {ts : List Tg} {ds : List Dt} {σ σ' : Sl}, asgs f ts ds σ = some σ' → ts.length = ds.length
  | [], [], _, _, _ => rfl
  | [], _ :: _, _, _, h => by cases h
  | _ :: _, [], _, _, h => by cases h
  | t :: ts, d :: ds, σ, σ', h => by
    simp only [asgs] at h
    obtain ⟨σ1, _, h2⟩ := Option.bind_eq_some_iff.mp h
    rw [List.length_cons, List.length_cons, asgs_len h2]
theorem tsIx {f : Tg → List Nat} (t : Tg) (ts : List Tg) : (t :: ts).flatMap f = f t ++ ts.flatMap f := List.flatMap_cons
theorem pgs_of {X : Cx} {c : Ctx} {n : Nat} (ih : ∀ t e, chkG c n t e = true → PG X e (gEv X.K false (asgD n t) (tgIx n t))) : ∀ {ts : List Tg} {es : List Expr}, chkGs (chkG c n) ts es = true → PGs X es (gsEv X.K (asgs (asgD n) ts) (ts.flatMap (tgIx n)))
  | [], [], _ => PGs.sub pgs_nil fun vs σ H Q ⟨F, A, h, σe, σe', ds, c, s, e, k, q⟩ => by
    cases ds with
    | cons => cases e
    | nil =>
      cases e
      cases k
      exact ⟨rfl, q σ s (Frame.refl _ _)⟩
  | [], _ :: _, h => by cases h
  | _ :: _, [], h => by cases h
  | t :: ts, e :: es, h => by
    simp only [chkGs, Bool.and_eq_true] at h
    have p1 := ih t e h.1.2
    have p2 := pgs_of ih h.2
    refine PGs.sub (pgs_cons p1 p2 (by rw [each_cons h.1.1]; rfl)) fun vs σ H Q ⟨F, A, hh, σe, σe', ds, c, s, ea, k, q⟩ => ?_
    cases ds with
    | nil => cases ea
    | cons d ds =>
      simp only [asgs] at ea
      obtain ⟨σ1, ea1, ea2⟩ := Option.bind_eq_some_iff.mp ea
      cases k with
      | cons k1 k2 =>
        refine ⟨_, _, rfl, F, A, hh, σe, σ1, d, c, s, ea1, .inl k1, fun σ2 s2 f2 => ⟨F, A, hh, σ1, σe', ds, c, s2, ea2, k2, fun σ3 s3 f3 => q σ3 s3 ?_⟩⟩
        rw [tsIx]
        exact f2.trans f3
theorem pg_tp {X : Cx} {c : Ctx} {n : Nat} {pr : Bool} {ts : List Tg} {es : List Expr} {k : Nat} {pos : Pos} (rt : Rt X c) (ih : ∀ t e, chkG c n t e = true → PG X e (gEv X.K false (asgD n t) (tgIx n t))) (h : chkGs (chkG c n) ts es = true) :
    PG X (.Tuple es k pos) (gEv X.K pr (asgD (n + 1) (.tp ts)) (tgIx (n + 1) (.tp ts))) := by
  obtain ⟨h1, h2⟩ := chkGs_plain h
  obtain ⟨h3, h4⟩ := each_plain es X.env h1
  refine PG.sub (pg_tup rt.calm (pgs_of ih h) h3 h4) fun v σ H Q ⟨F, A, hh, σe, σe', d, c, s, ea, k, q⟩ => ?_
  cases d with
  | tuple ds =>
    simp only [asgD] at ea
    have hl := asgs_len ea
    rcases k with k | ⟨_, a, b, d1, d2, p, rfl, hp, ed, ra, rb⟩
    · obtain ⟨a, vs, rfl, sq, k⟩ := RD.tuple_ k
      exact ⟨a, vs, rfl, sq, by rw [k.length, ← hl, h2], F, A, hh, σe, σe', ds, c, s, ea, k, q⟩
    · cases ed
      exact ⟨p, [a, b], rfl, .inl (.inl hp), by rw [← h2, hl]; rfl, F, A, hh, σe, σe', _, c, s, ea, .cons ra (.cons rb .nil), q⟩
  | _ => cases ea
theorem pg_ok {X : Cx} {c : Ctx} (rt : Rt X c) : ∀ (n : Nat) (t : Tg) (e : Expr), chkG c n t e = true → PG X e (gEv X.K false (asgD n t) (tgIx n t)) := by
  intro n
  induction n with
  | zero => intro t e h; cases h
  | succ n ih =>
    intro t e h
    unfold chkG at h
    split at h
    · cases ‹_ = 0›
    · rename_i n' i x p hn
      cases hn
      rw [Bool.and_eq_true, decide_eq_true_eq] at h
      obtain ⟨l1, l2⟩ := rt.loc h.2
      refine PG.sub (pg_name rt.nd (by rw [rt.N]; exact h.1) l1 l2) fun v σ H Q ⟨F, A, hh, σe, σe', d, c, s, ea, k, q⟩ => ?_
      simp only [asgD] at ea
      split at ea
      · cases ea
        rcases k with k | ⟨k, _⟩
        · refine q _ (s.set (e := .d d) k i) ⟨List.length_set, fun j hj => ?_⟩
          rw [List.getElem?_set_ne]
          intro z
          subst z
          exact hj (by simp [tgIx])
        · cases k
      · cases ea
    · rename_i n' ts es k p hn
      cases hn
      exact pg_tp rt ih h
    · cases h
/-- a target of pairs -/
def isTp : Tg → Bool
  | .tp _ => true
  | _ => false
theorem pg_pr {X : Cx} {c : Ctx} (rt : Rt X c) {pr : Bool} {n : Nat} {t : Tg} {e : Expr} (h : chkG c n t e = true) (ht : pr = true → isTp t = true) : PG X e (gEv X.K pr (asgD n t) (tgIx n t)) := by
  cases pr with
  | false => exact pg_ok rt n t e h
  | true =>
    cases t with
    | tp ts =>
      cases n with
      | zero => cases h
      | succ n =>
        unfold chkG at h
        split at h
        · cases ‹_ = 0›
        · cases ‹_ = Tg.nm _›
        · rename_i n' ts' es k p hn ht'
          cases hn
          cases ht'
          exact pg_tp rt (pg_ok rt n) h
        · cases h
    | _ => cases ht rfl
end EV

/-! EV13: what a walk goes over -/
namespace EV
open PySem PySem.Spec PySem.SeqAt L2 RT RZ
section
variable {K : PySem.W.Frag} {F : Addr → Prop} {A A2 : List Addr} {h h2 : Hs} {H H2 H3 : Hp} {J : L2.It} {xs : List Dt} {g : Gu} {pr : Bool}
/-- where a walk's items come from -/
inductive Src (K : PySem.W.Frag) (F : Addr → Prop) (A : List Addr) (h : Hs) (H : Hp) : L2.It → List Dt → Gu → Bool → Prop
  | lst {x : Ev} {a : Addr} {xs : List Dt} : RV K F A h H x (.ref a) → lstOf x h = some xs → Src K F A h H (Itl K a) xs (guOf x xs) false
  | tup {a : Addr} {xs : List Dt} : RV K F A h H (.d (.tuple xs)) (.ref a) → Src K F A h H (Itt K a) xs .no false
  | rng (lo : Int) (n : Nat) : Src K F A h H (Itr lo n) ((List.range n).map fun i => .int (lo + (i : Nat))) .no false
  | rngC (lo c : Int) (n : Nat) : Src K F A h H (Itc lo c n) (rngC lo c n) .no false
  | rvl {x : Ev} {a : Addr} {xs : List Dt} : RV K F A h H x (.ref a) → lstOf x h = some xs → Src K F A h H (Itv K a xs.length) xs.reverse (guOf x xs) false
  | rvt {a : Addr} {xs : List Dt} : RV K F A h H (.d (.tuple xs)) (.ref a) → Src K F A h H (ItvT K a xs.length) xs.reverse .no false
  | enm {x : Ev} {a : Addr} {xs : List Dt} : RV K F A h H x (.ref a) → lstOf x h = some xs → Src K F A h H (Ite K a) (enumD xs) (guOf x xs) true
  | zpl {a b : Addr} {xs ys : List Dt} : RV K F A h H (.d (.list xs)) (.ref a) → RV K F A h H (.d (.list ys)) (.ref b) → Src K F A h H (Itz K a b) (zipD xs ys) .no true
  | zpt {a b : Addr} {xs ys : List Dt} : RV K F A h H (.d (.tuple xs)) (.ref a) → RV K F A h H (.d (.tuple ys)) (.ref b) → Src K F A h H (ItzT K a b) (zipD xs ys) .no true
theorem Src.mono {F' : Addr → Prop} {A' : List Addr} {H' : Hp} (m : ∀ (x : Ev) (v : V), RV K F A h H x v → RV K F' A' h H' x v) (s : Src K F A h H J xs g pr) : Src K F' A' h H' J xs g pr := by
  cases s with
  | lst r e => exact .lst (m _ _ r) e
  | tup r => exact .tup (m _ _ r)
  | rng lo n => exact .rng lo n
  | rngC lo c n => exact .rngC lo c n
  | rvl r e => exact .rvl (m _ _ r) e
  | rvt r => exact .rvt (m _ _ r)
  | enm r e => exact .enm (m _ _ r) e
  | zpl r s => exact .zpl (m _ _ r) (m _ _ s)
  | zpt r s => exact .zpt (m _ _ r) (m _ _ s)
def Yd (K : PySem.W.Frag) (F : Addr → Prop) (A : List Addr) (h : Hs) (H : Hp) (x : V) (H' : Hp) (d : Dt) (pr : Bool) : Prop :=
  (pr = false ∧ H' = H ∧ RD K H (Gd F A h) x d) ∨ (pr = true ∧ ∃ T a b d1 d2, x = .ref T ∧ H T = none ∧ H' = upd H T (.tup [a, b]) ∧ d = .tuple [d1, d2] ∧ RD K H (Gd F A h) a d1 ∧ RD K H (Gd F A h) b d2)
structure Wk (K : PySem.W.Frag) (F : Addr → Prop) (A2 : List Addr) (h2 : Hs) (H2 : Hp) (J : L2.It) (xs : List Dt) (pr : Bool) : Prop where
  go : ∀ i, i < xs.length → J.go i H2
  stop : J.stop xs.length H2
  yld : ∀ i x H3 d, xs[i]? = some d → J.yld i H2 x H3 → Yd K F A2 h2 H2 x H3 d pr
/-- a later state, as far as data and cells go -/
structure Pw (K : PySem.W.Frag) (F : Addr → Prop) (A : List Addr) (h : Hs) (H : Hp) (A' : List Addr) (h' : Hs) (H' : Hp) : Prop where
  cs : Cs K F A' h' H'
  ext : ∃ B, A' = A ++ B
  stay : Stay H (Gd F A h) H' (Gd F A' h')
theorem Po.pw (c : Cs K F A h H) (p : Po K F A h H A2 h2 H2) : Pw K F A h H A2 h2 H2 := ⟨p.cs, p.ext.imp fun _ z => z.1, p.stay c⟩
theorem Pw.trans {A3 : List Addr} {h3 : Hs} (p : Pw K F A h H A2 h2 H2) (q : Pw K F A2 h2 H2 A3 h3 H3) : Pw K F A h H A3 h3 H3 := by
  obtain ⟨B, e⟩ := p.ext
  obtain ⟨B', e'⟩ := q.ext
  exact ⟨q.cs, ⟨B ++ B', by rw [e', e, List.append_assoc]⟩, fun a o e1 n1 => let ⟨e2, n2⟩ := p.stay a o e1 n1; q.stay a o e2 n2⟩
theorem RV.pw (p : Pw K F A h H A2 h2 H2) : ∀ {e : Ev} {v : V}, RV K F A h H e v → RV K F A2 h2 H2 e v
  | .d x, v, r => RD.mono p.stay r
  | .r n, v, r => by
    obtain ⟨a, e, rfl⟩ := r
    obtain ⟨B, rfl⟩ := p.ext
    refine ⟨a, ?_, rfl⟩
    rw [List.getElem?_append_left (List.getElem?_eq_some_iff.mp e).1]
    exact e
theorem Ss.pw {σe : Sl} {σ : L2.St} (p : Pw K F A h H A2 h2 H2) (s : Ss K F A h H σe σ) : Ss K F A2 h2 H2 σe σ := ⟨s.len, fun i e q => by
  obtain ⟨v, q1, q2⟩ := s.at_ i e q
  exact ⟨v, q1, RV.pw p q2⟩⟩
theorem src_l {x : Ev} {a : Addr} (r : RV K F A h H x (.ref a)) (e : lstOf x h = some xs) (p : Pw K F A h H A2 h2 H2) (gk : guOk (guOf x xs) h2 = true) :
    ∃ vs, H2 a = some (.lst vs) ∧ RDs K H2 (Gd F A2 h2) vs xs := by
  cases x with
  | d y =>
    cases y with
    | list ys =>
      cases e
      obtain ⟨b, vs, eb, q, n, k⟩ := RD.list_ r
      cases eb
      exact ⟨vs, (p.stay _ _ q n).1, RDs.mono p.stay k⟩
    | _ => cases e
  | r n =>
    obtain ⟨b, hA, eb⟩ := RV.pw p r
    cases eb
    simp only [guOf, guOk] at gk
    split at gk
    · rename_i ys hh
      obtain ⟨vs, q, k⟩ := p.cs.cell n a _ hA hh
      rw [← eqbs_eq gk] at k
      exact ⟨vs, q, k⟩
    · cases gk
theorem src_t {a : Addr} (r : RV K F A h H (.d (.tuple xs)) (.ref a)) (p : Pw K F A h H A2 h2 H2) : ∃ vs, SqT K H2 a vs ∧ RDs K H2 (Gd F A2 h2) vs xs := by
  obtain ⟨b, vs, eb, q, k⟩ := RD.tuple_ (RD.mono p.stay r)
  cases eb
  exact ⟨vs, q, k⟩
theorem rds_at {L : Addr → Prop} {vs : List V} {i : Nat} {d : Dt} {x : V} (k : RDs K H L vs xs) (e : xs[i]? = some d) (ex : vs[i]? = some x) : RD K H L x d := by
  obtain ⟨w, e1, r⟩ := k.get e
  rw [ex] at e1
  cases e1
  exact r
theorem enumD_at {i : Nat} {d : Dt} (e : (enumD xs)[i]? = some d) : ∃ y, xs[i]? = some y ∧ d = .tuple [.int (i : Nat), y] := by
  unfold enumD at e
  rw [List.getElem?_map, List.getElem?_zipIdx] at e
  cases q : xs[i]? with
  | none => rw [q] at e; cases e
  | some y =>
    rw [q] at e
    simp at e
    exact ⟨y, rfl, e.symm⟩
theorem zipD_at {ys : List Dt} {i : Nat} {d : Dt} (e : (zipD xs ys)[i]? = some d) : ∃ x y, xs[i]? = some x ∧ ys[i]? = some y ∧ d = .tuple [x, y] := by
  unfold zipD at e
  rw [List.getElem?_map] at e
  cases q : (xs.zip ys)[i]? with
  | none => rw [q] at e; cases e
  | some p =>
    rw [q] at e
    have := List.getElem?_zip_eq_some.mp q
    cases e
    exact ⟨p.1, p.2, this.1, this.2, rfl⟩
theorem Src.wk (s : Src K F A h H J xs g pr) (p : Pw K F A h H A2 h2 H2) (gk : guOk g h2 = true) : Wk K F A2 h2 H2 J xs pr := by
  cases s with
  | @lst x a xs r e =>
    obtain ⟨vs, q, k⟩ := src_l r e p gk
    have w := walk_list (K := K) (xs := vs) (a := a)
    refine ⟨fun i hi => w.goes i H2 (by rw [k.length]; exact hi) (SqL.of q), by rw [← k.length]; exact w.stops H2 (SqL.of q), fun i x H3 d e y => ?_⟩
    have hi := (List.getElem?_eq_some_iff.mp e).1
    obtain ⟨e1, e2⟩ := w.yields i H2 x H3 (by rw [k.length]; exact hi) (SqL.of q) y
    exact .inl ⟨rfl, e1, rds_at k e e2⟩
  | @tup a xs r =>
    obtain ⟨vs, q, k⟩ := src_t r p
    have w := walk_tup (K := K) (xs := vs) (a := a)
    refine ⟨fun i hi => w.goes i H2 (by rw [k.length]; exact hi) q, by rw [← k.length]; exact w.stops H2 q, fun i x H3 d e y => ?_⟩
    have hi := (List.getElem?_eq_some_iff.mp e).1
    obtain ⟨e1, e2⟩ := w.yields i H2 x H3 (by rw [k.length]; exact hi) q y
    exact .inl ⟨rfl, e1, rds_at k e e2⟩
  | rng lo n =>
    have w := walk_range (lo := lo) (n := n)
    refine ⟨fun i hi => w.goes i H2 (by simpa using hi) trivial, by simpa using w.stops H2 trivial, fun i x H3 d e y => ?_⟩
    have hi := (List.getElem?_eq_some_iff.mp e).1
    obtain ⟨e1, e2⟩ := w.yields i H2 x H3 (by simpa using hi) trivial y
    have hi' : i < n := by simpa using hi
    rw [List.getElem?_map, List.getElem?_range hi'] at e
    cases e
    rw [e2]
    exact .inl ⟨rfl, e1, .int _⟩
  | rngC lo cc n =>
    have w := walk_rangeC (lo := lo) (c := cc) (n := n)
    unfold EV.rngC
    refine ⟨fun i hi => w.goes i H2 (by simpa using hi) trivial, by simpa using w.stops H2 trivial, fun i x H3 d e y => ?_⟩
    have hi := (List.getElem?_eq_some_iff.mp e).1
    obtain ⟨e1, e2⟩ := w.yields i H2 x H3 (by simpa using hi) trivial y
    have hi' : i < n := by simpa using hi
    rw [List.getElem?_map, List.getElem?_range hi'] at e
    cases e
    rw [e2]
    exact .inl ⟨rfl, e1, .int _⟩
  | @rvl x a ys r e =>
    obtain ⟨vs, q, k⟩ := src_l r e p gk
    have w := walk_rev (K := K) (xs := vs) (a := a)
    rw [k.length] at w
    refine ⟨fun i hi => w.goes i H2 (by simpa using hi) (SqL.of q), by simpa using w.stops H2 (SqL.of q), fun i x H3 d e y => ?_⟩
    have hi : i < ys.length := by simpa using (List.getElem?_eq_some_iff.mp e).1
    obtain ⟨e1, e2⟩ := w.yields i H2 x H3 hi (SqL.of q) y
    rw [List.getElem?_reverse hi] at e
    exact .inl ⟨rfl, e1, rds_at k e e2⟩
  | @rvt a ys r =>
    obtain ⟨vs, q, k⟩ := src_t r p
    have hl := k.length
    refine ⟨fun i hi => ?_, ?_, fun i x H3 d e y => ?_⟩
    · have hi : i < ys.length := by simpa using hi
      have hj : ys.length - 1 - i < vs.length := by omega
      exact ⟨hi, vs, vs[ys.length - 1 - i], q, List.getElem?_eq_getElem hj⟩
    · show ys.length ≤ ys.reverse.length
      simp
    · have hi : i < ys.length := by simpa using (List.getElem?_eq_some_iff.mp e).1
      rw [List.getElem?_reverse hi] at e
      exact .inl ⟨rfl, y.1, rds_at k e (y.2 vs q)⟩
  | @enm x a ys r e =>
    obtain ⟨vs, q, k⟩ := src_l r e p gk
    have w := walk_enum (K := K) (xs := vs) (a := a)
    have hl : (enumD ys).length = vs.length := by simp [enumD, k.length]
    refine ⟨fun i hi => w.goes i H2 (by rw [← hl]; exact hi) (SqL.of q), by rw [hl]; exact w.stops H2 (SqL.of q), fun i x H3 d e y => ?_⟩
    have hi := (List.getElem?_eq_some_iff.mp e).1
    obtain ⟨T, a1, b1, e1, e2, e3, e4, e5⟩ := w.yields i H2 x H3 (by rw [← hl]; exact hi) (SqL.of q) y
    obtain ⟨d1, e6, e7⟩ := enumD_at e
    cases e4
    exact .inr ⟨rfl, T, _, b1, _, d1, e1, e2, e3, e7, .int _, rds_at k e6 e5⟩
  | @zpl a b xs1 ys1 r s =>
    obtain ⟨_, vs, ea, q1, n1, k1⟩ := RD.list_ (RD.mono p.stay r)
    obtain ⟨_, ws, eb, q2, n2, k2⟩ := RD.list_ (RD.mono p.stay s)
    cases ea
    cases eb
    have hl : (zipD xs1 ys1).length = min vs.length ws.length := by simp [zipD, k1.length, k2.length]
    have w := walk_zip (K := K) (a := a) (b := b) (xs := vs) (ys := ws) hl
    refine ⟨fun i hi => w.goes i H2 hi ⟨SqL.of q1, SqL.of q2⟩, w.stops H2 ⟨SqL.of q1, SqL.of q2⟩, fun i x H3 d e y => ?_⟩
    have hi := (List.getElem?_eq_some_iff.mp e).1
    obtain ⟨T, a1, b1, e1, e2, e3, e4, e5⟩ := w.yields i H2 x H3 hi ⟨SqL.of q1, SqL.of q2⟩ y
    obtain ⟨d1, d2, e6, e7, e8⟩ := zipD_at e
    exact .inr ⟨rfl, T, a1, b1, d1, d2, e1, e2, e3, e8, rds_at k1 e6 e4, rds_at k2 e7 e5⟩
  | @zpt a b xs1 ys1 r s =>
    obtain ⟨vs, q1, k1⟩ := src_t r p
    obtain ⟨ws, q2, k2⟩ := src_t s p
    have hl : (zipD xs1 ys1).length = min vs.length ws.length := by simp [zipD, k1.length, k2.length]
    refine ⟨fun i hi => ?_, ⟨vs, ws, q1, q2, by omega⟩, fun i x H3 d e y => ?_⟩
    · have h1 : i < vs.length := by omega
      have h2 : i < ws.length := by omega
      exact ⟨vs, ws, vs[i], ws[i], q1, q2, by simp [h1], by simp [h2]⟩
    · obtain ⟨T, a1, b1, e1, e2, e3, e4, e5⟩ := y
      obtain ⟨d1, d2, e6, e7, e8⟩ := zipD_at e
      exact .inr ⟨rfl, T, a1, b1, d1, d2, e1, e2, e3, e8, rds_at k1 e6 (e4 vs q1), rds_at k2 e7 (e5 ws q2)⟩
end
def iEv (mg : Str → Option Value) (K : PySem.W.Frag) (W : WX) (pr : Bool) (r : TR (List Dt × Gu)) : TI := fun σ H R => ∃ F A σe h, Cs K F A h H ∧ Ss K F A h H σe σ ∧ Ou mg K W F A h H σ (r σe h) fun p A' h' H' => ∀ J, Src K F A' h' H' J p.1 p.2 pr → R J H'
theorem pi_imps {X : Cx} {tg e : Expr} {t t' : TI} (p : PI X tg e t) (f : ∀ σ H R, t' σ H R → Hsm X.K H → t σ H (fun J H' => Hsm X.K H' → R J H')) : PI X tg e t' :=
  ⟨fun pins s σ H R I q => thn (p.run pins s σ H _ I (f σ H R q (Hsm.of I))) fun _ _ k => thn k fun _ _ ⟨it, fp, tn, J, H', e1, I', T, t0, f0, r⟩ => ⟨it, fp, tn, J, H', e1, I', T, t0, f0, r (Hsm.of I')⟩⟩
section
variable {X : Cx} {mg : Str → Option Value} {W : WX} {tg a b : Expr} {ra rb : TR Ev} {rs : TR (List Ev)} {es : List Expr} {p pos tpos : Pos} {elts : List Expr} {kk : Nat}
/-- a list or a tuple, seen when it has come -/
theorem pi_seq {tl : TE} (hl : PE X a tl) : PI X tg a (fun σ H R => tl σ H fun x H1 => ∃ l, x = .ref l ∧ ((∃ xs, SqL X.K H1 l xs ∧ R (Itl X.K l) H1) ∨ ∃ xs, SqT X.K H1 l xs ∧ R (Itt X.K l) H1)) := by
  refine ⟨fun pins s σ H R I h => ?_⟩
  refine thn (hl.run pins s σ H _ I h) fun v s1 ⟨x, H1, I1, r1, l, e, q1⟩ => ?_
  subst e
  cases r1
  rcases q1 with ⟨xs, hq, q⟩ | ⟨xs, hq, q⟩
  · obtain ⟨its, rv, pl, hz⟩ := I1.list hq
    refine wpAny_pyIter_list pl.isList ?_
    refine ⟨s1.heap.objs.size, [s1.heap.objs.size], _, _, H1, rfl, I1.kept (t' := s1.toks) fun b o e => Heap.get?_push_of_some _ e, turn_list l _, ⟨_, Heap.get?_push_size _ rfl, rfl, rfl⟩, fun b hb => ?_, q⟩
    have e : b = s1.heap.objs.size := by simpa using hb
    subst e
    exact I1.fpOk (Nat.le_refl _) (I1.hok.fresh (Nat.le_refl _))
  · obtain ⟨its, rv, pl, hz⟩ := I1.tuple hq
    refine wpAny_pyIter_tuple (show s1.heap.IsTuple l its.toArray from pl) ?_
    refine ⟨s1.heap.objs.size, [s1.heap.objs.size], _, _, H1, rfl, I1.kept (t' := s1.toks) fun b o e => Heap.get?_push_of_some _ e, turn_tuple l _, ⟨_, Heap.get?_push_size _ rfl, rfl, rfl⟩, fun b hb => ?_, q⟩
    have e : b = s1.heap.objs.size := by simpa using hb
    subst e
    exact I1.fpOk (Nat.le_refl _) (I1.hok.fresh (Nat.le_refl _))
theorem seq_case {h : Hs} {x : Ev} {xs : List Dt} (e : seqOf x h = some xs) : lstOf x h = some xs ∨ x = .d (.tuple xs) := by
  cases x with
  | d y =>
    cases y with
    | list ys => exact .inl e
    | tuple ys => cases e; exact .inr rfl
    | _ => cases e
  | r n => exact .inl e
theorem i_val (ha : PE X a (tE mg X.K W ra)) : PI X tg a (iEv mg X.K W false fun σ h => (ra σ h).bind fun v h => match seqOf v h with
    | some xs => .ok (xs, guOf v xs) h
    | none => .bad) := by
  refine pi_imps (pi_seq ha) fun σ H R ⟨F, A, σe, h, c, s, o⟩ sm => tE.step c s o fun x A1 h1 H1 v p1 sm1 s1 r1 o1 => ?_
  cases e : seqOf x h1 with
  | none => rw [e] at o1; exact o1.elim
  | some xs =>
    rw [e] at o1
    have q := Ou.here p1.cs sm1 o1
    rcases seq_case e with e1 | rfl
    · obtain ⟨l, vs, rfl, q1, k⟩ := r1.list_ p1.cs (lstOf_list e1)
      exact ⟨l, rfl, .inl ⟨vs, SqL.of q1, fun _ => q _ (.lst r1 e1)⟩⟩
    · obtain ⟨l, vs, rfl, q1, k⟩ := RD.tuple_ r1
      exact ⟨l, rfl, .inr ⟨vs, q1, fun _ => q _ (.tup r1)⟩⟩
theorem i_enm (hg : Gl X "enumerate") (hm : X.mg "enumerate" = none) (ha : PE X a (tE mg X.K W ra)) (hs : starEach [a] X.env = [(false, eval a X.env)]) :
    PI X (.Tuple elts kk tpos) (.Call (.Name "enumerate" p) [a] [] pos) (iEv mg X.K W true fun σ h => (ra σ h).bind fun v h => match lstOf v h with
    | some xs => .ok (enumD xs, guOf v xs) h
    | none => .bad) := by
  refine pi_imps (pi_enum hg hm (pa_cons ha pa_nil hs) hs) fun σ H R ⟨F, A, σe, h, c, s, o⟩ sm => tE.step c s o fun x A1 h1 H1 v p1 sm1 s1 r1 o1 => ?_
  cases e : lstOf x h1 with
  | none => rw [e] at o1; exact o1.elim
  | some xs =>
    rw [e] at o1
    have q := Ou.here p1.cs sm1 o1
    obtain ⟨l, vs, rfl, q1, k⟩ := r1.list_ p1.cs (lstOf_list e)
    exact ⟨l, vs, rfl, SqL.of q1, fun _ => q _ (.enm r1 e)⟩
theorem i_rvs (hg : Gl X "reversed") (hm : X.mg "reversed" = none) (ha : PE X a (tE mg X.K W ra)) (hs : starEach [a] X.env = [(false, eval a X.env)]) :
    PI X tg (.Call (.Name "reversed" p) [a] [] pos) (iEv mg X.K W false fun σ h => (ra σ h).bind fun v h => match seqOf v h with
    | some xs => .ok (xs.reverse, guOf v xs) h
    | none => .bad) := by
  refine pi_imps (pi_revA hg hm ha hs) fun σ H R ⟨F, A, σe, h, c, s, o⟩ sm => tE.step c s o fun x A1 h1 H1 v p1 sm1 s1 r1 o1 => ?_
  cases e : seqOf x h1 with
  | none => rw [e] at o1; exact o1.elim
  | some xs =>
    rw [e] at o1
    have q := Ou.here p1.cs sm1 o1
    rcases seq_case e with e1 | rfl
    · obtain ⟨l, vs, rfl, q1, k⟩ := r1.list_ p1.cs (lstOf_list e1)
      refine ⟨l, vs, rfl, .inl ⟨SqL.of q1, fun _ => ?_⟩⟩
      rw [k.length]
      exact q _ (.rvl r1 e1)
    · obtain ⟨l, vs, rfl, q1, k⟩ := RD.tuple_ r1
      refine ⟨l, vs, rfl, .inr ⟨q1, fun _ => ?_⟩⟩
      rw [k.length]
      exact q _ (.rvt r1)
theorem i_zip (hg : Gl X "zip") (hm : X.mg "zip" = none) (ha : PE X a (tE mg X.K W ra)) (hb : PE X b (tE mg X.K W rb)) (hs : starEach [a, b] X.env = (false, eval a X.env) :: starEach [b] X.env) (hs2 : starEach [b] X.env = [(false, eval b X.env)]) :
    PI X (.Tuple elts kk tpos) (.Call (.Name "zip" p) [a, b] [] pos) (iEv mg X.K W true fun σ h => (ra σ h).bind fun x h => (rb σ h).bind fun y h => match x, y with
    | .d (.list xs), .d (.list ys) => .ok (zipD xs ys, .no) h
    | .d (.tuple xs), .d (.tuple ys) => .ok (zipD xs ys, .no) h
    | _, _ => .bad) := by
  refine pi_imps (pi_zipA hg hm (pa_cons ha (pa_cons hb pa_nil hs2) hs) hs (by rw [hs2]; rfl)) fun σ H R ⟨F, A, σe, h, c, s, o⟩ sm => tE.step c s o fun x A1 h1 H1 v p1 sm1 s1 r1 o1 => tE.step p1.cs s1 o1 fun y A2 h2 H2 w p2 sm2 s2 r2 o2 => ?_
  have r1' := r1.mono p1.cs p2
  split at o2
  · have q := Ou.here p2.cs sm2 o2
    obtain ⟨l, vs, rfl, q1, _, k⟩ := RD.list_ r1'
    obtain ⟨l2, ws, rfl, q2, _, k2⟩ := RD.list_ r2
    exact ⟨l, l2, vs, ws, rfl, .inl ⟨SqL.of q1, SqL.of q2, fun _ => q _ (.zpl r1' r2)⟩⟩
  · have q := Ou.here p2.cs sm2 o2
    obtain ⟨l, vs, rfl, q1, k⟩ := RD.tuple_ r1'
    obtain ⟨l2, ws, rfl, q2, k2⟩ := RD.tuple_ r2
    exact ⟨l, l2, vs, ws, rfl, .inr ⟨q1, q2, fun _ => q _ (.zpt r1' r2)⟩⟩
  · exact o2.elim
theorem rngD1 {x : Ev} {xs : List Dt} (e : rngD [x] = some xs) : ∃ j : Int, x = .d (.int j) ∧ -(2 ^ 62) ≤ j ∧ j < 2 ^ 62 ∧ xs = rngOf 0 j := by
  unfold rngD at e
  split at e
  · split at e
    · rename_i j h0 hc
      cases e
      cases h0
      exact ⟨j, rfl, hc.1, hc.2.1, rfl⟩
    · cases e
  · cases ‹[x] = _›
  · cases ‹[x] = _›
  · cases e
theorem rngD2 {x y : Ev} {xs : List Dt} (e : rngD [x, y] = some xs) : ∃ i j : Int, x = .d (.int i) ∧ y = .d (.int j) ∧ (-(2 ^ 62) ≤ i ∧ i < 2 ^ 62 ∧ -(2 ^ 62) ≤ j ∧ j < 2 ^ 62) ∧ xs = rngOf i j := by
  unfold rngD at e
  split at e
  · cases ‹[x, y] = _›
  · split at e
    · rename_i i j h0 hc
      cases e
      cases h0
      exact ⟨i, j, rfl, rfl, hc.1, rfl⟩
    · cases e
  · cases ‹[x, y] = _›
  · cases e
theorem rngD3 {x y z : Ev} {xs : List Dt} (e : rngD [x, y, z] = some xs) : ∃ i j k : Int, x = .d (.int i) ∧ y = .d (.int j) ∧ z = .d (.int k) ∧ RgC i j k (Builtin.Range.rangeSize i j k).toNat ∧ xs = rngC i k (Builtin.Range.rangeSize i j k).toNat := by
  unfold rngD at e
  split at e
  · cases ‹[x, y, z] = _›
  · cases ‹[x, y, z] = _›
  · split at e
    · rename_i i j k h0 hc
      cases e
      cases h0
      exact ⟨i, j, k, rfl, rfl, rfl, ⟨hc.1.1, hc.1.2.1, hc.1.2.2, by omega⟩, rfl⟩
    · cases e
  · cases e
theorem i_rng1 (hg : Gl X "range") (hm : X.mg "range" = none) (ha : PE X a (tE mg X.K W ra)) (hs : starEach [a] X.env = [(false, eval a X.env)]) :
    PI X tg (.Call (.Name "range" p) [a] [] pos) (iEv mg X.K W false fun σ h => ((ra σ h).bind fun v h => (R.ok [] h : R (List Ev)).bind fun vs h => .ok (v :: vs) h).bind fun vs h => match rngD vs with
    | some xs => .ok (xs, .no) h
    | none => .bad) := by
  refine pi_imps (pi_range1 hg hm (pa_cons ha pa_nil hs) hs) fun σ H R ⟨F, A, σe, h, c, s, o⟩ sm => tE.step c s (Ou.bind o) fun x A1 h1 H1 w p1 sm1 s1 r1 o1 => ?_
  have o1 := Ou.here p1.cs sm1 o1
  cases e : rngD [x] with
  | none => rw [e] at o1; exact o1.elim
  | some xs =>
    rw [e] at o1
    have q := Ou.here p1.cs sm1 o1
    obtain ⟨j, rfl, h1, h2, rfl⟩ := rngD1 e
    have := RD.int_ r1
    subst this
    refine ⟨j, rfl, h1, h2, fun _ => q _ ?_⟩
    have := Src.rng (K := X.K) (F := F) (A := A1) (h := ‹Hs›) (H := H1) 0 j.toNat
    unfold rngOf
    rw [Int.sub_zero]
    exact .rng 0 j.toNat
theorem i_rng2 (hg : Gl X "range") (hm : X.mg "range" = none) (ha : PE X a (tE mg X.K W ra)) (hb : PE X b (tE mg X.K W rb)) (hs : starEach [a, b] X.env = (false, eval a X.env) :: starEach [b] X.env) (hs2 : starEach [b] X.env = [(false, eval b X.env)]) :
    PI X tg (.Call (.Name "range" p) [a, b] [] pos) (iEv mg X.K W false fun σ h => ((ra σ h).bind fun v h => ((rb σ h).bind fun v h => (R.ok [] h : R (List Ev)).bind fun vs h => .ok (v :: vs) h).bind fun vs h => .ok (v :: vs) h).bind fun vs h => match rngD vs with
    | some xs => .ok (xs, .no) h
    | none => .bad) := by
  refine pi_imps (pi_range2 hg hm (pa_cons ha (pa_cons hb pa_nil hs2) hs) (by rw [hs, hs2]) hs2) fun σ H R ⟨F, A, σe, h, c, s, o⟩ sm => tE.step c s (Ou.bind o) fun x A1 h1 H1 w p1 sm1 s1 r1 o1 => tE.step p1.cs s1 (Ou.bind o1) fun y A2 h2 H2 w2 p2 sm2 s2 r2 o2 => ?_
  have o2 := Ou.here p2.cs sm2 (Ou.here p2.cs sm2 o2)
  cases e : rngD [x, y] with
  | none => rw [e] at o2; exact o2.elim
  | some xs =>
    rw [e] at o2
    have q := Ou.here p2.cs sm2 o2
    obtain ⟨i, j, rfl, rfl, hc, rfl⟩ := rngD2 e
    have := RD.int_ r1
    subst this
    have := RD.int_ r2
    subst this
    exact ⟨i, j, rfl, hc, fun _ => q _ (.rng i (j - i).toNat)⟩
theorem i_rng3 {d : Expr} {rd : TR Ev} (hg : Gl X "range") (hm : X.mg "range" = none) (ha : PE X a (tE mg X.K W ra)) (hb : PE X b (tE mg X.K W rb)) (hd : PE X d (tE mg X.K W rd)) (hs : starEach [a, b, d] X.env = (false, eval a X.env) :: starEach [b, d] X.env)
    (hs2 : starEach [b, d] X.env = (false, eval b X.env) :: starEach [d] X.env) (hs3 : starEach [d] X.env = [(false, eval d X.env)]) :
    PI X tg (.Call (.Name "range" p) [a, b, d] [] pos) (iEv mg X.K W false fun σ h => ((ra σ h).bind fun v h => ((rb σ h).bind fun v h => ((rd σ h).bind fun v h => (R.ok [] h : R (List Ev)).bind fun vs h => .ok (v :: vs) h).bind fun vs h => .ok (v :: vs) h).bind fun vs h => .ok (v :: vs) h).bind fun vs h => match rngD vs with
    | some xs => .ok (xs, .no) h
    | none => .bad) := by
  refine pi_imps (pi_range3 hg hm (pa_cons ha (pa_cons hb (pa_cons hd pa_nil hs3) hs2) hs) hs (by rw [hs2, hs3]; rfl)) fun σ H R ⟨F, A, σe, h, c, s, o⟩ sm => tE.step c s (Ou.bind o) fun x A1 h1 H1 w p1 sm1 s1 r1 o1 => tE.step p1.cs s1 (Ou.bind o1) fun y A2 h2 H2 w2 p2 sm2 s2 r2 o2 =>
    tE.step p2.cs s2 (Ou.bind o2) fun z A3 h3 H3 w3 p3 sm3 s3 r3 o3 => ?_
  have o3 := Ou.here p3.cs sm3 (Ou.here p3.cs sm3 (Ou.here p3.cs sm3 o3))
  cases e : rngD [x, y, z] with
  | none => rw [e] at o3; exact o3.elim
  | some xs =>
    rw [e] at o3
    have q := Ou.here p3.cs sm3 o3
    obtain ⟨i, j, k, rfl, rfl, rfl, hc, rfl⟩ := rngD3 e
    have := RD.int_ r1
    subst this
    have := RD.int_ r2
    subst this
    have := RD.int_ r3
    subst this
    exact ⟨i, j, k, _, rfl, hc, fun _ => q _ (.rngC i k _)⟩
end
end EV

/-! EV14: comprehensions -/
namespace EV
open PySem PySem.Spec PySem.SeqAt L2
section
variable {K : PySem.W.Frag} {F : Addr → Prop} {D : Addr} {A1 A A2 : List Addr} {h1 h h2 : Hs} {H1 H H2 H3 : Hp} {acc : List Dt} {vs : List V}
def FD (F : Addr → Prop) (D : Addr) : Addr → Prop := fun a => F a ∨ a = D
structure LS (K : PySem.W.Frag) (F : Addr → Prop) (D : Addr) (A1 : List Addr) (h1 : Hs) (H1 : Hp) (A : List Addr) (h : Hs) (H : Hp) (acc : List Dt) (vs : List V) : Prop where
  cs : Cs K (FD F D) A h H
  at_ : H D = some (.lst vs)
  rel : RDs K H (Gd (FD F D) A h) vs acc
  ext : ∃ B, A = A1 ++ B ∧ ∀ a ∈ B, H1 a = none ∧ a ≠ D
  keep : ∀ a o, H1 a = some o → ¬ Lv A1 h1 a → H a = some o
  live : ∀ a, Lv A h a → Lv A1 h1 a ∨ H1 a = none
theorem FD.stay (hD : H1 D = none) {o : HO} : Stay H1 (Gd F A1 h1) (upd H1 D o) (Gd (FD F D) A1 h1) := fun a u e n => by
  refine ⟨same_upd hD a u e, fun z => ?_⟩
  rcases z with (z | z) | z
  · exact n (.inl z)
  · subst z; rw [hD] at e; cases e
  · exact n (.inr z)
theorem FD.rv (hD : H1 D = none) {o : HO} : ∀ (x : Ev) (v : V), RV K F A1 h1 H1 x v → RV K (FD F D) A1 h1 (upd H1 D o) x v
  | .d x, v, r => RD.mono (FD.stay hD) r
  | .r n, v, r => r
theorem FD.ss (hD : H1 D = none) {o : HO} {σe : Sl} {σ : L2.St} (s : Ss K F A1 h1 H1 σe σ) : Ss K (FD F D) A1 h1 (upd H1 D o) σe σ := ⟨s.len, fun i e q => by
  obtain ⟨v, q1, q2⟩ := s.at_ i e q
  exact ⟨v, q1, FD.rv hD e v q2⟩⟩
theorem FD.cs (c : Cs K F A1 h1 H1) (hD : H1 D = none) {o : HO} : Cs K (FD F D) A1 h1 (upd H1 D o) := by
  refine ⟨c.len, c.nd, fun n a cl e1 e2 => (c.cell n a cl e1 e2).mono (FD.stay hD) (upd_ne (show a ≠ D from fun z => c.there e1 (z ▸ hD))), fun a fa => ?_⟩
  rcases fa with fa | rfl
  · refine ⟨?_, (c.fr a fa).2⟩
    cases e : H1 a with
    | none => exact absurd e (c.fr a fa).1
    | some u => rw [same_upd hD a u e]; exact nofun
  · exact ⟨by rw [upd_same]; exact nofun, Lv.tr c hD⟩
theorem LS.start (c : Cs K F A1 h1 H1) (hD : H1 D = none) : LS K F D A1 h1 H1 A1 h1 (upd H1 D (.lst [])) [] [] :=
  ⟨FD.cs c hD, upd_same, .nil, ⟨[], (List.append_nil A1).symm, nofun⟩, fun a o e _ => same_upd hD a o e, fun a l => .inl l⟩
theorem LS.old (l : LS K F D A1 h1 H1 A h H acc vs) {a : Addr} (e : H a = none) : H1 a = none := by
  cases e1 : H1 a with
  | none => rfl
  | some o =>
    by_cases n : Lv A1 h1 a
    · obtain ⟨m, _, e2, _⟩ := n
      obtain ⟨B, eB, _⟩ := l.ext
      refine absurd e (l.cs.there (n := m) ?_)
      rw [eB, List.getElem?_append_left (List.getElem?_eq_some_iff.mp e2).1]
      exact e2
    · rw [l.keep a o e1 n] at e; cases e
theorem LS.step (l : LS K F D A1 h1 H1 A h H acc vs) (p : Po K (FD F D) A h H A2 h2 H2) : LS K F D A1 h1 H1 A2 h2 H2 acc vs := by
  refine ⟨p.cs, p.keep D _ l.at_ (l.cs.fr D (.inr rfl)).2, RDs.mono (p.stay l.cs) l.rel, ?_, fun a o e n => p.keep a o (l.keep a o e n) fun z => ?_, fun a z => ?_⟩
  · obtain ⟨B, e1, n1⟩ := l.ext
    obtain ⟨C, e2, n2⟩ := p.ext
    refine ⟨B ++ C, by rw [e2, e1, List.append_assoc], fun a ha => ?_⟩
    rcases List.mem_append.mp ha with z | z
    · exact n1 a z
    · exact ⟨l.old (n2 a z), fun e => by have := n2 a z; rw [e, l.at_] at this; cases this⟩
  · rcases l.live a z with z | z
    · exact n z
    · rw [e] at z; cases z
  · rcases p.live a z with z | z
    · exact l.live a z
    · exact .inr (l.old z)
theorem LS.appSt (l : LS K F D A1 h1 H1 A h H acc vs) {o : HO} : Stay H (Gd (FD F D) A h) (upd H D o) (Gd (FD F D) A h) := fun a u e n =>
  ⟨by rw [upd_ne (show a ≠ D from fun z => n (.inl (.inr z)))]; exact e, n⟩
theorem LS.app (hD : H1 D = none) (l : LS K F D A1 h1 H1 A h H acc vs) {y : V} {d : Dt} (r : RD K H (Gd (FD F D) A h) y d) : LS K F D A1 h1 H1 A h (upd H D (.lst (vs ++ [y]))) (acc ++ [d]) (vs ++ [y]) := by
  have st : Stay H (Gd (FD F D) A h) (upd H D (.lst (vs ++ [y]))) (Gd (FD F D) A h) := l.appSt
  have up : ∀ a, H a ≠ none → upd H D (.lst (vs ++ [y])) a ≠ none := fun a z => by
    by_cases e : a = D
    · rw [e, upd_same]; exact nofun
    · rw [upd_ne e]; exact z
  refine ⟨⟨l.cs.len, l.cs.nd, fun n a cl e1 e2 => ?_, fun a fa => ⟨up a (l.cs.fr a fa).1, (l.cs.fr a fa).2⟩⟩, upd_same, RDs.mono st (l.rel.append (.cons r .nil)), l.ext, fun a o e n => ?_, l.live⟩
  · by_cases hd : cl = Cell.dead
    · subst hd
      exact up a (l.cs.there e1)
    · have ne : a ≠ D := fun z => (l.cs.fr D (.inr rfl)).2 (z ▸ ⟨n, cl, e1, e2, hd⟩)
      exact (l.cs.cell n a cl e1 e2).mono st (upd_ne ne)
  · rw [upd_ne (show a ≠ D from fun z => by rw [z, hD] at e; cases e)]
    exact l.keep a o e n
theorem LS.pwApp (hD : H1 D = none) (l : LS K F D A1 h1 H1 A h H acc vs) {y : V} {d : Dt} (r : RD K H (Gd (FD F D) A h) y d) : Pw K (FD F D) A h H A h (upd H D (.lst (vs ++ [y]))) :=
  ⟨(l.app hD r).cs, ⟨[], (List.append_nil A).symm⟩, l.appSt⟩
theorem LS.stF : Stay H (Gd (FD F D) A h) H (Gd F A h) := fun a o e n => ⟨e, fun z => n (z.imp .inl id)⟩
theorem LS.po (l : LS K F D A1 h1 H1 A h H acc vs) : Po K F A1 h1 H1 A h H :=
  ⟨⟨l.cs.len, l.cs.nd, fun n a cl e1 e2 => (l.cs.cell n a cl e1 e2).mono LS.stF rfl, fun a fa => l.cs.fr a (.inl fa)⟩, l.ext.imp fun B z => ⟨z.1, fun a ha => (z.2 a ha).1⟩, l.keep, l.live⟩
theorem LS.data (c : Cs K F A1 h1 H1) (hD : H1 D = none) (l : LS K F D A1 h1 H1 A h H acc vs) : RD K H (Gd F A h) (.ref D) (.list acc) := by
  refine .lst l.at_ (fun z => ?_) (RDs.mono LS.stF l.rel)
  rcases z with z | z
  · exact (c.fr D z).1 hD
  · exact (l.cs.fr D (.inr rfl)).2 z
theorem LS.cell (c : Cs K F A1 h1 H1) (hD : H1 D = none) (l : LS K F D A1 h1 H1 A h H acc vs) : Po K F A1 h1 H1 (A ++ [D]) (h ++ [.lst acc]) H := by
  obtain ⟨B, eB, nB⟩ := l.ext
  have nD : D ∉ A := fun z => by
    rw [eB] at z
    rcases List.mem_append.mp z with z | z
    · obtain ⟨n, hn, e⟩ := List.getElem_of_mem z
      have e : A1[n]? = some D := by rw [List.getElem?_eq_getElem hn, e]
      exact c.there e hD
    · exact (nB D z).2 rfl
  have gd : ∀ {a : Addr}, Gd F (A ++ [D]) (h ++ [.lst acc]) a → Gd (FD F D) A h a := fun {a} z => by
    rcases z with z | z
    · exact .inl (.inl z)
    · rcases z.snoc l.cs.len with z | z
      · exact .inr z
      · exact .inl (.inr z)
  have st : Stay H (Gd (FD F D) A h) H (Gd F (A ++ [D]) (h ++ [.lst acc])) := fun a o e n => ⟨e, fun z => n (gd z)⟩
  refine ⟨⟨by simp [l.cs.len], ?_, fun n a cl e1 e2 => ?_, fun a fa => ⟨(l.cs.fr a (.inl fa)).1, fun z => ?_⟩⟩, ⟨B ++ [D], by rw [eB, List.append_assoc], fun a ha => ?_⟩, l.keep, fun a z => ?_⟩
  · rw [List.nodup_append]
    refine ⟨l.cs.nd, by simp, fun a ha b hb => ?_⟩
    rw [List.mem_singleton] at hb
    rw [hb]
    exact fun z => nD (z ▸ ha)
  · by_cases hn : n < A.length
    · rw [List.getElem?_append_left hn] at e1
      rw [List.getElem?_append_left (l.cs.len ▸ hn)] at e2
      exact (l.cs.cell n a cl e1 e2).mono st rfl
    · have hn : A.length ≤ n := by omega
      rw [List.getElem?_append_right hn] at e1
      rw [List.getElem?_append_right (l.cs.len ▸ hn)] at e2
      have z : n - A.length = 0 := by
        have := (List.getElem?_eq_some_iff.mp e1).1
        simp at this
        omega
      rw [← l.cs.len] at e2
      rw [z] at e1 e2
      simp at e1 e2
      subst e1
      subst e2
      exact ⟨vs, l.at_, RDs.mono st l.rel⟩
  · rcases z.snoc l.cs.len with z | z
    · exact (l.cs.fr a (.inl fa)).2 z
    · exact (c.fr a fa).1 (z ▸ hD)
  · rcases List.mem_append.mp ha with z | z
    · exact (nB a z).1
    · rw [List.mem_singleton] at z; rw [z]; exact hD
  · rcases z.snoc l.cs.len with z | z
    · exact l.live a z
    · exact .inr (z ▸ hD)
/-! ### slots forgotten -/
theorem wipe_at (σ : L2.St) : ∀ (ws : List Nat) (j : Nat), (wipe σ ws)[j]? = if j ∈ ws then (σ[j]?.map fun _ => none) else σ[j]?
  | [], j => by simp [wipe]
  | w :: ws, j => by
    unfold wipe
    have hl := wipe_length σ ws
    have ih := wipe_at σ ws j
    by_cases e : w = j
    · subst e
      by_cases hw : w < σ.length
      · rw [List.getElem?_set_self (by rw [hl]; exact hw)]
        simp [hw]
      · rw [List.getElem?_eq_none (by rw [List.length_set, hl]; omega)]
        simp [List.getElem?_eq_none (by omega : σ.length ≤ w)]
    · rw [List.getElem?_set_ne e, ih]
      simp [Ne.symm e]
theorem wipe_frame {ix ws : List Nat} {σ σ2 : L2.St} (f : Frame ix (wipe σ ws) σ2) (hw : ∀ i ∈ ix, i ∈ ws) : wipe σ2 ws = wipe σ ws := by
  refine List.ext_getElem? fun j => ?_
  rw [wipe_at, wipe_at]
  have hl : σ2.length = σ.length := by rw [f.1, wipe_length]
  by_cases hj : j ∈ ws
  · rw [if_pos hj, if_pos hj]
    by_cases hlt : j < σ.length
    · rw [List.getElem?_eq_getElem hlt, List.getElem?_eq_getElem (by omega : j < σ2.length)]
      rfl
    · rw [List.getElem?_eq_none (by omega), List.getElem?_eq_none (by omega)]
  · rw [if_neg hj, if_neg hj, f.2 j (fun z => hj (hw j z)), wipe_at, if_neg hj]
theorem wipeE_len (σ : Sl) : ∀ ws : List Nat, (wipeE σ ws).length = σ.length
  | [] => rfl
  | w :: ws => by unfold wipeE; rw [List.length_set, wipeE_len σ ws]
theorem wipe_ss {σe : Sl} {σ : L2.St} (s : Ss K F A h H σe σ) : ∀ ws : List Nat, Ss K F A h H (wipeE σe ws) (wipe σ ws)
  | [] => s
  | w :: ws => by
    have ih := wipe_ss s ws
    refine ⟨by unfold wipeE wipe; rw [List.length_set, List.length_set]; exact ih.len, fun i e q => ?_⟩
    unfold wipeE at q
    unfold wipe
    by_cases hi : w = i
    · subst hi
      by_cases hl : w < (wipeE σe ws).length
      · rw [List.getElem?_set_self hl] at q; cases q
      · rw [List.getElem?_eq_none (by rw [List.length_set]; omega)] at q; cases q
    · rw [List.getElem?_set_ne hi] at q ⊢
      exact ih.at_ i e q
theorem R.noex_ok {α : Type} {r : R α} {a : α} {h : Hs} (e : r.noex = .ok a h) : r = .ok a h := by
  cases r with
  | ok b h' => exact e
  | ex x h' => cases e
  | bad => cases e
theorem bind_ok {α β : Type} {r : R α} {k : α → Hs → R β} {b : β} {h : Hs} (e : r.bind k = .ok b h) : ∃ a h', r = .ok a h' ∧ k a h' = .ok b h := by
  cases r with
  | ok a h' => exact ⟨a, h', rfl, e⟩
  | ex x h' => cases e
  | bad => cases e
theorem liftO_ok {α : Type} {o : Option (α × Hs)} {b : α} {h : Hs} (e : lift o = .ok b h) : o = some (b, h) := by
  cases o with
  | some p => cases e; rfl
  | none => cases e
end
/-! ### the turns -/
abbrev W0 : WX := fun _ _ _ _ => False
section
variable {K : PySem.W.Frag} {mg : Str → Option Value} {F : Addr → Prop} {D : Addr} {A1 A0 : List Addr} {h1 h0 : Hs} {H1 H0 : Hp} {J : L2.It} {xs : List Dt} {g : Gu} {pr : Bool}
/-- one turn's beginning: an item has come -/
theorem yd_item {A : List Addr} {h : Hs} {H H' : Hp} {acc : List Dt} {vs : List V} {x : V} {d : Dt} (l : LS K F D A1 h1 H1 A h H acc vs) (y : Yd K (FD F D) A h H x H' d pr) :
    Po K (FD F D) A h H A h H' ∧ (RD K H' (Gd (FD F D) A h) x d ∨ (pr = true ∧ ∃ a b d1 d2 p, x = .ref p ∧ H' p = some (.tup [a, b]) ∧ d = .tuple [d1, d2] ∧ RD K H' (Gd (FD F D) A h) a d1 ∧ RD K H' (Gd (FD F D) A h) b d2)) := by
  rcases y with ⟨_, rfl, r⟩ | ⟨hp, T, a, b, d1, d2, rfl, hT, rfl, rfl, r1, r2⟩
  · exact ⟨Po.refl l.cs, .inl r⟩
  · have po := Po.new l.cs (.tup [a, b]) hT
    exact ⟨po, .inr ⟨hp, a, b, d1, d2, T, rfl, upd_same, rfl, RD.mono (po.stay l.cs) r1, RD.mono (po.stay l.cs) r2⟩⟩
theorem lc_run {t : Dt → Sl → Option Sl} {rt : TR Bool} {re : TR Ev} {ix ws : List Nat} {σ : L2.St} {σe : Sl} {acc0 : List Dt} {vs0 : List V} {accF : List Dt} {hF : Hs} {End : Hp → Prop} (hD : H1 D = none) (l0 : LS K F D A1 h1 H1 A0 h0 H0 acc0 vs0)
    (src : Src K (FD F D) A0 h0 H0 J xs g pr) (s0 : Ss K (FD F D) A0 h0 H0 (wipeE σe ws) (wipe σ ws)) (hix : ∀ i ∈ ix, i ∈ ws) (hz : acc0.length + xs.length ≤ sizeLine)
    (he : lcLoop t rt re g (wipeE σe ws) xs acc0 h0 = .ok accF hF) (hEnd : ∀ A H vs, LS K F D A1 h1 H1 A hF H accF vs → Pw K (FD F D) A0 h0 H0 A hF H → End H) :
    ∃ W : Nat → Nat → Hp → Prop, (∃ m, W 0 m H0) ∧ ∀ i m H, W i m H → (J.stop i H ∧ End H) ∨ (J.go i H ∧ ∃ Nx : Hp → Prop, (∀ H', Nx H' → ∃ m', m' < m ∧ W (i + 1) m' H') ∧ ∀ x H', J.yld i H x H' → gEv K pr t ix x (wipe σ ws) H' fun σ2 H2 => wipe σ2 ws = wipe σ ws ∧ tT mg K W0 rt σ2 H2 fun b H3 =>
      if b = true then tE mg K W0 re σ2 H3 fun y H4 => ∃ acc, H4 D = some (.lst acc) ∧ acc.length < sizeLine ∧ Nx (upd H4 D (.lst (acc ++ [y]))) else Nx H3) := by
  let W : Nat → Nat → Hp → Prop := fun i m H => m = xs.length - i ∧ i ≤ xs.length ∧ ∃ A h acc vs, LS K F D A1 h1 H1 A h H acc vs ∧ Pw K (FD F D) A0 h0 H0 A h H ∧ lcLoop t rt re g (wipeE σe ws) (xs.drop i) acc h = .ok accF hF ∧ acc.length ≤ acc0.length + i
  refine ⟨W, ⟨xs.length, by simp, Nat.zero_le _, A0, h0, acc0, vs0, l0, ⟨l0.cs, ⟨[], (List.append_nil A0).symm⟩, fun a o e n => ⟨e, n⟩⟩, by rw [List.drop_zero]; exact he, by omega⟩, ?_⟩
  rintro i m H ⟨rfl, hi, A, h, acc, vs, l, pw, e, hl⟩
  by_cases hlt : i < xs.length
  · rw [List.drop_eq_getElem_cons hlt] at e
    simp only [lcLoop] at e
    split at e
    · rename_i gk
      have wk := src.wk pw gk
      refine .inr ⟨wk.go i hlt, W (i + 1) (xs.length - (i + 1)), fun H' w => ⟨_, by omega, w⟩, fun x H' y => ?_⟩
      have yd := wk.yld i x H' _ (List.getElem?_eq_getElem hlt) y
      obtain ⟨po, it⟩ := yd_item l yd
      split at e
      · cases e
      · rename_i σ' et
        have l' := l.step po
        have s' := (s0.pw pw).mono l.cs po
        refine ⟨FD F D, A, h, wipeE σe ws, σ', xs[i], l'.cs, s', et, it, fun σ2 s2 f2 => ⟨wipe_frame f2 hix, ?_⟩⟩
        refine ⟨FD F D, A, σ', h, l'.cs, s2, ?_⟩
        obtain ⟨k, h2, ek, e⟩ := bind_ok e
        rw [ek]
        intro A2 H2 p2 sm2
        have l2 := l'.step p2
        cases k with
        | false =>
          show W (i + 1) (xs.length - (i + 1)) H2
          exact ⟨rfl, hlt, A2, h2, acc, vs, l2, pw.trans ((po.trans p2).pw l.cs), e, by omega⟩
        | true =>
          show tE mg K W0 re σ2 H2 _
          refine ⟨FD F D, A2, σ', h2, l2.cs, s2.mono l'.cs p2, ?_⟩
          obtain ⟨v, h3, ev, e⟩ := bind_ok e
          rw [ev]
          intro A3 H3 p3 sm3 y ry
          obtain ⟨d, h4, ef, e⟩ := bind_ok e
          obtain ⟨p4, rd⟩ := frz_ok p3.cs ry (liftO_ok ef)
          have l4 := (l2.step p3).step p4
          refine ⟨vs, l4.at_, by rw [l4.rel.length]; omega, rfl, hlt, A3, h4, acc ++ [d], vs ++ [y], l4.app hD rd, (pw.trans ((((po.trans p2).trans p3).trans p4).pw l.cs)).trans (l4.pwApp hD rd), e, by rw [List.length_append, List.length_singleton]; omega⟩
    · cases e
  · have ei : i = xs.length := by omega
    subst ei
    rw [List.drop_length] at e
    simp only [lcLoop] at e
    split at e
    · rename_i gk
      cases e
      exact .inl ⟨(src.wk pw gk).stop, hEnd A H vs l pw⟩
    · cases e
end
section
variable {X : Cx} {mg : Str → Option Value} {W : WX} {elt tg iter tg1 iter1 : Expr} {ifs ifs1 : List Expr} {scope : Scope} {own : List (Str × Nat)} {pos : Pos}
theorem lc_imp {pr : Bool} {ri : TR (List Dt × Gu)} {t : Dt → Sl → Option Sl} {ix ws : List Nat} {rt : TR Bool} {re : TR Ev} {mk : Bool} (hix : ∀ i ∈ ix, i ∈ ws) {σ : L2.St} {H : Hp} {Q : VK}
    (q : tE mg X.K W (fun σ h => (ri σ h).bind fun p h => if p.1.length ≤ sizeLine then
      (lcLoop t rt re p.2 (wipeE σ ws) p.1 [] h).noex.bind fun ds h => lift (newL mk ds h) else .bad) σ H Q) :
    tLc (iEv mg X.K W pr ri) (gEv X.K pr t ix) (tT mg X.K W0 rt) (tE mg X.K W0 re) ws σ H (fun v H' => Hsm X.K H' → Q v H') := by
  obtain ⟨F, A, σe, h, c, s, o⟩ := q
  refine ⟨F, A, σe, h, c, s, (Ou.bind o).imp fun p A1 h1 H1 p1 sm1 o1 J src D hD => ?_⟩
  split at o1
  · rename_i hz
    cases er : lcLoop t rt re p.2 (wipeE σe ws) p.1 [] h1 with
    | ex x hx => rw [er] at o1; exact o1.elim
    | bad => rw [er] at o1; exact o1.elim
    | ok accF hF =>
      rw [er] at o1
      have l0 := LS.start (K := X.K) (F := F) p1.cs hD
      refine lc_run hD l0 (src.mono (FD.rv hD)) (wipe_ss (FD.ss hD (s.mono c p1)) _) hix (by simpa using hz) er fun A2 H2 vs l pw sm2 => ?_
      cases mk with
      | false => exact o1 A2 H2 l.po sm2 (.ref D) (l.data p1.cs hD)
      | true =>
        refine o1 (A2 ++ [D]) H2 (l.cell p1.cs hD) sm2 (.ref D) ⟨D, ?_, rfl⟩
        rw [← l.cs.len, List.getElem?_append_right (Nat.le_refl _), Nat.sub_self]
        rfl
  · exact o1.elim
theorem s_lc {pr : Bool} {ri : TR (List Dt × Gu)} {t : Dt → Sl → Option Sl} {ix : List Nat} {rt : TR Bool} {re : TR Ev} (mk : Bool) (hc : X.calm = true) (hN : X.N.Nodup) (hi : PI X tg iter (iEv mg X.K W pr ri)) (ok : BlkOk X.N X.env.scope scope own) (hix : ∀ i ∈ ix, i ∈ own.map (·.2))
    (hg : ∀ (s : Shared) (H : Hp) (C : Addr) (cl : List (Str × Addr)) (fp : List Addr), PG (X.blk s H scope (compEnvC scope cl C X.env) fp) tg (gEv X.K pr t ix))
    (ht : ∀ (s : Shared) (H : Hp) (C : Addr) (cl : List (Str × Addr)) (fp : List Addr), PTs (X.blk s H scope (compEnvC scope cl C X.env) fp) ifs (tT mg X.K W0 rt))
    (he : ∀ (s : Shared) (H : Hp) (C : Addr) (cl : List (Str × Addr)) (fp : List Addr), PE (X.blk s H scope (compEnvC scope cl C X.env) fp) elt (tE mg X.K W0 re)) (hs : ∀ x, foldedSetIterable iter X.env x = pure x) :
    PE X (.ListComp elt [⟨tg, iter, ifs, 0⟩] scope pos) (tE mg X.K W fun σ h => (ri σ h).bind fun p h => if p.1.length ≤ sizeLine then
      (lcLoop t rt re p.2 (wipeE σ (own.map (·.2))) p.1 [] h).noex.bind fun ds h => lift (newL mk ds h) else .bad) := by
  exact pe_imps (pe_lc hc hN hi ok hg ht he hs) fun σ H Q q sm => lc_imp hix q
end
end EV

/-! EV15: comprehensions of two clauses -/
namespace EV
open PySem PySem.Spec PySem.SeqAt L2
section
variable {X : Cx} {mg : Str → Option Value} {W : WX} {elt tg iter tg1 iter1 : Expr} {ifs ifs1 : List Expr} {scope : Scope} {own : List (Str × Nat)} {pos : Pos}
theorem pw_refl {K : PySem.W.Frag} {F : Addr → Prop} {A : List Addr} {h : Hs} {H : Hp} (c : Cs K F A h H) : Pw K F A h H A h H := ⟨c, ⟨[], (List.append_nil A).symm⟩, fun a o e n => ⟨e, n⟩⟩
theorem lcLoop_len {t : Dt → Sl → Option Sl} {rt : TR Bool} {re : TR Ev} {g : Gu} {σ : Sl} : ∀ {xs acc : List Dt} {h : Hs} {a : List Dt} {h' : Hs}, lcLoop t rt re g σ xs acc h = .ok a h' → a.length ≤ acc.length + xs.length
  | [], acc, h, a, h', e => by
    simp only [lcLoop] at e
    split at e
    · cases e; simp
    · cases e
  | x :: xs, acc, h, a, h', e => by
    simp only [lcLoop] at e
    split at e
    · split at e
      · cases e
      · obtain ⟨k, h2, _, e⟩ := bind_ok e
        cases k with
        | false =>
          have := lcLoop_len e
          rw [List.length_cons]; omega
        | true =>
          obtain ⟨v, h3, _, e⟩ := bind_ok e
          obtain ⟨d, h4, _, e⟩ := bind_ok e
          have := lcLoop_len e
          rw [List.length_append, List.length_singleton] at this
          rw [List.length_cons]; omega
    · cases e
theorem lc2_imp {pr pr1 : Bool} {ri ri1 : TR (List Dt × Gu)} {t t1 : Dt → Sl → Option Sl} {ix ix1 ws vs1 : List Nat} {rt rt1 : TR Bool} {re : TR Ev} {mk : Bool} (hix : ∀ i ∈ ix, i ∈ ws) (hix1 : ∀ i ∈ ix1, i ∈ vs1) {σ : L2.St} {H : Hp} {Q : VK}
    (q : tE mg X.K W (fun σ h => (ri σ h).bind fun p h =>
      (lc2Loop t rt ri1 t1 rt1 re p.2 (wipeE σ ws) vs1 p.1 [] h).noex.bind fun ds h => lift (newL mk ds h)) σ H Q) :
    tLc2 (iEv mg X.K W pr ri) (gEv X.K pr t ix) (tT mg X.K W0 rt) (iEv mg X.K W0 pr1 ri1) (gEv X.K pr1 t1 ix1) (tT mg X.K W0 rt1) (tE mg X.K W0 re) ws vs1 σ H (fun v H' => Hsm X.K H' → Q v H') := by
  obtain ⟨F, A, σe, h, c, s, o⟩ := q
  refine ⟨F, A, σe, h, c, s, (Ou.bind o).imp fun p A1 h1 H1 p1 sm1 o1 J src D hD => ?_⟩
  obtain ⟨xs, g⟩ := p
  dsimp only at o1 src
  cases er : lc2Loop t rt ri1 t1 rt1 re g (wipeE σe ws) vs1 xs [] h1 with
  | ex x hx => rw [er] at o1; exact o1.elim
  | bad => rw [er] at o1; exact o1.elim
  | ok accF hF =>
    rw [er] at o1
    have l0 := LS.start (K := X.K) (F := F) p1.cs hD
    have src0 := src.mono (FD.rv (F := F) (o := .lst []) hD)
    have s0 := wipe_ss (FD.ss (F := F) (o := .lst []) hD (s.mono c p1)) ws
    let V : Nat → Nat → Hp → Prop := fun i m H => m = xs.length - i ∧ i ≤ xs.length ∧ ∃ A h acc vs, LS X.K F D A1 h1 H1 A h H acc vs ∧ Pw X.K (FD F D) A1 h1 (upd H1 D (.lst [])) A h H ∧
      lc2Loop t rt ri1 t1 rt1 re g (wipeE σe ws) vs1 (xs.drop i) acc h = .ok accF hF
    refine ⟨V, ⟨xs.length, by simp, Nat.zero_le _, A1, h1, [], [], l0, pw_refl l0.cs, by rw [List.drop_zero]; exact er⟩, ?_⟩
    rintro i m H ⟨rfl, hi, A, h, acc, vs, l, pw, e⟩
    by_cases hlt : i < xs.length
    · rw [List.drop_eq_getElem_cons hlt] at e
      simp only [lc2Loop] at e
      split at e
      · rename_i gk
        have wk := src0.wk pw gk
        refine .inr ⟨wk.go i hlt, V (i + 1) (xs.length - (i + 1)), fun H' w => ⟨_, by omega, w⟩, fun x H' y => ?_⟩
        have yd := wk.yld i x H' _ (List.getElem?_eq_getElem hlt) y
        obtain ⟨po, it⟩ := yd_item l yd
        split at e
        · cases e
        · rename_i σ' et
          have l' := l.step po
          have s' := (s0.pw pw).mono l.cs po
          refine ⟨FD F D, A, h, wipeE σe ws, σ', xs[i], l'.cs, s', et, it, fun σ2 s2 f2 => ⟨wipe_frame f2 hix, ?_⟩⟩
          refine ⟨FD F D, A, σ', h, l'.cs, s2, ?_⟩
          obtain ⟨k, h2, ek, e⟩ := bind_ok e
          rw [ek]
          intro A2 H2 p2 sm2
          have l2 := l'.step p2
          cases k with
          | false =>
            show V (i + 1) (xs.length - (i + 1)) H2
            exact ⟨rfl, hlt, A2, h2, acc, vs, l2, pw.trans ((po.trans p2).pw l.cs), e⟩
          | true =>
            show iEv mg X.K W0 pr1 ri1 σ2 H2 _
            refine ⟨FD F D, A2, σ', h2, l2.cs, s2.mono l'.cs p2, ?_⟩
            obtain ⟨⟨ys, g1⟩, h3, ev, e⟩ := bind_ok e
            rw [ev]
            intro A3 H3 p3 sm3 J1 src1
            have l3 := l2.step p3
            split at e
            · rename_i hz
              obtain ⟨acc4, h4, e4, e5⟩ := bind_ok e
              refine lc_run hD l3 src1 (wipe_ss ((s2.mono l'.cs p2).mono l2.cs p3) vs1) hix1 hz e4 fun A4 H4 ws l4 pw4 => ?_
              show V (i + 1) (xs.length - (i + 1)) H4
              exact ⟨rfl, hlt, A4, h4, acc4, ws, l4, (pw.trans (((po.trans p2).trans p3).pw l.cs)).trans pw4, e5⟩
            · cases e
      · cases e
    · have ei : i = xs.length := by omega
      subst ei
      rw [List.drop_length] at e
      simp only [lc2Loop] at e
      split at e
      · rename_i gk
        cases e
        refine .inl ⟨(src0.wk pw gk).stop, fun sm2 => ?_⟩
        cases mk with
        | false => exact o1 A H l.po sm2 (.ref D) (l.data p1.cs hD)
        | true =>
          refine o1 (A ++ [D]) H (l.cell p1.cs hD) sm2 (.ref D) ⟨D, ?_, rfl⟩
          rw [← l.cs.len, List.getElem?_append_right (Nat.le_refl _), Nat.sub_self]
          rfl
      · cases e
theorem s_lc2 {pr pr1 : Bool} {ri ri1 : TR (List Dt × Gu)} {t t1 : Dt → Sl → Option Sl} {ix ix1 vs1 : List Nat} {rt rt1 : TR Bool} {re : TR Ev} (mk : Bool) (hc : X.calm = true) (hN : X.N.Nodup) (hi : PI X tg iter (iEv mg X.K W pr ri)) (ok : BlkOk X.N X.env.scope scope own)
    (hv : ∀ i ∈ vs1, i ∈ own.map (·.2)) (hix : ∀ i ∈ ix, i ∈ own.map (·.2)) (hix1 : ∀ i ∈ ix1, i ∈ vs1)
    (hg : ∀ (s : Shared) (H : Hp) (C : Addr) (cl : List (Str × Addr)) (fp : List Addr), PG (X.blk s H scope (compEnvC scope cl C X.env) fp) tg (gEv X.K pr t ix))
    (ht : ∀ (s : Shared) (H : Hp) (C : Addr) (cl : List (Str × Addr)) (fp : List Addr), PTs (X.blk s H scope (compEnvC scope cl C X.env) fp) ifs (tT mg X.K W0 rt))
    (hi1 : ∀ (s : Shared) (H : Hp) (C : Addr) (cl : List (Str × Addr)) (fp : List Addr), PI (X.blk s H scope (compEnvC scope cl C X.env) fp) tg1 iter1 (iEv mg X.K W0 pr1 ri1))
    (hg1 : ∀ (s : Shared) (H : Hp) (C : Addr) (cl : List (Str × Addr)) (fp : List Addr), PG (X.blk s H scope (compEnvC scope cl C X.env) fp) tg1 (gEv X.K pr1 t1 ix1))
    (ht1 : ∀ (s : Shared) (H : Hp) (C : Addr) (cl : List (Str × Addr)) (fp : List Addr), PTs (X.blk s H scope (compEnvC scope cl C X.env) fp) ifs1 (tT mg X.K W0 rt1))
    (he : ∀ (s : Shared) (H : Hp) (C : Addr) (cl : List (Str × Addr)) (fp : List Addr), PE (X.blk s H scope (compEnvC scope cl C X.env) fp) elt (tE mg X.K W0 re)) (hs : ∀ x, foldedSetIterable iter X.env x = pure x) (hs1 : ∀ env x, foldedSetIterable iter1 env x = pure x) :
    PE X (.ListComp elt [⟨tg, iter, ifs, 0⟩, ⟨tg1, iter1, ifs1, 0⟩] scope pos) (tE mg X.K W fun σ h => (ri σ h).bind fun p h =>
      (lc2Loop t rt ri1 t1 rt1 re p.2 (wipeE σ (own.map (·.2))) vs1 p.1 [] h).noex.bind fun ds h => lift (newL mk ds h)) := by
  exact pe_imps (pe_lc2 hc hN hi ok hv hg ht hi1 hg1 ht1 he hs hs1) fun σ H Q q sm => lc2_imp hix hix1 q
end
end EV

/-! EV16: calls of the module's own functions -/
namespace EV
open PySem PySem.Spec PySem.SeqAt L2
section
variable {mg : Str → Option Value} {K : PySem.W.Frag} {F : Addr → Prop} {A : List Addr} {h : Hs} {H : Hp}
abbrev WK (E : XK) : WX := fun c od _ H => E c od H
/-- what a function promises, by the evaluator's reading of it -/
def spE (mg : Str → Option Value) (K : PySem.W.Frag) (g : List Ev → Hs → R Ev) : Sp := fun vs H Q E => ∃ F A h es, Cs K F A h H ∧ RVs K F A h H es vs ∧ Ou mg K (WK E) F A h H [] (g es h) fun v A' h' H' => ∀ v', RV K F A' h' H' v v' → Q v' H'
def addrs (A : List Addr) (ns : List Nat) : List Addr := ns.map fun n => (A[n]?).getD 0
theorem gets_len : ∀ {ns : List Nat} {cs : Hs}, gets ns h = some cs → cs.length = ns.length
  | [], cs, e => by cases e; rfl
  | n :: r, cs, e => by
    simp only [gets] at e
    split at e
    · rename_i c' cs' e1 e2
      cases e
      rw [List.length_cons, List.length_cons, gets_len e2]
    · cases e
theorem gets_at : ∀ {ns : List Nat} {cs : Hs} {i n : Nat}, gets ns h = some cs → ns[i]? = some n → ∃ c, cs[i]? = some c ∧ h[n]? = some c
  | [], cs, i, n, e, q => by simp at q
  | m :: r, cs, i, n, e, q => by
    simp only [gets] at e
    split at e
    · rename_i c' cs' e1 e2
      cases e
      cases i with
      | zero => simp at q; subst q; exact ⟨c', rfl, e1⟩
      | succ i => exact gets_at (i := i) e2 (by simpa using q)
    · cases e
theorem alive_at : ∀ {cs : Hs} {i : Nat} {c : Cell}, alive cs = true → cs[i]? = some c → c ≠ Cell.dead
  | [], i, c, _, q => by simp at q
  | x :: r, i, c, e, q => by
    cases x with
    | dead => cases e
    | lst _ =>
      cases i with
      | zero => simp at q; subst q; exact nofun
      | succ i => exact alive_at (cs := r) (i := i) e (by simpa using q)
    | ro _ =>
      cases i with
      | zero => simp at q; subst q; exact nofun
      | succ i => exact alive_at (cs := r) (i := i) e (by simpa using q)
    | dic lk _ =>
      cases lk with
      | true => cases e
      | false =>
        cases i with
        | zero => simp at q; subst q; exact nofun
        | succ i => exact alive_at (cs := r) (i := i) e (by simpa using q)
theorem puts_at : ∀ {ns : List Nat} {cs h : Hs} {m : Nat} {c : Cell}, ns.Nodup → ns.length ≤ cs.length → (∀ n ∈ ns, n < h.length) → (puts ns cs h)[m]? = some c →
    (m ∉ ns ∧ h[m]? = some c) ∨ ∃ i : Nat, ns[i]? = some m ∧ cs[i]? = some c
  | [], cs, h, m, c, _, _, _, q => by
    cases cs <;> exact .inl ⟨by simp, q⟩
  | n :: r, [], h, m, c, _, hl, _, q => by simp at hl
  | n :: r, x :: cs, h, m, c, nd, hl, hb, q => by
    have nd' := List.nodup_cons.mp nd
    simp only [puts] at q
    rcases puts_at (ns := r) nd'.2 (by simpa using hl) (fun k hk => by rw [List.length_set]; exact hb k (List.mem_cons_of_mem _ hk)) q with ⟨h1, h2⟩ | ⟨i, h1, h2⟩
    · by_cases e : n = m
      · subst e
        rw [List.getElem?_set_self (hb n List.mem_cons_self)] at h2
        exact .inr ⟨0, rfl, h2⟩
      · rw [List.getElem?_set_ne e] at h2
        exact .inl ⟨by simp only [List.mem_cons, not_or]; exact ⟨fun z => e z.symm, h1⟩, h2⟩
    · exact .inr ⟨i + 1, by simpa using h1, by simpa using h2⟩
theorem puts_len : ∀ {ns : List Nat} {cs h : Hs}, (puts ns cs h).length = h.length
  | [], cs, h => by cases cs <;> rfl
  | n :: r, [], h => rfl
  | n :: r, x :: cs, h => by simp only [puts]; rw [puts_len, List.length_set]
/-- the cells that are handed on, as the callee sees them -/
def Fc (F : Addr → Prop) (A : List Addr) (h : Hs) (ns : List Nat) : Addr → Prop := fun a => F a ∨ ∃ n c, n ∉ ns ∧ A[n]? = some a ∧ h[n]? = some c ∧ c ≠ Cell.dead
variable {ns : List Nat} {cs : Hs}
theorem addr_at (A : List Addr) {ns : List Nat} {i n : Nat} (q : ns[i]? = some n) (hn : n < A.length) : (addrs A ns)[i]? = A[n]? := by
  unfold addrs
  rw [List.getElem?_map, q]
  simp [List.getElem?_eq_getElem hn]
structure Sub (K : PySem.W.Frag) (F : Addr → Prop) (A : List Addr) (h : Hs) (H : Hp) (ns : List Nat) (cs : Hs) : Prop where
  c : Cs K F A h H
  nd : ns.Nodup
  get : gets ns h = some cs
  al : alive cs = true
theorem Sub.lt (s : Sub K F A h H ns cs) {i n : Nat} (q : ns[i]? = some n) : n < A.length := by
  obtain ⟨c, _, e⟩ := gets_at s.get q
  rw [s.c.len]
  exact (List.getElem?_eq_some_iff.mp e).1
theorem Sub.gd (s : Sub K F A h H ns cs) {a : Addr} : Gd (Fc F A h ns) (addrs A ns) cs a ↔ Gd F A h a := by
  constructor
  · rintro ((z | ⟨n, c, _, e1, e2, e3⟩) | ⟨i, c, e1, e2, e3⟩)
    · exact .inl z
    · exact .inr ⟨n, c, e1, e2, e3⟩
    · have hi : i < ns.length := by
        have := (List.getElem?_eq_some_iff.mp e1).1
        simpa [addrs] using this
      have q : ns[i]? = some ns[i] := List.getElem?_eq_getElem hi
      obtain ⟨c', e4, e5⟩ := gets_at s.get q
      rw [e2] at e4
      cases e4
      rw [addr_at A q (s.lt q)] at e1
      exact .inr ⟨ns[i], c, e1, e5, e3⟩
  · rintro (z | ⟨n, c, e1, e2, e3⟩)
    · exact .inl (.inl z)
    · by_cases hn : n ∈ ns
      · obtain ⟨i, hi, e⟩ := List.getElem_of_mem hn
        have q : ns[i]? = some n := by rw [List.getElem?_eq_getElem hi, e]
        obtain ⟨c', e4, e5⟩ := gets_at s.get q
        rw [e2] at e5
        cases e5
        exact .inr ⟨i, c, by rw [addr_at A q (s.lt q)]; exact e1, e4, e3⟩
      · exact .inl (.inr ⟨n, c, hn, e1, e2, e3⟩)
theorem Sub.ok (s : Sub K F A h H ns cs) : Cs K (Fc F A h ns) (addrs A ns) cs H := by
  have gl := gets_len s.get
  have at_ : ∀ {i : Nat} {a : Addr}, (addrs A ns)[i]? = some a → ∃ n, ns[i]? = some n ∧ A[n]? = some a := fun {i a} e => by
    have hi : i < ns.length := by
      have := (List.getElem?_eq_some_iff.mp e).1
      simpa [addrs] using this
    have q : ns[i]? = some ns[i] := List.getElem?_eq_getElem hi
    rw [addr_at A q (s.lt q)] at e
    exact ⟨_, q, e⟩
  have injA : ∀ {n m : Nat} {a : Addr}, A[n]? = some a → A[m]? = some a → n = m := fun {n m a} e1 e2 => by
    obtain ⟨h1, q1⟩ := List.getElem?_eq_some_iff.mp e1
    obtain ⟨h2, q2⟩ := List.getElem?_eq_some_iff.mp e2
    exact (List.getElem_inj s.c.nd).mp (q1.trans q2.symm)
  refine ⟨by simp [addrs, gl], ?_, fun i a c e1 e2 => ?_, fun a fa => ?_⟩
  · refine List.pairwise_iff_getElem.mpr fun i j hi hj hij e => ?_
    obtain ⟨n, q1, r1⟩ := at_ (List.getElem?_eq_getElem hi)
    obtain ⟨m, q2, r2⟩ := at_ (List.getElem?_eq_getElem hj)
    rw [← e] at r2
    have := injA r1 r2
    subst this
    obtain ⟨_, t1⟩ := List.getElem?_eq_some_iff.mp q1
    obtain ⟨_, t2⟩ := List.getElem?_eq_some_iff.mp q2
    have := (List.getElem_inj s.nd).mp (t1.trans t2.symm)
    omega
  · obtain ⟨n, q, r⟩ := at_ e1
    obtain ⟨c', e4, e5⟩ := gets_at s.get q
    rw [e2] at e4
    cases e4
    exact (s.c.cell n a c r e5).mono (fun b o e z => ⟨e, fun w => z (s.gd.mp w)⟩) rfl
  · rcases fa with fa | ⟨n, c, hn, e1, e2, e3⟩
    · refine ⟨(s.c.fr a fa).1, fun z => ?_⟩
      have := s.gd.mp (.inr z)
      rcases this with z' | z'
      · obtain ⟨i, c, e1, e2, e3⟩ := z
        obtain ⟨n, q, r⟩ := at_ e1
        obtain ⟨c', e4, e5⟩ := gets_at s.get q
        rw [e2] at e4
        cases e4
        exact (s.c.fr a fa).2 ⟨n, c, r, e5, e3⟩
      · exact (s.c.fr a fa).2 z'
    · refine ⟨s.c.there e1, fun ⟨i, c', f1, f2, f3⟩ => ?_⟩
      obtain ⟨m, q, r⟩ := at_ f1
      have := injA r e1
      subst this
      exact hn (List.mem_of_getElem? q)
theorem Sub.rd (s : Sub K F A h H ns cs) {v : V} {d : Dt} (r : RD K H (Gd F A h) v d) : RD K H (Gd (Fc F A h ns) (addrs A ns) cs) v d := RD.mono (fun b o e z => ⟨e, fun w => z (s.gd.mp w)⟩) r
theorem renum_ok {ns : List Nat} : ∀ {es : List Ev} {vs : List V} {k : Nat}, (∀ {v : V} {d : Dt}, RD K H (Gd F A h) v d → RD K H (Gd (Fc F A h ns) (addrs A ns) cs) v d) → (∀ i n, (refs es)[i]? = some n → ns[k + i]? = some n ∧ n < A.length) → RVs K F A h H es vs → RVs K (Fc F A h ns) (addrs A ns) cs H (renum k es) vs
  | [], _, k, _, _, .nil => .nil
  | .d x :: es, _, k, m, q, .cons a b => .cons (m a) (renum_ok m q b)
  | .r n :: es, _, k, m, q, .cons a b => by
    refine .cons ?_ (renum_ok m (fun i n' e => ?_) b)
    · obtain ⟨p, hA, e⟩ := a
      obtain ⟨q1, q2⟩ := q 0 n rfl
      exact ⟨p, by rw [Nat.add_zero] at q1; rw [addr_at A q1 q2]; exact hA, e⟩
    · have := q (i + 1) n' (by simpa [refs] using e)
      rw [show k + 1 + i = k + (i + 1) by omega]
      exact this
theorem Sub.len2 (s : Sub K F A h H ns cs) {A' : List Addr} {cs' : Hs} {H' : Hp} (p : Po K (Fc F A h ns) (addrs A ns) cs H A' cs' H') : ns.length ≤ cs'.length := by
  obtain ⟨B, e, _⟩ := p.ext
  rw [← p.cs.len, e, List.length_append]
  simp [addrs]
/-- behind the call -/
theorem Sub.back (s : Sub K F A h H ns cs) {A' : List Addr} {cs' : Hs} {H' : Hp} (p : Po K (Fc F A h ns) (addrs A ns) cs H A' cs' H') {B : List Addr} {hB : Hs}
    (hb : (B = [] ∧ hB = []) ∨ ∃ (j : Nat) (a : Addr) (c : Cell), B = [a] ∧ hB = [c] ∧ ns.length ≤ j ∧ A'[j]? = some a ∧ cs'[j]? = some c) :
    Po K F A h H (A ++ B) (puts ns cs' h ++ hB) H' ∧ ∀ a, Gd F (A ++ B) (puts ns cs' h ++ hB) a → Gd (Fc F A h ns) A' cs' a := by
  have l2 := s.len2 p
  have hlt : ∀ n ∈ ns, n < h.length := fun n hn => by
    obtain ⟨i, hi, e⟩ := List.getElem_of_mem hn
    rw [← s.c.len]
    exact s.lt (i := i) (by rw [List.getElem?_eq_getElem hi, e])
  have newB : ∀ a ∈ B, H a = none := fun a ha => by
    rcases hb with ⟨rfl, _⟩ | ⟨j, b, c, rfl, _, hj, e1, _⟩
    · cases ha
    · rw [List.mem_singleton] at ha
      subst ha
      obtain ⟨C, eC, nC⟩ := p.ext
      rw [eC, List.getElem?_append_right (by simpa [addrs] using hj)] at e1
      exact nC a (List.mem_of_getElem? e1)
  -- what stands in the new list of cells
  have cell : ∀ {m : Nat} {a : Addr} {c : Cell}, (A ++ B)[m]? = some a → (puts ns cs' h ++ hB)[m]? = some c → (m < A.length ∧ m ∉ ns ∧ A[m]? = some a ∧ h[m]? = some c) ∨ ∃ j : Nat, A'[j]? = some a ∧ cs'[j]? = some c ∧ ((m < A.length ∧ ns[j]? = some m ∧ A[m]? = some a) ∨ (A.length ≤ m ∧ H a = none)) := fun {m a c} e1 e2 => by
    by_cases hm : m < A.length
    · rw [List.getElem?_append_left hm] at e1
      rw [List.getElem?_append_left (by rw [puts_len, ← s.c.len]; exact hm)] at e2
      rcases puts_at s.nd l2 hlt e2 with ⟨q1, q2⟩ | ⟨i, q1, q2⟩
      · exact .inl ⟨hm, q1, e1, q2⟩
      · refine .inr ⟨i, ?_, q2, .inl ⟨hm, q1, e1⟩⟩
        obtain ⟨C, eC, _⟩ := p.ext
        rw [eC, List.getElem?_append_left (by simpa [addrs] using (List.getElem?_eq_some_iff.mp q1).1), addr_at A q1 hm]
        exact e1
    · have hm : A.length ≤ m := by omega
      rw [List.getElem?_append_right hm] at e1
      rw [List.getElem?_append_right (by rw [puts_len, ← s.c.len]; exact hm), puts_len, ← s.c.len] at e2
      rcases hb with ⟨rfl, _⟩ | ⟨j, b, c', rfl, rfl, hj, f1, f2⟩
      · simp at e1
      · have z : m - A.length = 0 := by
          have := (List.getElem?_eq_some_iff.mp e1).1
          simp at this
          omega
        rw [z] at e1 e2
        simp at e1 e2
        subst e1
        subst e2
        exact .inr ⟨j, f1, f2, .inr ⟨hm, newB b (List.mem_singleton.mpr rfl)⟩⟩
  have gd : ∀ a, Gd F (A ++ B) (puts ns cs' h ++ hB) a → Gd (Fc F A h ns) A' cs' a := fun a z => by
    rcases z with z | ⟨m, c, e1, e2, e3⟩
    · exact .inl (.inl z)
    · rcases cell e1 e2 with ⟨_, q1, q2, q3⟩ | ⟨j, q1, q2, _⟩
      · exact .inl (.inr ⟨m, c, q1, q2, q3, e3⟩)
      · exact .inr ⟨j, c, q1, q2, e3⟩
  have old : ∀ a o, H a = some o → ¬ Lv A h a → H' a = some o := fun a o e n => p.keep a o e fun z => by
    have := s.gd.mp (.inr z)
    rcases this with q | q
    · exact (s.ok.fr a (.inl q)).2 z
    · exact n q
  have st : Stay H (Gd F A h) H' (Gd F (A ++ B) (puts ns cs' h ++ hB)) := fun a o e n => by
    refine ⟨old a o e fun z => n (.inr z), fun z => ?_⟩
    rcases gd a z with z | z
    · exact n (s.gd.mp (.inl z))
    · rcases p.live a z with z | z
      · exact n (s.gd.mp (.inr z))
      · rw [e] at z; cases z
  refine ⟨⟨⟨?_, ?_, fun m a c e1 e2 => ?_, fun a fa => ⟨(p.cs.fr a (.inl fa)).1, fun z => ?_⟩⟩, ⟨B, rfl, newB⟩, old, fun a z => ?_⟩, gd⟩
  · rw [List.length_append, List.length_append, puts_len, s.c.len]
    rcases hb with ⟨rfl, rfl⟩ | ⟨_, _, _, rfl, rfl, _⟩ <;> rfl
  · rw [List.nodup_append]
    refine ⟨s.c.nd, ?_, fun a ha b hb' e => ?_⟩
    · rcases hb with ⟨rfl, _⟩ | ⟨_, _, _, rfl, _⟩ <;> simp
    · obtain ⟨n, hn, e'⟩ := List.getElem_of_mem ha
      have e' : A[n]? = some a := by rw [List.getElem?_eq_getElem hn, e']
      exact s.c.there e' (e ▸ newB b hb')
  · rcases cell e1 e2 with ⟨hm, q1, q2, q3⟩ | ⟨j, q1, q2, _⟩
    · by_cases hd : c = Cell.dead
      · subst hd
        cases eo : H a with
        | none => exact absurd eo (s.c.there q2)
        | some o =>
          show H' a ≠ none
          rw [old a o eo fun ⟨n, c', f1, f2, f3⟩ => by
            obtain ⟨h1, t1⟩ := List.getElem?_eq_some_iff.mp q2
            obtain ⟨h2, t2⟩ := List.getElem?_eq_some_iff.mp f1
            have := (List.getElem_inj s.c.nd).mp (t1.trans t2.symm)
            subst this
            rw [q3] at f2
            cases f2
            exact f3 rfl]
          exact nofun
      · obtain ⟨o, eo⟩ : ∃ o, H a = some o := by
          cases e : H a with
          | none => exact absurd e (s.c.there q2)
          | some o => exact ⟨o, rfl⟩
        have e' : H' a = some o := p.keep a o eo (s.ok.fr a (.inr ⟨m, c, q1, q2, q3, hd⟩)).2
        exact (s.c.cell m a c q2 q3).mono st (e'.trans eo.symm)
    · exact (p.cs.cell j a c q1 q2).mono (fun b o e z => ⟨e, fun w => z (gd b w)⟩) rfl
  · obtain ⟨m, c, e1, e2, e3⟩ := z
    rcases cell e1 e2 with ⟨_, _, q2, q3⟩ | ⟨j, q1, q2, _⟩
    · exact (s.c.fr a fa).2 ⟨m, c, q2, q3, e3⟩
    · exact (p.cs.fr a (.inl fa)).2 ⟨j, c, q1, q2, e3⟩
  · obtain ⟨m, c, e1, e2, e3⟩ := z
    rcases cell e1 e2 with ⟨_, _, q2, q3⟩ | ⟨j, q1, q2, q | q⟩
    · exact .inl ⟨m, c, q2, q3, e3⟩
    · obtain ⟨_, q3, q4⟩ := q
      obtain ⟨c', e4, e5⟩ := gets_at s.get q3
      exact .inl ⟨m, c', q4, e5, alive_at s.al e4⟩
    · exact .inr q.2
end
end EV

/-! EV17: the rule of a call; the checker of expressions -/
namespace EV
open PySem PySem.Spec PySem.SeqAt L2
section
variable {mg : Str → Option Value} {K : PySem.W.Frag} {F : Addr → Prop} {A : List Addr} {h : Hs} {H : Hp} {σ : L2.St}
theorem refs_ok : ∀ {es : List Ev} {vs : List V}, RVs K F A h H es vs → ∀ (i n : Nat), (refs es)[i]? = some n → n < A.length
  | [], _, .nil, i, n, q => by simp [refs] at q
  | .d x :: es, _, .cons a b, i, n, q => refs_ok b i n q
  | .r m :: es, _, .cons a b, i, n, q => by
    cases i with
    | zero =>
      simp [refs] at q
      subst q
      obtain ⟨p, hA, _⟩ := a
      exact (List.getElem?_eq_some_iff.mp hA).1
    | succ i => exact refs_ok b i n (by simpa [refs] using q)
theorem call_sp {W : WX} {cl : Str → List Ev → Hs → R Ev} {f : Str} {es : List Ev} {vs : List V} {Q : VK} (c : Cs K F A h H) (rv : RVs K F A h H es vs)
    (o : Ou mg K W F A h H σ (callE cl f es h) fun v A' h' H' => ∀ v', RV K F A' h' H' v v' → Q v' H') : spE mg K (cl f) vs H Q (fun e od H' => W e od σ H') := by
  unfold callE at o
  split at o
  · rename_i nd
    split at o
    · rename_i cs eg
      split at o
      · rename_i al
        have s : Sub K F A h H (refs es) cs := ⟨c, nd, eg, al⟩
        refine ⟨Fc F A h (refs es), addrs A (refs es), cs, renum 0 es, s.ok, renum_ok s.rd (fun i n q => ⟨by rw [Nat.zero_add]; exact q, refs_ok rv i n q⟩) rv, ?_⟩
        revert o
        cases cl f (renum 0 es) cs with
        | bad => exact fun o => o
        | ex x cs' =>
          intro o A' H' e od p rx
          obtain ⟨q1, q2⟩ := s.back p (.inl ⟨rfl, rfl⟩)
          rw [List.append_nil, List.append_nil] at q1
          have q2' : ∀ a, Gd F A (puts (refs es) cs' h) a → Gd (Fc F A h (refs es)) A' cs' a := fun a z => q2 a (by rw [List.append_nil, List.append_nil]; exact z)
          refine o A H' e od q1 ?_
          obtain ⟨r1, d, fs, r2, r3, r4⟩ := rx
          refine ⟨r1, d, fs, r2, r3, ?_⟩
          have mono : ∀ {xs : List (Str × V)} {ys : List (Str × Dt)}, RDf K H' (Gd (Fc F A h (refs es)) A' cs') xs ys → RDf K H' (Gd F A (puts (refs es) cs' h)) xs ys := fun {xs ys} k => by
            unfold RDf at k ⊢
            induction k with
            | nil => exact .nil
            | cons a b ih => exact .cons ⟨a.1, RD.mono (fun b o e z => ⟨e, fun w => z (q2' b w)⟩) a.2⟩ ih
          exact mono r4
        | ok v cs' =>
          cases v with
          | d x =>
            intro o A' H' p sm v' r
            obtain ⟨q1, q2⟩ := s.back p (.inl ⟨rfl, rfl⟩)
            rw [List.append_nil, List.append_nil] at q1
            exact o A H' q1 sm v' (RD.mono (fun b o e z => ⟨e, fun w => z (q2 b (by rw [List.append_nil, List.append_nil]; exact w))⟩) r)
          | r j =>
            intro o A' H' p sm v' r
            dsimp only at o
            cases ej : (refs es)[j]? with
            | some n =>
              rw [ej] at o
              obtain ⟨q1, q2⟩ := s.back p (.inl ⟨rfl, rfl⟩)
              rw [List.append_nil, List.append_nil] at q1
              obtain ⟨a, e1, rfl⟩ := r
              refine o A H' q1 sm _ ⟨a, ?_, rfl⟩
              obtain ⟨C, eC, _⟩ := p.ext
              rw [eC, List.getElem?_append_left (by simpa [addrs] using (List.getElem?_eq_some_iff.mp ej).1), addr_at A ej (s.lt ej)] at e1
              exact e1
            | none =>
              rw [ej] at o
              cases ec : cs'[j]? with
              | none => rw [ec] at o; exact o.elim
              | some cc =>
                rw [ec] at o
                obtain ⟨a, e1, rfl⟩ := r
                have hj : (refs es).length ≤ j := by simpa using ej
                obtain ⟨q1, q2⟩ := s.back p (.inr ⟨j, a, cc, rfl, rfl, hj, e1, ec⟩)
                refine o _ H' q1 sm _ ⟨a, ?_, rfl⟩
                rw [← c.len, List.getElem?_append_right (Nat.le_refl _), Nat.sub_self]
                rfl
      · exact o.elim
    · exact o.elim
  · exact o.elim
end
/-- a function's promise -/
structure FnV (P : Program) (w : World) (K : PySem.W.Frag) (mg : Str → Option Value) (base : Heap) (CX : CXT) (k : Nat) (fa : Addr) (g : List Ev → Hs → R Ev) : Prop where
  run : ∀ (A : Around) (outer : List Env) (s : Shared) (H : Hp) (us : List Value) (vs : List V) (Q : VK) (E : XK), Room k A → A.guards = some [] → Env0 P w K mg base A outer s H → Vals vs us → spE mg K g vs H Q E →
    codeAny (model P w) A (.call (.ref fa) ⟨us, []⟩) (CR CX outer P w H s Q E) s
structure FnAt (X : Cx) (CX : CXT) (k : Nat) (cl : Str → List Ev → Hs → R Ev) (f : Str) : Prop where
  dbg : (f == ("__debug__" : Str)) = false
  at_ : ∃ fa, X.mg f = some (.ref fa) ∧ PySem.W.keepIn X.K (.ref fa) = true ∧ FnV X.prog X.w X.K X.mg X.base CX k fa (cl f)
def blts : List Str := ["len", "tuple", "list", "sorted", "repr", "min", "max", "sum", "all", "any", "abs", "range", "enumerate", "zip", "reversed"]
/-- all that a place in the program's text rests on -/
structure Rx (X : Cx) (c : Ctx) (CX : CXT) (k : Nat) (W : WX) (cl : Str → List Ev → Hs → R Ev) (gl : Str → Option Dt) : Prop where
  rt : Rt X c
  room : Room k X.A
  fn : ∀ f ∈ c.fs, FnAt X CX k cl f
  glo : ∀ x d, gl x = some d → (x == ("__debug__" : Str)) = false ∧ ∃ u v, X.mg x = some u ∧ RelV v u ∧ ∀ H L, RD X.K H L v d
  blt : ∀ x ∈ blts, X.mg x = none
  pass : ∀ (pins : List (Addr × Obj)) (σ : L2.St) (H : Hp) (s : Shared) (e : Value) (s' : Shared), Inv X pins σ H s → CX X.stack H s (fun c od H' => W c od σ H') e s' → X.xe e s'
  cx0 : ∀ (outer : List Env) (H : Hp) (s : Shared) (e : Value) (s' : Shared), ¬ CX outer H s (fun _ _ _ => False) e s'
section
variable {X : Cx} {c : Ctx} {CX : CXT} {k : Nat} {W : WX} {cl : Str → List Ev → Hs → R Ev} {gl : Str → Option Dt}
theorem run_fnV {fa : Addr} {g : List Ev → Hs → R Ev} {pins : List (Addr × Obj)} {σ : L2.St} {H : Hp} {s : Shared} {Q : VK} {us : List Value} {vs : List V} (F : FnV X.prog X.w X.K X.mg X.base CX k fa g) (r : Rx X c CX k W cl gl)
    (I : Inv X pins σ H s) (rv : Vals vs us) (h : spE X.mg X.K g vs H Q (fun c od H' => W c od σ H')) : wpAny (model X.prog X.w) X.A (PySem.call (.ref fa) us) (EP X pins σ Q) X.xe s := by
  refine wpAny_call (codeAny_mono (F.run X.A X.stack s H us vs Q _ r.room r.rt.gd I.env0 rv h) fun r' s' hq => ?_)
  cases r' with
  | error e => exact r.pass pins σ H s e s' I hq
  | ok fl =>
    cases fl with
    | ret u => exact I.after hq
    | next => exact False.elim hq
    | brk => exact False.elim hq
    | cont => exact False.elim hq
theorem s_fcall {f : Str} {e : Expr} {es : List Expr} {rs : TR (List Ev)} {p pos : Pos} (r : Rx X c CX k W cl gl) (hf : f ∈ c.fs) (hg : Gl X f) (ha : PA X (e :: es) (tA X.mg X.K W rs)) (he : starEach (e :: es) X.env = (false, eval e X.env) :: starEach es X.env) (hpl : (backTo pos (starEach es X.env)).any (·.1) = false) :
    PE X (.Call (.Name f p) (e :: es) [] pos) (tE X.mg X.K W fun σ h => (rs σ h).bind fun vs h => callE cl f vs h) := by
  obtain ⟨dbg, fa, hm, hk, hF⟩ := r.fn f hf
  refine ⟨fun pins s σ H Q I ⟨F, A, σe, h, c, s0, o⟩ => ?_⟩
  refine wpAny_Call_Name_kw (ld_glob I hg hm ?_ dbg)
  refine PySem.W.callWith_K (h₀ := X.base) I.ok.mod.kin hk (thn (ha.run pos pins s σ H (fun vs H1 => spE X.mg X.K (cl f) vs H1 Q (fun c od H' => W c od σ H')) I (tA.step c s0 o fun x A1 h1 H1 v p1 sm1 s1 r1 o1 => call_sp p1.cs r1 o1)) fun us s1 ⟨vs, H1, I1, r1, q⟩ => ⟨I1.kIn, ?_⟩) he hpl
  exact run_fnV hF r I1 r1 q
theorem s_fcall0 {f : Str} {p pos : Pos} (r : Rx X c CX k W cl gl) (hf : f ∈ c.fs) (hg : Gl X f) :
    PE X (.Call (.Name f p) [] [] pos) (tE X.mg X.K W fun σ h => (R.ok [] h : R (List Ev)).bind fun vs h => callE cl f vs h) := by
  obtain ⟨dbg, fa, hm, hk, hF⟩ := r.fn f hf
  refine ⟨fun pins s σ H Q I ⟨F, A, σe, h, c, s0, o⟩ => ?_⟩
  refine wpAny_Call_Name_kw (ld_glob I hg hm ?_ dbg)
  exact PySem.W.callWith_K0 I.kIn hk (run_fnV (us := []) hF r I .nil (call_sp c .nil o))
/-! ### blocks -/
def isCell (y : Str × NameKind) : Bool := match y.2 with
  | .cell => true
  | _ => false
def Ctx.blk (c : Ctx) (scope : Scope) : Ctx := ⟨relS scope c.sc, c.N, (scope.names.filter isCell).map Prod.fst, c.fs⟩
theorem Rx.blk (r : Rx X c CX k W cl gl) {scope : Scope} {own : List (Str × Nat)} (ok : BlkOk X.N X.env.scope scope own) (s : Shared) (H : Hp) (C : Addr) (cells : List (Str × Addr)) (fp : List Addr) :
    Rx (X.blk s H scope (compEnvC scope cells C X.env) fp) (c.blk scope) CX k W0 cl gl := by
  refine ⟨⟨?_, r.rt.N, r.rt.nd, r.rt.calm, r.rt.un, r.rt.gd, fun x hx => ?_⟩, r.room, fun f hf => ?_, r.glo, r.blt, fun pins σ H s e s' I q => (r.cx0 _ _ _ _ _ q).elim, r.cx0⟩
  · show relS scope X.env.scope = relS scope c.sc
    rw [r.rt.sc]
  · show (scope.names.lookup x == some .cell) = true
    obtain ⟨y, hy, rfl⟩ := List.mem_map.mp hx
    obtain ⟨h1, h2⟩ := List.mem_filter.mp hy
    have h3 : y.2 = .cell := by
      revert h2
      unfold isCell
      cases y.2 <;> simp
    rw [ok.uniq y h1, h3]
    rfl
  · exact ⟨(r.fn f hf).dbg, (r.fn f hf).at_⟩
end
/-! ### the checker -/
def abOk : Expr → Bool
  | .Call _ _ _ _ => false
  | _ => true
theorem ab_plain {o : Expr} (h : abOk o = true) (nm : Str) (env : Env) (w : Sem Value) : attributeBase o nm env w = w := by
  cases o <;> first | rfl | cases h
def fsOk : Expr → Bool
  | .Set _ _ _ => false
  | _ => true
theorem fs_plain {e : Expr} (h : fsOk e = true) (env : Env) (x : Value) : foldedSetIterable e env x = pure x := by
  cases e <;> first | rfl | cases h
def ixOk : Expr → Bool
  | .Slice _ _ _ _ => false
  | _ => true
theorem ix_plain {e : Expr} (h : ixOk e = true) : PlainIx e := fun o i => by
  cases e <;> first | rfl | cases h
def tvOk : Expr → Bool
  | .UnaryOp _ _ _ => false
  | .BoolOp _ _ _ => false
  | .IfExp _ _ _ _ => false
  | .Compare _ _ _ _ => false
  | _ => true
theorem tv_plain {e : Expr} (h : tvOk e = true) (env : Env) : ∀ whole, isTrue e env whole = (do let v ← whole; standAt e.pos; holding [v] (truthy v)) := fun whole => by
  cases e <;> first | rfl | cases h
theorem star_cons {e : Expr} {es : List Expr} {env : Env} (h : notStar e = true) : starEach (e :: es) env = (false, eval e env) :: starEach es env := by
  cases e <;> first | rfl | cases h
theorem star_none : ∀ {es : List Expr} {env : Env} {pos : Pos}, es.all notStar = true → (backTo pos (starEach es env)).any (·.1) = false
  | [], _, _, _ => rfl
  | e :: es, env, pos, h => by
    rw [List.all_cons, Bool.and_eq_true] at h
    rw [star_cons h.1]
    show (false || (backTo pos (starEach es env)).any (·.1)) = false
    rw [star_none h.2]
    rfl
theorem star_all : ∀ {es : List Expr} {env : Env} {pos : Pos}, es.all notStar = true → (backTo pos (starEach es env)).all (fun x => !x.1) = true
  | [], _, _, _ => rfl
  | e :: es, env, pos, h => by
    rw [List.all_cons, Bool.and_eq_true] at h
    rw [star_cons h.1]
    show (!false && (backTo pos (starEach es env)).all (fun x => !x.1)) = true
    rw [star_all h.2]
    rfl
def chks (f : C → Expr → Bool) : List C → List Expr → Bool
  | [], [] => true
  | k :: ks, e :: es => notStar e && f k e && chks f ks es
  | _, _ => false
theorem chks_plain {f : C → Expr → Bool} : ∀ {ks : List C} {es : List Expr}, chks f ks es = true → es.all notStar = true
  | [], [], _ => rfl
  | [], _ :: _, h => by cases h
  | _ :: _, [], h => by cases h
  | k :: ks, e :: es, h => by
    simp only [chks, Bool.and_eq_true] at h
    rw [List.all_cons, h.1.1, chks_plain h.2]
    rfl
def chkp (f : C → Expr → Bool) : List (C × C) → List (Option Expr) → List Expr → Bool
  | [], [], [] => true
  | (a, b) :: r, some k :: ks, v :: vs => f a k && f b v && chkp f r ks vs
  | _, _, _ => false
def chko (f : C → Expr → Bool) : Option C → Option Expr → Bool
  | none, none => true
  | some c, some e => f c e
  | _, _ => false
def kOk : Dt → Const → Bool
  | .none, .none => true
  | .bool a, .bool b => decide (a = b)
  | .int a, .int b => decide (a = b)
  | .str a, .str b => decide (a = b)
  | _, _ => false
def Bf.nm : Bf → Str
  | .len => "len"
  | .tuple => "tuple"
  | .list => "list"
  | .lrange => "list"
  | .sorted => "sorted"
  | .repr => "repr"
  | .min => "min"
  | .max => "max"
  | .sum => "sum"
  | .all => "all"
  | .any => "any"
  | .abs => "abs"
  | .min2 => "min"
  | .max2 => "max"
def Mf.nm : Mf → Str
  | .append => "append"
  | .extend => "extend"
  | .pop => "pop"
  | .popAt => "pop"
  | .index => "index"
  | .get => "get"
  | .count => "count"
  | .update => "update"
def isLr : Bf → Bool
  | .lrange => true
  | _ => false
end EV

/-! EV18: the checker of expressions, and that it is right -/
namespace EV
open PySem PySem.Spec PySem.SeqAt L2
def prOf : It → Bool
  | .enm _ => true
  | .zip _ _ => true
  | _ => false
def chkI (f : C → Expr → Bool) (cx : Ctx) (it : It) (x : Expr) : Bool := match it with
  | .val c => fsOk x && f c x
  | .rng l => (match x with
    | .Call (.Name g _) es [] _ => decide (g = "range") && cx.glb g && chks f l es && decide (1 ≤ es.length ∧ es.length ≤ 3)
    | _ => false)
  | .enm c => (match x with
    | .Call (.Name g _) [y] [] _ => decide (g = "enumerate") && cx.glb g && notStar y && f c y
    | _ => false)
  | .zip a b => (match x with
    | .Call (.Name g _) [y, z] [] _ => decide (g = "zip") && cx.glb g && notStar y && notStar z && f a y && f b z
    | _ => false)
  | .rvs c => (match x with
    | .Call (.Name g _) [y] [] _ => decide (g = "reversed") && cx.glb g && notStar y && f c y
    | _ => false)
  | _ => false
def chkC (f : C → Expr → Bool) : Option C → List Expr → Bool
  | none, [] => true
  | some c, [x] => f c x
  | _, _ => false
def ownOf (cx : Ctx) (vs : List Nat) : List (Str × Nat) := vs.map fun i => ((cx.N[i]?).getD "", i)
theorem ownOf_snd (cx : Ctx) (vs : List Nat) : (ownOf cx vs).map (·.2) = vs := by
  unfold ownOf
  rw [List.map_map]
  exact List.map_id' vs
def chkD (f : C → Expr → Bool) (l : List (C × C)) (x : Expr) : Bool := match x with
  | .Dict ks vs _ => if l.isEmpty then ks.isEmpty && vs.isEmpty else chkp f l ks vs && decide (ks.length ≤ 15)
  | _ => false
def chkStep (gl : Str → Option Dt) (e t : Ctx → C → Expr → Bool) (cx : Ctx) (k : C) (x : Expr) : Bool := match k with
  | .k d => (match x with
    | .Constant v _ _ => kOk d v
    | _ => false)
  | .var i => (match x with
    | .Name y _ => decide (cx.N[i]? = some y) && cx.vis y && !(y == ("__debug__" : Str)) && !(y == ("__classdict__" : Str))
    | _ => false)
  | .gl y => (match x with
    | .Name z _ => decide (y = z) && cx.glb z && (gl y).isSome
    | _ => false)
  | .bin _ o a b => (match x with
    | .BinOp l op r _ => decide (op = o.py) && e cx a l && e cx b r
    | _ => false)
  | .neg a => (match x with
    | .UnaryOp .USub y _ => e cx a y
    | _ => false)
  | .not a => (match x with
    | .UnaryOp .Not y _ => e cx a y
    | _ => false)
  | .and a b => (match x with
    | .BoolOp .And (y :: z :: r) pos => e cx a y && (if r.isEmpty then e cx b z else e cx b (.BoolOp .And (z :: r) pos))
    | _ => false)
  | .or a b => (match x with
    | .BoolOp .Or (y :: z :: r) pos => e cx a y && (if r.isEmpty then e cx b z else e cx b (.BoolOp .Or (z :: r) pos))
    | _ => false)
  | .cmp o a b => (match x with
    | .Compare l [op] [r] _ => decide (op = o.py) && !(behindInMarks o.py r) && e cx a l && e cx b r
    | _ => false)
  | .chain o o' a b c => (match x with
    | .Compare l [op, op'] [r, s] _ => decide (op = o.py) && decide (op' = o'.py) && !(lastMarks [o.py, o'.py] [r, s]) && e cx a l && e cx b r && e cx c s
    | _ => false)
  | .ifx q a b => (match x with
    | .IfExp q' a' b' _ => t cx q q' && e cx a a' && e cx b b'
    | _ => false)
  | .tup l => (match x with
    | .Tuple es _ _ => chks (e cx) l es
    | _ => false)
  | .lst _ l => (match x with
    | .List es _ => chks (e cx) l es
    | _ => false)
  | .dict l => chkD (e cx) l x
  | .ix a b => (match x with
    | .Subscript y z _ => ixOk z && e cx a y && e cx b z
    | _ => false)
  | .sl _ a lo hi => (match x with
    | .Subscript y (.Slice l h none _) _ => e cx a y && chko (e cx) lo l && chko (e cx) hi h
    | _ => false)
  | .rev _ a => (match x with
    | .Subscript y (.Slice none none (some (.UnaryOp .USub (.Constant (.int 1) _ _) _)) _) _ => e cx a y
    | _ => false)
  | .call f l => (match x with
    | .Call (.Name g _) es [] _ => decide (f = g) && decide (f ∈ cx.fs) && cx.glb f && chks (e cx) l es
    | _ => false)
  | .b _ f l => if isLr f then (match x with
      | .Call (.Name g _) [.Call (.Name g2 _) es [] _] [] _ => decide (g = "list") && decide (g2 = "range") && cx.glb g && cx.glb g2 && chks (e cx) l es && decide (1 ≤ es.length ∧ es.length ≤ 2)
      | _ => false)
    else (match x with
      | .Call (.Name g _) (y :: es) [] _ => decide (g = f.nm) && cx.glb g && chks (e cx) l (y :: es)
      | _ => false)
  | .m f o l => (match x with
    | .Call (.Attribute ob nm apos) es [] cpos => decide (nm = f.nm) && abOk ob && (apos.endLine == cpos.line) && e cx o ob && chks (e cx) l es && decide (es.length < 29)
    | _ => false)
  | .upd o l => (match x with
    | .Call (.Attribute ob nm apos) [d] [] cpos => decide (nm = "update") && abOk ob && (apos.endLine == cpos.line) && e cx o ob && chkD (e cx) l d
    | _ => false)
  | .lc _ el tg it c vs => (match x with
    | .ListComp elt [⟨tge, iter, ifs, asy⟩] scope _ => decide (asy = 0) && chkI (e cx) cx it iter && fsOk iter && blkC cx.N cx.sc scope (ownOf cx vs) && ((tgIx 8 tg).all fun i => vs.contains i) &&
        chkG (cx.blk scope) 8 tg tge && (!prOf it || isTp tg) && chkC (t (cx.blk scope)) c ifs && e (cx.blk scope) el elt
    | _ => false)
  | .lc2 _ el tg it c tg1 it1 c1 vs vs1 => (match x with
    | .ListComp elt [⟨tge, iter, ifs, asy⟩, ⟨tge1, iter1, ifs1, asy1⟩] scope _ => decide (asy = 0) && decide (asy1 = 0) && chkI (e cx) cx it iter && fsOk iter && blkC cx.N cx.sc scope (ownOf cx vs) && ((tgIx 8 tg).all fun i => vs.contains i) &&
        chkG (cx.blk scope) 8 tg tge && (!prOf it || isTp tg) && chkC (t (cx.blk scope)) c ifs && e (cx.blk scope) el elt &&
        (vs1.all fun i => vs.contains i) && chkI (e (cx.blk scope)) (cx.blk scope) it1 iter1 && fsOk iter1 && ((tgIx 8 tg1).all fun i => vs1.contains i) && chkG (cx.blk scope) 8 tg1 tge1 && (!prOf it1 || isTp tg1) && chkC (t (cx.blk scope)) c1 ifs1
    | _ => false)
def chkTStep (e t : Ctx → C → Expr → Bool) (cx : Ctx) (k : C) (x : Expr) : Bool := match k with
  | .not a => (match x with
    | .UnaryOp .Not y _ => t cx a y
    | _ => false)
  | .and a b => (match x with
    | .BoolOp .And (y :: z :: r) pos => t cx a y && (if r.isEmpty then t cx b z else t cx b (.BoolOp .And (z :: r) pos))
    | _ => false)
  | .or a b => (match x with
    | .BoolOp .Or (y :: z :: r) pos => t cx a y && (if r.isEmpty then t cx b z else t cx b (.BoolOp .Or (z :: r) pos))
    | _ => false)
  | .cmp o a b => (match x with
    | .Compare l [op] [r] _ => decide (op = o.py) && !(behindInMarks o.py r) && e cx a l && e cx b r
    | _ => false)
  | .chain o o' a b c => (match x with
    | .Compare l [op, op'] [r, s] _ => decide (op = o.py) && decide (op' = o'.py) && !(lastMarks [o.py, o'.py] [r, s]) && e cx a l && e cx b r && e cx c s
    | _ => false)
  | k => tvOk x && e cx k x
def chkP (gl : Str → Option Dt) : Nat → (Ctx → C → Expr → Bool) × (Ctx → C → Expr → Bool)
  | 0 => (fun _ _ _ => false, fun _ _ _ => false)
  | n + 1 => (chkStep gl (chkP gl n).1 (chkP gl n).2, chkTStep (chkP gl n).1 (chkP gl n).2)
/-! ### parts -/
section
variable {X : Cx} {W : WX} {f : C → Expr → Bool} {g : C → Sl → Hs → R Ev} {tf : C → Expr → Bool} {tg : C → Sl → Hs → R Bool}
theorem pa_of (h : ∀ k x, f k x = true → PE X x (tE X.mg X.K W (g k))) : ∀ {ks : List C} {es : List Expr}, chks f ks es = true → PA X es (tA X.mg X.K W (evs g ks))
  | [], [], _ => s_nil
  | [], _ :: _, q => by cases q
  | _ :: _, [], q => by cases q
  | k :: ks, e :: es, q => by
    simp only [chks, Bool.and_eq_true] at q
    exact s_cons (star_cons q.1.1) (h k e q.1.2) (pa_of h q.2)
theorem pp_of {pos : Pos} (h : ∀ k x, f k x = true → PE X x (tE X.mg X.K W (g k))) : ∀ {l : List (C × C)} {ks : List (Option Expr)} {vs : List Expr}, chkp f l ks vs = true → PPok X X.mg W pos ks vs (evp g l) ∧ ks.all (·.isSome) = true ∧ ks.length = vs.length
  | [], [], [], _ => ⟨pp_nil, rfl, rfl⟩
  | [], [], _ :: _, q => by cases q
  | [], _ :: _, _, q => by cases q
  | (_, _) :: _, [], _, q => by cases q
  | (_, _) :: _, none :: _, _, q => by cases q
  | (_, _) :: _, some _ :: _, [], q => by cases q
  | (a, b) :: l, some k :: ks, v :: vs, q => by
    simp only [chkp, Bool.and_eq_true] at q
    obtain ⟨h1, h2, h3⟩ := pp_of h q.2
    exact ⟨pp_cons (h a k q.1.1) (h b v q.1.2) h1, by rw [List.all_cons, h2]; rfl, by rw [List.length_cons, List.length_cons, h3]⟩
theorem po_of (h : ∀ k x, f k x = true → PE X x (tE X.mg X.K W (g k))) : ∀ {o : Option C} {e : Option Expr}, chko f o e = true → PO X e (fun σ H Q => ∃ F A σe h, Cs X.K F A h H ∧ Ss X.K F A h H σe σ ∧ Hsm X.K H ∧ Ou X.mg X.K W F A h H σ (evo g o σe h) fun v A' h' H' => Q v H')
  | none, none, _ => s_po (.inl ⟨rfl, rfl⟩)
  | none, some _, q => by cases q
  | some _, none, q => by cases q
  | some c, some e, q => s_po (.inr ⟨e, g c, rfl, h c e q, rfl⟩)
theorem pd_of (h : ∀ k x, f k x = true → PE X x (tE X.mg X.K W (g k))) {l : List (C × C)} {x : Expr} (q : chkD f l x = true) : PE X x (tE X.mg X.K W (dispE g l)) := by
  unfold chkD at q
  split at q
  · rename_i ks vs pos
    cases l with
    | nil =>
      have q : (ks.isEmpty && vs.isEmpty) = true := q
      rw [Bool.and_eq_true] at q
      cases ks with
      | cons => cases q.1
      | nil =>
        cases vs with
        | cons => cases q.2
        | nil => exact s_disp0
    | cons p l =>
      have q : (chkp f (p :: l) ks vs && decide (ks.length ≤ 15)) = true := q
      rw [Bool.and_eq_true, decide_eq_true_eq] at q
      obtain ⟨h1, h2, h3⟩ := pp_of (pos := pos) h q.1
      refine s_disp h1 h2 h3 (fun z => ?_) q.2
      subst z
      obtain ⟨a, b⟩ := p
      cases q.1
  · cases q
theorem pts_of (h : ∀ k x, tf k x = true → PT X x (tT X.mg X.K W (tg k))) : ∀ {c : Option C} {ifs : List Expr}, chkC tf c ifs = true → PTs X ifs (tT X.mg X.K W (cnd tg c))
  | none, [], _ => ⟨fun pins s σ H Q I ⟨F, A, σe, h, c, s0, o⟩ => pts_nil.run pins s σ H Q I (Ou.here c (Hsm.of I) o)⟩
  | none, _ :: _, q => by cases q
  | some _, [], q => by cases q
  | some _, _ :: _ :: _, q => by cases q
  | some c, [x], q => pts_one (h c x q)
theorem star1 {a : Expr} {env : Env} (h : notStar a = true) : starEach [a] env = [(false, eval a env)] := star_cons h
theorem pi_of {cx : Ctx} {CX : CXT} {k : Nat} {cl : Str → List Ev → Hs → R Ev} {gl : Str → Option Dt} (r : Rx X cx CX k W cl gl) (h : ∀ k x, f k x = true → PE X x (tE X.mg X.K W (g k))) {it : It} {x tge : Expr} (q : chkI f cx it x = true) (ht : prOf it = true → ∃ elts kk tpos, tge = .Tuple elts kk tpos) :
    PI X tge x (iEv X.mg X.K W (prOf it) (itE g it)) := by
  have bl : ∀ s, s ∈ blts → X.mg s = none := r.blt
  cases it with
  | val c =>
    simp only [chkI, Bool.and_eq_true] at q
    exact i_val (h c x q.2)
  | rng l =>
    simp only [chkI] at q
    split at q
    · simp only [Bool.and_eq_true, decide_eq_true_eq] at q
      obtain ⟨⟨⟨rfl, q2⟩, q3⟩, q4⟩ := q
      have hg := r.rt.glb q2
      have hm := bl "range" (by decide)
      rename_i es p2
      match l, es, q3, q4 with
      | [], [], _, q4 => simp at q4
      | [], _ :: _, q3, _ => cases q3
      | _ :: _, [], q3, _ => cases q3
      | [a], [e], q3, _ =>
        simp only [chks, Bool.and_eq_true] at q3
        exact i_rng1 hg hm (h a e q3.1.2) (star1 q3.1.1)
      | [a], _ :: _ :: _, q3, _ => simp [chks] at q3
      | _ :: _ :: _, [e], q3, _ => simp [chks] at q3
      | [a, b], [e, e2], q3, _ =>
        simp only [chks, Bool.and_eq_true] at q3
        exact i_rng2 hg hm (h a e q3.1.2) (h b e2 q3.2.1.2) (star_cons q3.1.1) (star1 q3.2.1.1)
      | [a, b], _ :: _ :: _ :: _, q3, _ => simp [chks] at q3
      | _ :: _ :: _ :: _, [e, e2], q3, _ => simp [chks] at q3
      | [a, b, d], [e, e2, e3], q3, _ =>
        simp only [chks, Bool.and_eq_true] at q3
        exact i_rng3 hg hm (h a e q3.1.2) (h b e2 q3.2.1.2) (h d e3 q3.2.2.1.2) (star_cons q3.1.1) (star_cons q3.2.1.1) (star1 q3.2.2.1.1)
      | _, _ :: _ :: _ :: _ :: _, _, q4 => simp at q4
      | _ :: _ :: _ :: _ :: _, [e, e2, e3], q3, _ => simp [chks] at q3
    · cases q
  | enm c =>
    simp only [chkI] at q
    split at q
    · simp only [Bool.and_eq_true, decide_eq_true_eq] at q
      obtain ⟨⟨⟨rfl, q2⟩, q3⟩, q4⟩ := q
      obtain ⟨elts, kk, tpos, rfl⟩ := ht rfl
      exact i_enm (r.rt.glb q2) (bl "enumerate" (by decide)) (h c _ q4) (star1 q3)
    · cases q
  | zip a b =>
    simp only [chkI] at q
    split at q
    · simp only [Bool.and_eq_true, decide_eq_true_eq] at q
      obtain ⟨⟨⟨⟨⟨rfl, q2⟩, q3⟩, q4⟩, q5⟩, q6⟩ := q
      obtain ⟨elts, kk, tpos, rfl⟩ := ht rfl
      exact i_zip (r.rt.glb q2) (bl "zip" (by decide)) (h a _ q5) (h b _ q6) (star_cons q3) (star1 q4)
    · cases q
  | rvs c =>
    simp only [chkI] at q
    split at q
    · simp only [Bool.and_eq_true, decide_eq_true_eq] at q
      obtain ⟨⟨⟨rfl, q2⟩, q3⟩, q4⟩ := q
      exact i_rvs (r.rt.glb q2) (bl "reversed" (by decide)) (h c _ q4) (star1 q3)
    · cases q
  | keys => cases q
  | items => cases q
end
end EV

/-! EV19: the checker of expressions is right -/
namespace EV
open PySem PySem.Spec PySem.SeqAt L2
theorem boot_abs0 : bootBuiltins "abs" = some (.builtin "abs") := by decide +kernel
section
variable {X : Cx} {c : Ctx} {CX : CXT} {k : Nat} {W : WX} {cl : Str → List Ev → Hs → R Ev} {gl : Str → Option Dt}
theorem tp_shape {cx : Ctx} {n : Nat} {tg : Tg} {e : Expr} {it : It} (h : chkG cx n tg e = true) (h2 : (!prOf it || isTp tg) = true) : prOf it = true → ∃ elts kk tpos, e = .Tuple elts kk tpos := fun hp => by
  rw [hp] at h2
  cases tg with
  | tp ts =>
    cases n with
    | zero => cases h
    | succ n =>
      unfold chkG at h
      split at h
      · cases ‹_ = 0›
      · cases ‹_ = Tg.nm _›
      · exact ⟨_, _, _, rfl⟩
      · cases h
  | _ => simp [isTp] at h2
theorem pr_tp {it : It} {tg : Tg} (h2 : (!prOf it || isTp tg) = true) : prOf it = true → isTp tg = true := fun hp => by
  rw [hp] at h2
  simpa using h2
theorem s_bf {f : Bf} {y : Expr} {es : List Expr} {p pos : Pos} {rs : TR (List Ev)} (mk : Bool) (r : Rx X c CX k W cl gl) (hf : isLr f = false) (hg : Gl X f.nm) (ha : PA X (y :: es) (tA X.mg X.K W rs)) (hn : (y :: es).all notStar = true) :
    PE X (.Call (.Name f.nm p) (y :: es) [] pos) (tE X.mg X.K W fun σ h => (rs σ h).bind fun vs h => lift (bf mk f vs h)) := by
  rw [List.all_cons, Bool.and_eq_true] at hn
  have he := star_cons (env := X.env) (es := es) hn.1
  have hp := star_none (env := X.env) (pos := pos) hn.2
  have m : ∀ s, s ∈ blts → X.mg s = none := r.blt
  cases f with
  | len => exact s_call (pe_callB (cr_len mk) hg (m _ (by decide)) boot_len ha (by decide) (by decide) he hp)
  | tuple => exact s_call (pe_callTy (cr_tuple mk) hg (m _ (by decide)) PyProof.Rows.boot_tuple ha (by decide) (by decide) he hp)
  | list => exact s_call (pe_callTy (cr_list mk) hg (m _ (by decide)) PyProof.Rows.boot_list ha (by decide) (by decide) he hp)
  | lrange => cases hf
  | sorted => exact s_call (pe_callB (cr_sorted mk r.rt.calm r.rt.un) hg (m _ (by decide)) PyProof.Rows.boot_sorted ha (by decide) (by decide) he hp)
  | repr => exact s_call (pe_callB (cr_repr mk r.rt.gd r.rt.un) hg (m _ (by decide)) PyProof.Rows.boot_repr ha (by decide) (by decide) he hp)
  | min => exact s_call (pe_callB (cr_min mk r.rt.calm r.rt.un) hg (m _ (by decide)) PyProof.Rows.boot_min ha (by decide) (by decide) he hp)
  | max => exact s_call (pe_callB (cr_max mk r.rt.calm r.rt.un) hg (m _ (by decide)) PyProof.Rows.boot_max ha (by decide) (by decide) he hp)
  | sum => exact s_call (pe_callB (cr_sum mk r.rt.calm) hg (m _ (by decide)) PyProof.Rows.boot_sum ha (by decide) (by decide) he hp)
  | all => exact s_call (pe_callB (cr_all mk r.rt.calm) hg (m _ (by decide)) PyProof.Rows.boot_all ha (by decide) (by decide) he hp)
  | any => exact s_call (pe_callB (cr_any mk r.rt.calm) hg (m _ (by decide)) PyProof.Rows.boot_any ha (by decide) (by decide) he hp)
  | abs => exact s_call (pe_callB (cr_abs mk) hg (m _ (by decide)) boot_abs0 ha (by decide) (by decide) he hp)
  | min2 => exact s_call (pe_callB (cr_min2 mk r.rt.calm) hg (m _ (by decide)) PyProof.Rows.boot_min ha (by decide) (by decide) he hp)
  | max2 => exact s_call (pe_callB (cr_max2 mk r.rt.calm) hg (m _ (by decide)) PyProof.Rows.boot_max ha (by decide) (by decide) he hp)
theorem tab_of (r : Rx X c CX k W cl gl) (f : Mf) : MTab X f f.nm := by
  cases f with
  | append => exact tab_append
  | extend => exact tab_extend
  | pop => exact tab_pop
  | popAt => exact tab_popAt
  | index => exact tab_index
  | get => exact tab_get r.rt.un
  | count => exact tab_count r.rt.un
  | update => exact tab_update
end
/-- what is known of parts -/
def EOk (CX : CXT) (k : Nat) (cl : Str → List Ev → Hs → R Ev) (gl : Str → Option Dt) (e : Ctx → C → Expr → Bool) (g : C → Sl → Hs → R Ev) : Prop :=
  ∀ (X : Cx) (c : Ctx) (W : WX), Rx X c CX k W cl gl → ∀ kk x, e c kk x = true → PE X x (tE X.mg X.K W (g kk))
def TOk (CX : CXT) (k : Nat) (cl : Str → List Ev → Hs → R Ev) (gl : Str → Option Dt) (t : Ctx → C → Expr → Bool) (g : C → Sl → Hs → R Bool) : Prop :=
  ∀ (X : Cx) (c : Ctx) (W : WX), Rx X c CX k W cl gl → ∀ kk x, t c kk x = true → PT X x (tT X.mg X.K W (g kk))
variable {CX : CXT} {k : Nat} {cl : Str → List Ev → Hs → R Ev} {gl : Str → Option Dt} {e t : Ctx → C → Expr → Bool} {ge : C → Sl → Hs → R Ev} {gt : C → Sl → Hs → R Bool}
theorem lc_ok (he : EOk CX k cl gl e ge) (ht : TOk CX k cl gl t gt) {X : Cx} {c : Ctx} {W : WX} (r : Rx X c CX k W cl gl) {mk : Bool} {el : C} {tg : Tg} {it : It} {cc : Option C} {vs : List Nat} {x : Expr} (q : chkStep gl e t c (.lc mk el tg it cc vs) x = true) :
    PE X x (tE X.mg X.K W (evStep cl gl ge gt (.lc mk el tg it cc vs))) := by
  simp only [chkStep] at q
  split at q
  · simp only [Bool.and_eq_true, decide_eq_true_eq] at q
    obtain ⟨⟨⟨⟨⟨⟨⟨⟨rfl, q1⟩, q2⟩, q3⟩, q4⟩, q5⟩, q6⟩, q7⟩, q8⟩ := q
    rename_i elt tge iter ifs scope pos
    have ok : BlkOk X.N X.env.scope scope (ownOf c vs) := by rw [r.rt.N, r.rt.sc]; exact blkOk_by q3
    have own := ownOf_snd c vs
    have q6' : (!prOf it || isTp tg) = true := by simpa using q6
    have := s_lc (X := X) (mg := X.mg) (W := W) (pos := pos) (ix := tgIx 8 tg) (own := ownOf c vs) mk r.rt.calm r.rt.nd (pi_of r (he X c W r) q1 (tp_shape q5 q6')) ok
      (by rw [own]; intro i hi; simpa using List.all_eq_true.mp q4 i hi)
      (fun s H C cl fp => pg_pr (r.blk ok s H C cl fp).rt q5 (pr_tp q6')) (fun s H C cl fp => pts_of (ht _ _ _ (r.blk ok s H C cl fp)) q7) (fun s H C cl fp => he _ _ _ (r.blk ok s H C cl fp) el elt q8) (fun x => fs_plain q2 _ x)
    rw [own] at this
    exact this
  · cases q
theorem lc2_ok (he : EOk CX k cl gl e ge) (ht : TOk CX k cl gl t gt) {X : Cx} {c : Ctx} {W : WX} (r : Rx X c CX k W cl gl) {mk : Bool} {el : C} {tg tg1 : Tg} {it it1 : It} {cc cc1 : Option C} {vs vs1 : List Nat} {x : Expr} (q : chkStep gl e t c (.lc2 mk el tg it cc tg1 it1 cc1 vs vs1) x = true) :
    PE X x (tE X.mg X.K W (evStep cl gl ge gt (.lc2 mk el tg it cc tg1 it1 cc1 vs vs1))) := by
  simp only [chkStep] at q
  split at q
  · simp only [Bool.and_eq_true, decide_eq_true_eq] at q
    obtain ⟨⟨⟨⟨⟨⟨⟨⟨⟨⟨⟨⟨⟨⟨⟨⟨rfl, rfl⟩, q1⟩, q2⟩, q3⟩, q4⟩, q5⟩, q6⟩, q7⟩, q8⟩, q9⟩, q10⟩, q11⟩, q12⟩, q13⟩, q14⟩, q15⟩ := q
    rename_i elt tge iter ifs tge1 iter1 ifs1 scope pos
    have ok : BlkOk X.N X.env.scope scope (ownOf c vs) := by rw [r.rt.N, r.rt.sc]; exact blkOk_by q3
    have own := ownOf_snd c vs
    have q6' : (!prOf it || isTp tg) = true := by simpa using q6
    have q14' : (!prOf it1 || isTp tg1) = true := by simpa using q14
    have := s_lc2 (X := X) (mg := X.mg) (W := W) (pos := pos) (ix := tgIx 8 tg) (ix1 := tgIx 8 tg1) (vs1 := vs1) (own := ownOf c vs) mk r.rt.calm r.rt.nd (pi_of r (he X c W r) q1 (tp_shape q5 q6')) ok
      (by rw [own]; intro i hi; simpa using List.all_eq_true.mp q9 i hi) (by rw [own]; intro i hi; simpa using List.all_eq_true.mp q4 i hi) (by intro i hi; simpa using List.all_eq_true.mp q12 i hi)
      (fun s H C cl fp => pg_pr (r.blk ok s H C cl fp).rt q5 (pr_tp q6')) (fun s H C cl fp => pts_of (ht _ _ _ (r.blk ok s H C cl fp)) q7)
      (fun s H C cl fp => pi_of (r.blk ok s H C cl fp) (he _ _ _ (r.blk ok s H C cl fp)) q10 (tp_shape q13 q14'))
      (fun s H C cl fp => pg_pr (r.blk ok s H C cl fp).rt q13 (pr_tp q14')) (fun s H C cl fp => pts_of (ht _ _ _ (r.blk ok s H C cl fp)) q15)
      (fun s H C cl fp => he _ _ _ (r.blk ok s H C cl fp) el elt q8) (fun x => fs_plain q2 _ x) (fun env x => fs_plain q11 env x)
    rw [own] at this
    exact this
  · cases q
theorem step_e (he : EOk CX k cl gl e ge) (ht : TOk CX k cl gl t gt) : EOk CX k cl gl (chkStep gl e t) (evStep cl gl ge gt) := by
  intro X c W r kk x q
  have hE := he X c W r
  have hT := ht X c W r
  cases kk with
  | k d =>
    simp only [chkStep] at q
    split at q
    · rename_i v j pos
      cases d <;> cases v <;> first | (cases q; done) | skip
      · exact s_k pe_non fun _ _ => .non
      · have := of_decide_eq_true q; subst this; exact s_k pe_bl fun _ _ => .bl _
      · have := of_decide_eq_true q; subst this; exact s_k pe_int fun _ _ => .int _
      · have := of_decide_eq_true q; subst this; exact s_k pe_str fun _ _ => .str _
    · cases q
  | var i =>
    simp only [chkStep] at q
    split at q
    · simp only [Bool.and_eq_true, decide_eq_true_eq, Bool.not_eq_true'] at q
      obtain ⟨⟨⟨q1, q2⟩, q3⟩, q4⟩ := q
      exact s_var (by rw [r.rt.N]; exact q1) (r.rt.vis q2) q3 q4
    · cases q
  | gl y =>
    simp only [chkStep] at q
    split at q
    · simp only [Bool.and_eq_true, decide_eq_true_eq] at q
      obtain ⟨⟨rfl, q2⟩, q3⟩ := q
      cases eg : gl y with
      | none => rw [eg] at q3; cases q3
      | some d =>
        obtain ⟨dbg, u, v, h1, h2, h3⟩ := r.glo y d eg
        have := s_k (mg := X.mg) (W := W) (pe_glob (pos := ‹Pos›) (r.rt.glb q2) h1 h2 dbg) h3
        show PE X _ (tE X.mg X.K W fun σ h => match gl y with
          | some d => .ok (.d d) h
          | none => .bad)
        rw [eg]
        exact this
    · cases q
  | bin mk o a b =>
    simp only [chkStep] at q
    split at q
    · simp only [Bool.and_eq_true, decide_eq_true_eq] at q
      obtain ⟨⟨rfl, q2⟩, q3⟩ := q
      exact s_bin mk o (hE _ _ q2) (hE _ _ q3)
    · cases q
  | neg a =>
    simp only [chkStep] at q
    split at q
    · exact s_neg (hE _ _ q)
    · cases q
  | not a =>
    simp only [chkStep] at q
    split at q
    · exact s_not (hE _ _ q)
    · cases q
  | and a b =>
    simp only [chkStep] at q
    split at q
    · rename_i y z rest pos
      rw [Bool.and_eq_true] at q
      cases rest with
      | nil => exact s_and (hE _ _ q.1) (s_one (hE _ _ q.2))
      | cons w ws => exact s_and (hE _ _ q.1) (hE _ _ q.2)
    · cases q
  | or a b =>
    simp only [chkStep] at q
    split at q
    · rename_i y z rest pos
      rw [Bool.and_eq_true] at q
      cases rest with
      | nil => exact s_or (hE _ _ q.1) (s_one (hE _ _ q.2))
      | cons w ws => exact s_or (hE _ _ q.1) (hE _ _ q.2)
    · cases q
  | cmp o a b =>
    simp only [chkStep] at q
    split at q
    · simp only [Bool.and_eq_true, decide_eq_true_eq, Bool.not_eq_true'] at q
      obtain ⟨⟨⟨rfl, q2⟩, q3⟩, q4⟩ := q
      exact s_cmp r.rt.un o q2 (hE _ _ q3) (hE _ _ q4)
    · cases q
  | chain o o' a b d =>
    simp only [chkStep] at q
    split at q
    · simp only [Bool.and_eq_true, decide_eq_true_eq, Bool.not_eq_true'] at q
      obtain ⟨⟨⟨⟨⟨rfl, rfl⟩, q2⟩, q3⟩, q4⟩, q5⟩ := q
      exact s_chain r.rt.un o o' q2 (hE _ _ q3) (hE _ _ q4) (hE _ _ q5)
    · cases q
  | ifx qq a b =>
    simp only [chkStep] at q
    split at q
    · simp only [Bool.and_eq_true] at q
      exact s_ifx (hT _ _ q.1.1) (hE _ _ q.1.2) (hE _ _ q.2)
    · cases q
  | tup l =>
    simp only [chkStep] at q
    split at q
    · exact s_tup (pa_of hE q)
    · cases q
  | lst mk l =>
    simp only [chkStep] at q
    split at q
    · exact s_lst mk (pa_of hE q)
    · cases q
  | dict l => exact pd_of hE q
  | ix a b =>
    simp only [chkStep] at q
    split at q
    · simp only [Bool.and_eq_true] at q
      exact s_ix r.rt.un (ix_plain q.1.1) (hE _ _ q.1.2) (hE _ _ q.2)
    · cases q
  | sl mk a lo hi =>
    simp only [chkStep] at q
    split at q
    · simp only [Bool.and_eq_true] at q
      exact s_sl mk (hE _ _ q.1.1) (po_of hE q.1.2) (po_of hE q.2)
    · cases q
  | rev mk a =>
    simp only [chkStep] at q
    split at q
    · exact s_revL mk (hE _ _ q)
    · cases q
  | call f l =>
    simp only [chkStep] at q
    split at q
    · simp only [Bool.and_eq_true, decide_eq_true_eq] at q
      obtain ⟨⟨⟨rfl, q2⟩, q3⟩, q4⟩ := q
      rename_i es pos
      have hn := chks_plain q4
      cases es with
      | nil =>
        cases l with
        | nil => exact s_fcall0 r q2 (r.rt.glb q3)
        | cons => cases q4
      | cons y ys =>
        have hn' := hn
        rw [List.all_cons, Bool.and_eq_true] at hn'
        exact s_fcall r q2 (r.rt.glb q3) (pa_of hE q4) (star_cons hn'.1) (star_none hn'.2)
    · cases q
  | b mk f l =>
    simp only [chkStep] at q
    split at q
    · rename_i hlr
      split at q
      · simp only [Bool.and_eq_true, decide_eq_true_eq] at q
        obtain ⟨⟨⟨⟨⟨rfl, rfl⟩, q3⟩, q4⟩, q5⟩, q6⟩ := q
        cases f <;> first | (cases hlr; done) | skip
        have hg := r.rt.glb q3
        have hg2 := r.rt.glb q4
        have hm := r.blt "list" (by decide)
        have hm2 := r.blt "range" (by decide)
        rename_i p1 p2 es pos2 pos
        match l, es, q5, q6 with
        | [], [], _, q6 => simp at q6
        | [], _ :: _, q5, _ => cases q5
        | _ :: _, [], q5, _ => cases q5
        | [a], [e1], q5, _ =>
          simp only [chks, Bool.and_eq_true] at q5
          exact s_lrg1 mk r.rt.calm hg hm hg2 hm2 (star_cons q5.1.1) (hE a e1 q5.1.2)
        | [a], _ :: _ :: _, q5, _ => simp [chks] at q5
        | _ :: _ :: _, [e1], q5, _ => simp [chks] at q5
        | [a, b], [e1, e2], q5, _ =>
          simp only [chks, Bool.and_eq_true] at q5
          refine s_lrg2 mk r.rt.calm hg hm hg2 hm2 (star_cons q5.1.1) (star_cons q5.2.1.1) ?_ (hE a e1 q5.1.2) (hE b e2 q5.2.1.2)
          rw [star_cons q5.2.1.1]
          rfl
        | _, _ :: _ :: _ :: _, _, q6 => simp at q6
        | _ :: _ :: _ :: _, [e1, e2], q5, _ => simp [chks] at q5
      · cases q
    · rename_i hlr
      split at q
      · simp only [Bool.and_eq_true, decide_eq_true_eq] at q
        obtain ⟨⟨rfl, q2⟩, q3⟩ := q
        exact s_bf mk r (by simpa using hlr) (r.rt.glb q2) (pa_of hE q3) (chks_plain q3)
      · cases q
  | m f o l =>
    simp only [chkStep] at q
    split at q
    · simp only [Bool.and_eq_true, decide_eq_true_eq] at q
      obtain ⟨⟨⟨⟨⟨rfl, q2⟩, q3⟩, q4⟩, q5⟩, q6⟩ := q
      rename_i ob apos es cpos
      have hn := chks_plain q5
      cases es with
      | nil =>
        cases l with
        | nil => exact s_m0 (tab_of r f) (hE _ _ q4) (ab_plain q2 _ _ _) q3
        | cons => cases q5
      | cons y ys =>
        have hn' := hn
        rw [List.all_cons, Bool.and_eq_true] at hn'
        refine s_m (tab_of r f) (hE _ _ q4) (pa_of hE q5) (ab_plain q2 _ _ _) ?_ q3 (star_cons hn'.1) (star_none hn'.2)
        rw [star_all hn]
        have : (y :: ys).length + 0 + 0 < 30 := by omega
        show (true && true && decide ((y :: ys).length + 0 + 0 < 30)) = true
        rw [decide_eq_true this]
        rfl
    · cases q
  | upd o l =>
    simp only [chkStep] at q
    split at q
    · simp only [Bool.and_eq_true, decide_eq_true_eq] at q
      obtain ⟨⟨⟨⟨rfl, q2⟩, q3⟩, q4⟩, q5⟩ := q
      rename_i ob apos d cpos
      have pd := pd_of hE q5
      cases d <;> first | (cases q5; done) | skip
      exact s_upd (hE _ _ q4) pd (ab_plain q2 _ _ _) q3
    · cases q
  | lc mk el tg it cc vs => exact lc_ok he ht r q
  | lc2 mk el tg it cc tg1 it1 cc1 vs vs1 => exact lc2_ok he ht r q
end EV

/-! EV20: tests; both by fuel; statements' evaluator -/
namespace EV
open PySem PySem.Spec PySem.SeqAt L2
variable {CX : CXT} {k : Nat} {cl : Str → List Ev → Hs → R Ev} {gl : Str → Option Dt} {e t : Ctx → C → Expr → Bool} {ge : C → Sl → Hs → R Ev} {gt : C → Sl → Hs → R Bool}
theorem pw_bool {X : Cx} {op : BoolOp} {l : List Expr} {pos : Pos} {tt : TT} (h : PT X (.BoolOp op l pos) tt) : PW X (.BoolOp op l pos) tt := ⟨fun wh pins s σ H Q I q => h.run pins s σ H Q I q⟩
theorem step_t (he : EOk CX k cl gl e ge) (ht : TOk CX k cl gl t gt) : TOk CX k cl gl (chkTStep e t) (tvStep ge gt) := by
  intro X c W r kk x q
  have hE := he X c W r
  have hT := ht X c W r
  have dflt : (tvOk x && e c kk x) = true → PT X x (tT X.mg X.K W fun σ h => (ge kk σ h).bind fun v h => match truth v h with
      | some k => .ok k h
      | none => .bad) := fun q => by
    rw [Bool.and_eq_true] at q
    exact t_val (hE _ _ q.2) (tv_plain q.1 _)
  cases kk with
  | not a =>
    simp only [chkTStep] at q
    split at q
    · exact t_not (hT _ _ q)
    · cases q
  | and a b =>
    simp only [chkTStep] at q
    split at q
    · rename_i y z rest pos
      rw [Bool.and_eq_true] at q
      cases rest with
      | nil => exact (t_and (hT _ _ q.1) (pw_and1 (hT _ _ q.2))).pt
      | cons w ws => exact (t_and (hT _ _ q.1) (pw_bool (hT _ _ q.2))).pt
    · cases q
  | or a b =>
    simp only [chkTStep] at q
    split at q
    · rename_i y z rest pos
      rw [Bool.and_eq_true] at q
      cases rest with
      | nil => exact (t_or (hT _ _ q.1) (pw_or1 (hT _ _ q.2))).pt
      | cons w ws => exact (t_or (hT _ _ q.1) (pw_bool (hT _ _ q.2))).pt
    · cases q
  | cmp o a b =>
    simp only [chkTStep] at q
    split at q
    · simp only [Bool.and_eq_true, decide_eq_true_eq, Bool.not_eq_true'] at q
      obtain ⟨⟨⟨rfl, q2⟩, q3⟩, q4⟩ := q
      exact t_cmp r.rt.un o q2 (hE _ _ q3) (hE _ _ q4)
    · cases q
  | chain o o' a b d =>
    simp only [chkTStep] at q
    split at q
    · simp only [Bool.and_eq_true, decide_eq_true_eq, Bool.not_eq_true'] at q
      obtain ⟨⟨⟨⟨⟨rfl, rfl⟩, q2⟩, q3⟩, q4⟩, q5⟩ := q
      exact t_chain r.rt.un o o' q2 (hE _ _ q3) (hE _ _ q4) (hE _ _ q5)
    · cases q
  | k d => exact dflt q
  | var i => exact dflt q
  | gl y => exact dflt q
  | bin mk o a b => exact dflt q
  | neg a => exact dflt q
  | ifx a b d => exact dflt q
  | tup l => exact dflt q
  | lst mk l => exact dflt q
  | dict l => exact dflt q
  | ix a b => exact dflt q
  | sl mk a lo hi => exact dflt q
  | rev mk a => exact dflt q
  | call f l => exact dflt q
  | b mk f l => exact dflt q
  | m f o l => exact dflt q
  | upd o l => exact dflt q
  | lc mk el tg it cc vs => exact dflt q
  | lc2 mk el tg it cc tg1 it1 cc1 vs vs1 => exact dflt q
theorem chk_ok (CX : CXT) (k : Nat) (cl : Str → List Ev → Hs → R Ev) (gl : Str → Option Dt) : ∀ n, EOk CX k cl gl (chkP gl n).1 (ev cl gl n) ∧ TOk CX k cl gl (chkP gl n).2 (tv cl gl n)
  | 0 => ⟨fun _ _ _ _ _ _ q => (by cases q), fun _ _ _ _ _ _ q => (by cases q)⟩
  | n + 1 =>
    let ⟨h1, h2⟩ := chk_ok CX k cl gl n
    ⟨step_e h1 h2, step_t h1 h2⟩
/-! ### statements -/
def RS.then (r : RS) (f : Sl → Hs → RS) : RS := match r with
  | .nx σ h => f σ h
  | r => r
def exB (x : S → Sl → Hs → RS) : List S → Sl → Hs → RS
  | [], σ, h => .nx σ h
  | s :: r, σ, h => (x s σ h).then (exB x r)
def ofR {α : Type} (r : R α) (σ : Sl) (f : α → Hs → RS) : RS := match r with
  | .ok a h => f a h
  | .ex x h => .ex x σ h
  | .bad => .bad
def whileE (t : Sl → Hs → R Bool) (b : Sl → Hs → RS) : Nat → Sl → Hs → RS
  | 0, _, _ => .bad
  | m + 1, σ, h => ofR (t σ h) σ fun k h => match k with
    | false => .nx σ h
    | true => match b σ h with
      | .nx σ h => whileE t b m σ h
      | .ct σ h => whileE t b m σ h
      | .bk σ h => .nx σ h
      | r => r
def forE (t : Dt → Sl → Option Sl) (b : Sl → Hs → RS) (g : Gu) : List Dt → Sl → Hs → RS
  | [], σ, h => if guOk g h then .nx σ h else .bad
  | x :: xs, σ, h => if guOk g h then match t x σ with
      | none => .bad
      | some σ' => match b σ' h with
        | .nx σ h => forE t b g xs σ h
        | .ct σ h => forE t b g xs σ h
        | .bk σ h => .nx σ h
        | r => r
    else .bad
/-- several slots at once -/
def setsE : List Nat → List Ev → Sl → Option Sl
  | [], [], σ => some σ
  | i :: is, v :: vs, σ => if i < σ.length then setsE is vs (σ.set i (some v)) else none
  | _, _, _ => none
/-- o[i] = v, the value seen first -/
def putE (v o i : Ev) (h : Hs) : Option Hs := (frz v h).bind fun (d, h) => match o, i with
  | .r n, .d k => match h[n]?, k with
    | some (.lst xs), .int j => match ixN xs.length j with
      | some m => some (h.set n (.lst (xs.set m d)))
      | none => none
    | some (.dic false kvs), k => match toKey k with
      | some k => if kvs.length < sizeLine then some (h.set n (.dic false (put kvs k d))) else none
      | none => none
    | _, _ => none
  | _, _ => none
/-- what a plain target does -/
def setE (n : Nat) (t : Tg) (v : Ev) (σ : Sl) (h : Hs) : Option (Sl × Hs) := match t with
  | .nm i => if i < σ.length then some (σ.set i (some v), h) else none
  | .tp ts => match peek v h with
    | some d => (asgD n (.tp ts) d σ).map fun σ => (σ, h)
    | none => none
  | .star ts i => match v with
    | .d (.tuple ds) => if ds.length ≤ 16384 ∧ ts.length ≤ ds.length then (asgs (asgD n) (ts ++ [.nm i]) (ds.take ts.length ++ [.list (ds.drop ts.length)]) σ).map fun σ => (σ, h) else none
    | _ => none
  | .sub _ _ => none
section
variable (e : C → Sl → Hs → R Ev) (tt : C → Sl → Hs → R Bool) (wb : Nat)
def exStep (x : S → Sl → Hs → RS) (s : S) (σ : Sl) (h : Hs) : RS := match s with
  | .set (.sub o i) c => ofR (e c σ h) σ fun v h => ofR (e o σ h) σ fun o h => ofR (e i σ h) σ fun i h => match putE v o i h with
    | some h => .nx σ h
    | none => .bad
  | .set t c => ofR (e c σ h) σ fun v h => match setE 8 t v σ h with
    | some (σ, h) => .nx σ h
    | none => .bad
  | .par is cs => ofR (evs e cs σ h) σ fun vs h => match setsE is vs σ with
    | some σ => .nx σ h
    | none => .bad
  | .ex c => ofR (e c σ h) σ fun _ h => .nx σ h
  | .rt c => ofR (e c σ h) σ fun v h => .rt v h
  | .rtn => .rt (.d .none) h
  | .iff c a b => ofR (tt c σ h) σ fun k h => match k with
    | true => exB x a σ h
    | false => exB x b σ h
  | .whl c b => whileE (tt c) (exB x b) wb σ h
  | .forr t it b => ofR (itE e it σ h) σ fun p h => forE (asgD 8 t) (exB x b) p.2 p.1 σ h
  | .brk => .bk σ h
  | .cnt => .ct σ h
  | .pas => .nx σ h
  | _ => .bad
def exN : Nat → S → Sl → Hs → RS
  | 0, _, _, _ => .bad
  | n + 1, s, σ, h => exStep e tt wb (exN n) s σ h
end
end EV

/-! EV21: statements -/
namespace EV
open PySem PySem.Spec PySem.SeqAt L2
section
variable {mg : Str → Option Value} {K : PySem.W.Frag} {W : WX} {F : Addr → Prop} {A A1 : List Addr} {h h1 : Hs} {H H1 : Hp} {σ : L2.St} {σe : Sl} {D : Ends}
def OuS (mg : Str → Option Value) (K : PySem.W.Frag) (W : WX) (F : Addr → Prop) (A : List Addr) (h : Hs) (H : Hp) (r : RS) (D : Ends) : Prop :=
  match r with
  | .nx σe' h' => ∀ A' H' σ', Po K F A h H A' h' H' → Hsm K H' → Ss K F A' h' H' σe' σ' → D.nx σ' H'
  | .bk σe' h' => ∀ A' H' σ', Po K F A h H A' h' H' → Hsm K H' → Ss K F A' h' H' σe' σ' → D.bk σ' H'
  | .ct σe' h' => ∀ A' H' σ', Po K F A h H A' h' H' → Hsm K H' → Ss K F A' h' H' σe' σ' → D.ct σ' H'
  | .rt v h' => ∀ A' H' v', Po K F A h H A' h' H' → Hsm K H' → RV K F A' h' H' v v' → D.rt v' H'
  | .ex x σe' h' => ∀ A' H' σ' c od, Po K F A h H A' h' H' → Ss K F A' h' H' σe' σ' → RX mg K F A' h' H' x c od → W c od σ' H'
  | .bad => False
def tS (mg : Str → Option Value) (K : PySem.W.Frag) (W : WX) (r : Sl → Hs → RS) : TS := fun D σ H => ∃ F A σe h, Cs K F A h H ∧ Ss K F A h H σe σ ∧ OuS mg K W F A h H (r σe h) D
def _root_.L2.Ends.hs (D : Ends) (K : PySem.W.Frag) : Ends := ⟨fun σ H => Hsm K H → D.nx σ H, fun v H => Hsm K H → D.rt v H, fun σ H => Hsm K H → D.bk σ H, fun σ H => Hsm K H → D.ct σ H⟩
theorem ps_imps {X : Cx} {st : Stmt} {t t' : TS} (p : PS X st t) (f : ∀ D σ H, t' D σ H → Hsm X.K H → t (D.hs X.K) σ H) : PS X st t' := by
  refine ⟨fun pins s σ H D I q => thn (p.run pins s σ H _ I (f D σ H q (Hsm.of I))) fun fl s' z => ?_⟩
  cases fl with
  | next => obtain ⟨σ', H', I', z⟩ := z; exact ⟨σ', H', I', z (Hsm.of I')⟩
  | brk => obtain ⟨σ', H', I', z⟩ := z; exact ⟨σ', H', I', z (Hsm.of I')⟩
  | cont => obtain ⟨σ', H', I', z⟩ := z; exact ⟨σ', H', I', z (Hsm.of I')⟩
  | ret u => obtain ⟨v, σ', H', I', r, z⟩ := z; exact ⟨v, σ', H', I', r, z (Hsm.of I')⟩
theorem OuS.later {r : RS} (p : Po K F A h H A1 h1 H1) (o : OuS mg K W F A h H r D) : OuS mg K W F A1 h1 H1 r D := by
  cases r with
  | nx σ h => exact fun A' H' σ' q => o A' H' σ' (p.trans q)
  | bk σ h => exact fun A' H' σ' q => o A' H' σ' (p.trans q)
  | ct σ h => exact fun A' H' σ' q => o A' H' σ' (p.trans q)
  | rt v h => exact fun A' H' σ' q => o A' H' σ' (p.trans q)
  | ex x σ h => exact fun A' H' σ' c od q => o A' H' σ' c od (p.trans q)
  | bad => exact o
theorem OuS.hs {r : RS} (o : OuS mg K W F A h H r D) : OuS mg K W F A h H r (D.hs K) := by
  cases r with
  | nx σ h => exact fun A' H' σ' q s z _ => o A' H' σ' q s z
  | bk σ h => exact fun A' H' σ' q s z _ => o A' H' σ' q s z
  | ct σ h => exact fun A' H' σ' q s z _ => o A' H' σ' q s z
  | rt v h => exact fun A' H' σ' q s z _ => o A' H' σ' q s z
  | ex x σ h => exact o
  | bad => exact o
/-- a part that is an expression -/
theorem OuS.ofR {α : Type} {r : R α} {f : α → Hs → RS} (c : Cs K F A h H) (s : Ss K F A h H σe σ) (o : OuS mg K W F A h H (ofR r σe f) D) : Ou mg K W F A h H σ r (fun a A1 h1 H1 => OuS mg K W F A1 h1 H1 (f a h1) D) := by
  cases r with
  | ok a h1 => exact fun A1 H1 p sm => OuS.later p (show OuS mg K W F A h H (f a h1) D from o)
  | ex x h1 => exact fun A1 H1 c' od p rx => o A1 H1 σ c' od p (s.mono c p) rx
  | bad => exact o
theorem OuS.here (c : Cs K F A h H) (sm : Hsm K H) (s : Ss K F A h H σe σ) (o : OuS mg K W F A h H (.nx σe h) D) : D.nx σ H := o A H σ (Po.refl c) sm s
theorem tE.ofR {r : TR Ev} {f : Sl → Ev → Hs → RS} {Q : VK} (c : Cs K F A h H) (s : Ss K F A h H σe σ) (o : OuS mg K W F A h H (EV.ofR (r σe h) σe (f σe)) D)
    (g : ∀ x A1 h1 H1 v, Po K F A h H A1 h1 H1 → Hsm K H1 → Ss K F A1 h1 H1 σe σ → RV K F A1 h1 H1 x v → OuS mg K W F A1 h1 H1 (f σe x h1) D → Q v H1) : tE mg K W r σ H Q :=
  ⟨F, A, σe, h, c, s, (OuS.ofR c s o).imp fun x A1 h1 H1 p1 sm1 o1 v rv => g x A1 h1 H1 v p1 sm1 (s.mono c p1) rv o1⟩
end
section
variable {X : Cx} {mg : Str → Option Value} {W : WX} {a b : Expr} {ra rb : TR Ev} {rt : TR Bool} {pos : Pos} {st : Stmt} {rest : List Stmt} {r u : Sl → Hs → RS}
theorem PS.toS {t t' : TS} (p : PSs X rest t) (f : ∀ D σ H, t' D σ H → t D σ H) : PSs X rest t' := ⟨fun pins s σ H D I q => p.run pins s σ H D I (f _ _ _ q)⟩
theorem b_nil : PSs X [] (tS mg X.K W fun σ h => .nx σ h) := ⟨fun pins s σ H D I ⟨F, A, σe, h, c, s0, o⟩ => pss_nil.run pins s σ H D I (OuS.here c (Hsm.of I) s0 o)⟩
theorem b_cons (h1 : PS X st (tS mg X.K W r)) (h2 : PSs X rest (tS mg X.K W u)) : PSs X (st :: rest) (tS mg X.K W fun σ h => (r σ h).then u) := by
  refine PS.toS (pss_cons h1 h2) fun D σ H ⟨F, A, σe, h, c, s0, o⟩ => ⟨F, A, σe, h, c, s0, ?_⟩
  dsimp only at o
  revert o
  cases r σe h with
  | nx σ1 h1 => exact fun o A' H' σ' p sm s1 => ⟨F, A', σ1, h1, p.cs, s1, OuS.later p (show OuS mg X.K W F A h H (u σ1 h1) D from o)⟩
  | bk σ1 h1 => exact fun o => o
  | ct σ1 h1 => exact fun o => o
  | rt v h1 => exact fun o => o
  | ex x σ1 h1 => exact fun o => o
  | bad => exact fun o => o
theorem c_pass : PS X (.Pass pos) (tS mg X.K W fun σ h => .nx σ h) := ps_imps ps_pass fun D σ H ⟨F, A, σe, h, c, s, o⟩ sm => fun _ => OuS.here c sm s o
theorem c_doc {x : Str} {j : Nat} {pos' : Pos} : PS X (.Expr (.Constant (.str x) j pos) pos') (tS mg X.K W fun σ h => .nx σ h) := ps_imps ps_doc fun D σ H ⟨F, A, σe, h, c, s, o⟩ sm => fun _ => OuS.here c sm s o
theorem c_brk : PS X (.Break pos) (tS mg X.K W fun σ h => .bk σ h) := ps_imps ps_break fun D σ H ⟨F, A, σe, h, c, s, o⟩ sm => fun _ => o A H σ (Po.refl c) sm s
theorem c_cnt : PS X (.Continue pos) (tS mg X.K W fun σ h => .ct σ h) := ps_imps ps_continue fun D σ H ⟨F, A, σe, h, c, s, o⟩ sm => fun _ => o A H σ (Po.refl c) sm s
theorem c_rtn : PS X (.Return none pos) (tS mg X.K W fun _ h => .rt (.d .none) h) := ps_imps ps_retN fun D σ H ⟨F, A, σe, h, c, s, o⟩ sm => fun _ => o A H .non (Po.refl c) sm .non
theorem c_stop : PS X st (tS mg X.K W fun _ _ => .bad) := ⟨fun pins s σ H D I ⟨F, A, σe, h, c, s0, o⟩ => o.elim⟩
theorem c_ex (hs : swapsWith a none pos.line X.env = pure false) (ha : PE X a (tE mg X.K W ra)) : PS X (.Expr a pos) (tS mg X.K W fun σ h => ofR (ra σ h) σ fun _ h => .nx σ h) :=
  ps_imps (ps_expr ha hs) fun D σ H ⟨F, A, σe, h, c, s, o⟩ sm => tE.ofR (f := fun σ _ h => .nx σ h) c s o fun x A1 h1 H1 v p1 sm1 s1 r1 o1 => fun _ => OuS.here p1.cs sm1 s1 o1
theorem c_rt (ha : PE X a (tE mg X.K W ra)) : PS X (.Return (some a) pos) (tS mg X.K W fun σ h => ofR (ra σ h) σ fun v h => .rt v h) :=
  ps_imps (ps_ret ha) fun D σ H ⟨F, A, σe, h, c, s, o⟩ sm => tE.ofR (f := fun σ v h => .rt v h) c s o fun x A1 h1 H1 v p1 sm1 s1 r1 o1 => fun _ => o1 A1 H1 v (Po.refl p1.cs) sm1 r1
theorem c_if {x y : List Stmt} (ht : PT X a (tT mg X.K W rt)) (hx : PSs X x (tS mg X.K W r)) (hy : PSs X y (tS mg X.K W u)) : PS X (.If a x y pos) (tS mg X.K W fun σ h => ofR (rt σ h) σ fun k h => match k with
      | true => r σ h
      | false => u σ h) :=
  ps_imps (ps_if ht hx hy) fun D σ H ⟨F, A, σe, h, c, s, o⟩ sm => ⟨F, A, σe, h, c, s, (OuS.ofR c s o).imp fun k A1 h1 H1 p1 sm1 o1 => by
    cases k with
    | true => exact ⟨F, A1, σe, h1, p1.cs, s.mono c p1, OuS.hs o1⟩
    | false => exact ⟨F, A1, σe, h1, p1.cs, s.mono c p1, OuS.hs o1⟩⟩
/-! ### assignments -/
theorem nm_imp {i n : Nat} {K : PySem.W.Frag} {D : Ends} {σ : L2.St} {H : Hp} (q : tS mg K W (fun σ h => ofR (ra σ h) σ fun v h => match setE n (.nm i) v σ h with
    | some (σ, h) => .nx σ h
    | none => .bad) D σ H) : tE mg K W ra σ H fun x H1 => D.nx (σ.set i (some x)) H1 := by
  obtain ⟨F, A, σe, h, c, s, o⟩ := q
  refine tE.ofR (f := fun σ v h => match setE n (.nm i) v σ h with
    | some (σ, h) => .nx σ h
    | none => .bad) c s o fun x A1 h1 H1 v p1 sm1 s1 r1 o1 => ?_
  simp only [setE] at o1
  by_cases hi : i < σe.length
  · rw [if_pos hi] at o1
    exact OuS.here p1.cs sm1 (s1.set r1 i) o1
  · rw [if_neg hi] at o1
    exact o1.elim
theorem c_set {i n : Nat} {x : Str} {pos' : Pos} (hN : X.N.Nodup) (hi : X.N[i]? = some x) (hx : Loc X.env.scope x) (hf : X.fn x = true ∨ X.env.scope.names.lookup x = some .local) (hs : swapsWith a (some (.Name x pos')) pos.line X.env = pure false) (ha : PE X a (tE mg X.K W ra)) :
    PS X (.Assign [.Name x pos'] a pos) (tS mg X.K W fun σ h => ofR (ra σ h) σ fun v h => match setE n (.nm i) v σ h with
    | some (σ, h) => .nx σ h
    | none => .bad) :=
  ps_imps (ps_set hN hi hx ha hs hf) fun D σ H q sm => by
    have := nm_imp q
    obtain ⟨F, A, σe, h, c, s, o⟩ := this
    exact ⟨F, A, σe, h, c, s, o.imp fun v A1 h1 H1 p1 sm1 z w rw' _ => z w rw'⟩
theorem c_tp {n : Nat} {c : Ctx} {ts : List Tg} {tg : Expr} (rt : Rt X c) (hg : chkG c n (.tp ts) tg = true) (hs : swapsWithSole [tg] a pos.line X.env = pure false) (hw : swappedStores [tg] a X.env = pure none) (h1 : (assignEach [tg] X.env).map (·.2) = [assign tg X.env]) (ha : PE X a (tE mg X.K W ra)) :
    PS X (.Assign [tg] a pos) (tS mg X.K W fun σ h => ofR (ra σ h) σ fun v h => match setE n (.tp ts) v σ h with
    | some (σ, h) => .nx σ h
    | none => .bad) :=
  ps_imps (ps_asg ha (pg_ok rt n _ tg hg) hs hw h1) fun D σ H ⟨F, A, σe, h, c, s, o⟩ sm => tE.ofR (f := fun σ v h => match setE n (.tp ts) v σ h with
    | some (σ, h) => .nx σ h
    | none => .bad) c s o fun x A1 h1 H1 v p1 sm1 s1 r1 o1 => by
    simp only [setE] at o1
    cases e : peek x h1 with
    | none => rw [e] at o1; exact o1.elim
    | some d =>
      rw [e] at o1
      dsimp only at o1
      cases e2 : asgD n (.tp ts) d σe with
      | none => rw [e2] at o1; exact o1.elim
      | some σ2 =>
        rw [e2] at o1
        have ed : ∃ ds, d = .tuple ds := by
          cases n with
          | zero => cases e2
          | succ n => cases d <;> first | exact ⟨_, rfl⟩ | cases e2
        obtain ⟨ds, rfl⟩ := ed
        have ex : x = .d (.tuple ds) := by
          cases x with
          | d y => cases e; rfl
          | r n => simp only [peek] at e; split at e <;> cases e
        subst ex
        exact ⟨F, A1, h1, σe, σ2, .tuple ds, p1.cs, s1, e2, .inl r1, fun σ' s' _ _ => OuS.here p1.cs sm1 s' o1⟩
/-- several names at once -/
theorem sets_ok {K : PySem.W.Frag} {F : Addr → Prop} {A : List Addr} {h : Hs} {H : Hp} : ∀ {is : List Nat} {vs : List Ev} {ws : List V} {σe σ2 : Sl} {σ : L2.St}, setsE is vs σe = some σ2 → RVs K F A h H vs ws → Ss K F A h H σe σ → Ss K F A h H σ2 ((is.zip ws).foldl (fun σ p => σ.set p.1 (some p.2)) σ) ∧ is.length = vs.length
  | [], [], _, _, _, _, e, .nil, s => by cases e; exact ⟨s, rfl⟩
  | [], _ :: _, _, _, _, _, e, _, _ => by cases e
  | _ :: _, [], _, _, _, _, e, _, _ => by cases e
  | i :: is, v :: vs, _, σe, σ2, σ, e, .cons a b, s => by
    simp only [setsE] at e
    split at e
    · obtain ⟨h1, h2⟩ := sets_ok e b (s.set a i)
      exact ⟨h1, by rw [List.length_cons, List.length_cons, h2]⟩
    · cases e
theorem par_imp {is : List Nat} {rs : TR (List Ev)} {K : PySem.W.Frag} {D : Ends} {σ : L2.St} {H : Hp} (q : tS mg K W (fun σ h => ofR (rs σ h) σ fun vs h => match setsE is vs σ with
    | some σ => .nx σ h
    | none => .bad) D σ H) : tA mg K W rs σ H fun ws H1 => ws.length = is.length ∧ ws.length ≤ ws.length ∧ D.nx ((is.zip ws).foldl (fun σ p => σ.set p.1 (some p.2)) σ) H1 ∧ ∀ H2, Hsm K H2 → (∃ p, H1 p = none ∧ H2 = upd H1 p (.tup ws)) → D.nx ((is.zip ws).foldl (fun σ p => σ.set p.1 (some p.2)) σ) H2 := by
  obtain ⟨F, A, σe, h, c, s, o⟩ := q
  refine ⟨F, A, σe, h, c, s, (OuS.ofR c s o).imp fun vs A1 h1 H1 p1 sm1 o1 ws rv => ?_⟩
  cases e : setsE is vs σe with
  | none => rw [e] at o1; exact o1.elim
  | some σ2 =>
    rw [e] at o1
    obtain ⟨s2, hl⟩ := sets_ok e rv (s.mono c p1)
    have len : ws.length = is.length := by
      rw [hl]
      clear s2 hl e o1
      induction rv with
      | nil => rfl
      | cons a b ih => rw [List.length_cons, List.length_cons, ih]
    refine ⟨len, Nat.le_refl _, OuS.here p1.cs sm1 s2 o1, fun H2 sm2 ⟨p, hp, e2⟩ => ?_⟩
    subst e2
    have po := Po.new p1.cs (.tup ws) hp
    exact o1 A1 _ _ po sm2 (s2.mono p1.cs po)
end
end EV

/-! EV22: several at once, starred targets, items set -/
namespace EV
open PySem PySem.Spec PySem.SeqAt L2
/-! ### swapped stores -/
def bkOf (sc : Scope) : ScopeKind := if sc.kind.isAnnotationScope then .function else sc.kind
def swp (sc : Scope) (ts vs : List Expr) : Option (Option (List Str)) :=
  if (!(ts.length == 2 || ts.length == 3) || vs.length != ts.length || bkOf sc != .function) = true then some none else
  if (vs.any fun
    | .Starred .. => true
    | _ => false) = true then some none else
  if (((ts.filterMap fun
    | .Name id pos => if (sc.names.lookup id == some .local && pos.line == (ts.head?.map (·.pos.line)).getD 0) = true then some id else none
    | _ => none).length != ts.length) || ((ts.filterMap fun
    | .Name id pos => if (sc.names.lookup id == some .local && pos.line == (ts.head?.map (·.pos.line)).getD 0) = true then some id else none
    | _ => none).eraseDups.length != (ts.filterMap fun
    | .Name id pos => if (sc.names.lookup id == some .local && pos.line == (ts.head?.map (·.pos.line)).getD 0) = true then some id else none
    | _ => none).length)) = true then some none else
  if (vs.all (foldedForSure 8)) = true then some none else
  if (vs.all (constantsAlone 8)) = true then none else
  some (some (ts.filterMap fun
    | .Name id pos => if (sc.names.lookup id == some .local && pos.line == (ts.head?.map (·.pos.line)).getD 0) = true then some id else none
    | _ => none))
theorem swp_ok {ts vs : List Expr} {k k2 : Nat} {p p2 : Pos} {env : Env} {r : Option (List Str)} (h : swp env.scope ts vs = some r) : swappedStores [.Tuple ts k p] (.Tuple vs k2 p2) env = pure r := by
  unfold swappedStores
  dsimp only
  unfold swp at h
  split at h
  · rename_i c
    cases h
    exact if_pos c
  · rename_i c
    refine (if_neg c).trans ?_
    split at h
    · rename_i c
      cases h
      exact if_pos c
    · rename_i c
      refine (if_neg c).trans ?_
      split at h
      · rename_i c
        cases h
        exact if_pos c
      · rename_i c
        refine (if_neg c).trans ?_
        split at h
        · rename_i c
          cases h
          exact if_pos c
        · rename_i c
          refine (if_neg c).trans ?_
          split at h
          · cases h
          · rename_i c
            refine (if_neg c).trans ?_
            cases h
            rfl
section
variable {X : Cx} {mg : Str → Option Value} {W : WX} {a b : Expr} {ra rb : TR Ev} {rs : TR (List Ev)} {pos : Pos}
theorem c_par2 {i j : Nat} {x y : Str} {px py pt : Pos} {kt k2 : Nat} {pt2 : Pos} (hc : X.calm = true) (hN : X.N.Nodup) (hi : X.N[i]? = some x) (hj : X.N[j]? = some y) (hij : i ≠ j)
    (hx : X.env.scope.names.lookup x = some .local) (hy : X.env.scope.names.lookup y = some .local) (ha : PA X [a, b] (tA mg X.K W rs))
    (hw : swappedStores [.Tuple [.Name x px, .Name y py] kt pt] (.Tuple [a, b] k2 pt2) X.env = pure (some [x, y])) :
    PS X (.Assign [.Tuple [.Name x px, .Name y py] kt pt] (.Tuple [a, b] k2 pt2) pos) (tS mg X.K W fun σ h => ofR (rs σ h) σ fun vs h => match setsE [i, j] vs σ with
    | some σ => .nx σ h
    | none => .bad) := by
  refine ps_imps (ps_par hc hN hi hj hij hx hy ha hw) fun D σ H q sm => ?_
  obtain ⟨F, A, σe, h, c, s, o⟩ := par_imp q
  refine ⟨F, A, σe, h, c, s, o.imp fun vs A1 h1 H1 p1 sm1 z ws rv => ?_⟩
  obtain ⟨hl, _, z, _⟩ := z ws rv
  match ws, hl with
  | [v, w], _ => exact ⟨v, w, rfl, fun _ => z⟩
theorem c_par3 {i j l : Nat} {x y z : Str} {d : Expr} {px py pz pt : Pos} {kt k2 : Nat} {pt2 : Pos} (hc : X.calm = true) (hN : X.N.Nodup) (hi : X.N[i]? = some x) (hj : X.N[j]? = some y) (hl : X.N[l]? = some z) (hij : i ≠ j) (hil : i ≠ l) (hjl : j ≠ l)
    (hx : X.env.scope.names.lookup x = some .local) (hy : X.env.scope.names.lookup y = some .local) (hz : X.env.scope.names.lookup z = some .local) (ha : PA X [a, b, d] (tA mg X.K W rs))
    (hw : swappedStores [.Tuple [.Name x px, .Name y py, .Name z pz] kt pt] (.Tuple [a, b, d] k2 pt2) X.env = pure (some [x, y, z])) :
    PS X (.Assign [.Tuple [.Name x px, .Name y py, .Name z pz] kt pt] (.Tuple [a, b, d] k2 pt2) pos) (tS mg X.K W fun σ h => ofR (rs σ h) σ fun vs h => match setsE [i, j, l] vs σ with
    | some σ => .nx σ h
    | none => .bad) := by
  refine ps_imps (ps_par3 hc hN hi hj hl hij hil hjl hx hy hz ha hw) fun D σ H q sm => ?_
  obtain ⟨F, A, σe, h, c, s, o⟩ := par_imp q
  refine ⟨F, A, σe, h, c, s, o.imp fun vs A1 h1 H1 p1 sm1 t ws rv => ?_⟩
  obtain ⟨hl, _, t, _⟩ := t ws rv
  match ws, hl with
  | [v, w, u], _ => exact ⟨v, w, u, rfl, fun _ => t⟩
def gsN (is : List Nat) : TGs := fun vs σ H Q => vs.length = is.length ∧ Q ((is.zip vs).foldl (fun σ p => σ.set p.1 (some p.2)) σ) H
def chkN (c : Ctx) : List Nat → List Expr → Bool
  | [], [] => true
  | i :: is, .Name x _ :: es => decide (c.N[i]? = some x) && c.loc x && chkN c is es
  | _, _ => false
theorem pgs_N {c : Ctx} (rt : Rt X c) : ∀ {is : List Nat} {es : List Expr}, chkN c is es = true → PGs X es (gsN is) ∧ es.all notStar = true ∧ es.length = is.length
  | [], [], _ => ⟨PGs.sub pgs_nil fun vs σ H Q ⟨e, q⟩ => by
    have : vs = [] := List.eq_nil_of_length_eq_zero (by simpa using e)
    subst this
    exact ⟨rfl, q⟩, rfl, rfl⟩
  | [], _ :: _, h => by cases h
  | _ :: _, [], h => by cases h
  | i :: is, e :: es, h => by
    cases e <;> first | (cases h; done) | skip
    simp only [chkN, Bool.and_eq_true, decide_eq_true_eq] at h
    obtain ⟨h1, h2, h3⟩ := pgs_N rt h.2
    obtain ⟨l1, l2⟩ := rt.loc h.1.2
    refine ⟨PGs.sub (pgs_cons (pg_name rt.nd (by rw [rt.N]; exact h.1.1) l1 l2) h1) fun vs σ H Q ⟨e, q⟩ => ?_, by rw [List.all_cons, h2]; rfl, by rw [List.length_cons, List.length_cons, h3]⟩
    cases vs with
    | nil => simp at e
    | cons v vs => exact ⟨v, vs, rfl, by simpa using e, q⟩
theorem c_par {c : Ctx} {is : List Nat} {ts vs : List Expr} {kt k2 : Nat} {pt pt2 : Pos} (rt : Rt X c) (hn : chkN c is ts = true) (hz : is.length ≤ 1000) (ha : PA X vs (tA mg X.K W rs)) (hw : swappedStores [.Tuple ts kt pt] (.Tuple vs k2 pt2) X.env = pure none) :
    PS X (.Assign [.Tuple ts kt pt] (.Tuple vs k2 pt2) pos) (tS mg X.K W fun σ h => ofR (rs σ h) σ fun vs h => match setsE is vs σ with
    | some σ => .nx σ h
    | none => .bad) := by
  obtain ⟨g1, g2, g3⟩ := pgs_N rt hn
  obtain ⟨h3, h4⟩ := each_plain ts X.env g2
  refine ps_imps (ps_asg (pe_tup ha) (pg_tup rt.calm g1 h3 h4) rfl hw rfl) fun D σ H q sm => ?_
  obtain ⟨F, A, σe, h, c, s, o⟩ := par_imp q
  refine ⟨F, A, σe, h, c, s, o.imp fun vs A1 h1 H1 p1 sm1 z ws rv => ?_⟩
  obtain ⟨hl, _, _, z⟩ := z ws rv
  refine ⟨by rw [sizeLine_eq, hl]; omega, fun p hp => ⟨p, ws, rfl, .inl (.inl upd_same), by rw [hl, g3], hl, fun sm2 => z _ sm2 ⟨p, hp, rfl⟩⟩⟩
/-! ### an item set -/
def rSetE (K : PySem.W.Frag) : TSet := fun o i v H Q => rSetL o i v H Q ∨ ∃ a H', o = .ref a ∧ DPut H a i v H' ∧ Q H'
theorem set_ev (hu : X.A.units + 200 < cLine) : PSet X (rSetE X.K) := by
  intro pins s σ H o i v ov iv u Q I ro ri rv h
  rcases h with h | ⟨a, H', rfl, g, q⟩
  · exact set_list pins s σ H o i v ov iv u Q I ro ri rv h
  · cases ro
    exact d_setItem (by omega) I g ri rv fun s' I' => ⟨H', I', q⟩
theorem put_ok {K : PySem.W.Frag} {F : Addr → Prop} {A : List Addr} {h h' : Hs} {H : Hp} {ev eo ei : Ev} {v o i : V} {Q : Hp → Prop} (c : Cs K F A h H) (rv : RV K F A h H ev v) (ro : RV K F A h H eo o) (ri : RV K F A h H ei i) (e : putE ev eo ei h = some h')
    (q : ∀ H', Po K F A h H A h' H' → Q H') : rSetE K o i v H Q := by
  unfold putE at e
  obtain ⟨⟨d, h1⟩, e1, e2⟩ := Option.bind_eq_some_iff.mp e
  clear e
  have e := e2
  clear e2
  obtain ⟨p1, rd⟩ := frz_ok c rv e1
  dsimp only at e
  have ro1 := ro.mono c p1
  have ri1 := ri.mono c p1
  cases eo with
  | d _ => cases e
  | r n =>
    cases ei with
    | r _ => cases e
    | d k =>
      dsimp only at e
      split at e
      · rename_i xs j hh
        split at e
        · rename_i m hm
          cases e
          obtain ⟨a, hA, rfl, vs, q1, k1⟩ := ro1.cell p1.cs hh
          have := RD.int_ ri1
          subst this
          refine .inl ⟨a, vs, j, m, rfl, rfl, q1, by rw [k1.length]; exact hm, q _ (p1.trans (wr_list p1.cs hA hh (k1.set m rd)))⟩
        · cases e
      · rename_i kvs hh
        split at e
        · rename_i key ek
          split at e
          · rename_i hz
            cases e
            obtain ⟨a, hA, rfl, vs, q1, k1⟩ := ro1.cell p1.cs hh
            have := RD.key ri1 ek
            subst this
            exact .inr ⟨a, _, rfl, .k q1 (by rw [k1.length, kvD_length]; exact hz), q _ (p1.trans (wr_dict p1.cs hA hh (k1.put key rd)))⟩
          · cases e
        · cases e
      · cases e
theorem sub_plain {o i : Expr} {pos : Pos} (h : ixOk i = true) (env : Env) (v : Value) : assign (.Subscript o i pos) env v = (do
      let ov ← holding [v] (eval o env)
      let iv ← holding [v, ov] (eval i env)
      standAt pos
      holding [v, ov, iv] (setItem ov iv v)
      release [v, ov, iv] []) := by
  cases i <;> first | rfl | cases h
theorem c_sub {ro ri : TR Ev} {o i : Expr} {pos' : Pos} (hx : ixOk i = true) (hu : X.A.units + 200 < cLine) (hs : swapsWithSole [.Subscript o i pos'] a pos.line X.env = pure false) (ho : PE X o (tE mg X.K W ro)) (hi : PE X i (tE mg X.K W ri)) (ha : PE X a (tE mg X.K W ra)) :
    PS X (.Assign [.Subscript o i pos'] a pos) (tS mg X.K W fun σ h => ofR (ra σ h) σ fun v h => ofR (ro σ h) σ fun o h => ofR (ri σ h) σ fun i h => match putE v o i h with
    | some h => .nx σ h
    | none => .bad) :=
  ps_imps (ps_asg ha (pg_sub ho hi (set_ev hu) (sub_plain hx X.env)) hs rfl rfl) fun D σ H ⟨F, A, σe, h, c, s, q⟩ sm => tE.ofR (f := fun σ v h => ofR (ro σ h) σ fun o h => ofR (ri σ h) σ fun i h => match putE v o i h with
    | some h => .nx σ h
    | none => .bad) c s q fun x A1 h1 H1 v p1 sm1 s1 r1 q1 => tE.ofR (f := fun σ o h => ofR (ri σ h) σ fun i h => match putE x o i h with
    | some h => .nx σ h
    | none => .bad) p1.cs s1 q1 fun y A2 h2 H2 w p2 sm2 s2 r2 q2 => tE.ofR (f := fun σ i h => match putE x y i h with
    | some h => .nx σ h
    | none => .bad) p2.cs s2 q2 fun z A3 h3 H3 u p3 sm3 s3 r3 q3 => by
    cases e : putE x y z h3 with
    | none => rw [e] at q3; exact q3.elim
    | some h4 =>
      rw [e] at q3
      exact put_ok p3.cs ((r1.mono p1.cs p2).mono p2.cs p3) (r2.mono p2.cs p3) r3 e fun H4 p4 sm4 => q3 A3 H4 σ p4 sm4 (s3.mono p3.cs p4)
end
end EV

/-! EV23: loops, starred targets, comprehensions stored -/
namespace EV
open PySem PySem.Spec PySem.SeqAt L2
section
variable {X : Cx} {mg : Str → Option Value} {W : WX} {a b : Expr} {ra rb : TR Ev} {rs : TR (List Ev)} {pos : Pos} {rt : TR Bool} {r : Sl → Hs → RS} {body : List Stmt}
theorem c_while {wb : Nat} (hp : PassesOwn (model X.prog X.w) X.A X.env X.xe) (ht : PT X a (tT mg X.K W rt)) (hb : PSs X body (tS mg X.K W r)) : PS X (.While a body [] pos) (tS mg X.K W (whileE rt r wb)) := by
  refine ps_imps (ps_while hp ht hb) fun D σ H ⟨F, A, σe, h, c, s, o⟩ sm => ?_
  refine ⟨fun m σ H => ∃ A σe h, Cs X.K F A h H ∧ Ss X.K F A h H σe σ ∧ OuS mg X.K W F A h H (whileE rt r m σe h) (D.hs X.K), ⟨wb, A, σe, h, c, s, o.hs⟩, ?_⟩
  rintro m σ H ⟨A, σe, h, c, s, o⟩
  cases m with
  | zero => exact o.elim
  | succ m =>
    refine ⟨F, A, σe, h, c, s, (OuS.ofR c s (f := fun k h => match k with
      | false => .nx σe h
      | true => match r σe h with
        | .nx σ h => whileE rt r m σ h
        | .ct σ h => whileE rt r m σ h
        | .bk σ h => .nx σ h
        | r => r) o).imp fun k A1 h1 H1 p1 sm1 o1 => ?_⟩
    cases k with
    | false => exact OuS.here p1.cs sm1 (s.mono c p1) o1
    | true =>
      refine ⟨fun σ H => ∃ A σe h, Cs X.K F A h H ∧ Ss X.K F A h H σe σ ∧ OuS mg X.K W F A h H (whileE rt r m σe h) (D.hs X.K), fun σ' H' w => ⟨m, Nat.lt_succ_self m, w⟩, ?_⟩
      refine ⟨F, A1, σe, h1, p1.cs, s.mono c p1, ?_⟩
      dsimp only at o1
      revert o1
      cases r σe h1 with
      | nx σ2 h2 => exact fun o1 A' H' σ' p sm' s' => ⟨A', σ2, h2, p.cs, s', OuS.later p (show OuS mg X.K W F A1 h1 H1 (whileE rt r m σ2 h2) _ from o1)⟩
      | ct σ2 h2 => exact fun o1 A' H' σ' p sm' s' => ⟨A', σ2, h2, p.cs, s', OuS.later p (show OuS mg X.K W F A1 h1 H1 (whileE rt r m σ2 h2) _ from o1)⟩
      | bk σ2 h2 => exact fun o1 => o1
      | rt v h2 => exact fun o1 => o1
      | ex x σ2 h2 => exact fun o1 => o1
      | bad => exact fun o1 => o1
theorem yd_plain {K : PySem.W.Frag} {F : Addr → Prop} {A : List Addr} {h : Hs} {H H' : Hp} {x : V} {d : Dt} {pr : Bool} (c : Cs K F A h H) (y : Yd K F A h H x H' d pr) :
    Po K F A h H A h H' ∧ (RD K H' (Gd F A h) x d ∨ (pr = true ∧ ∃ a b d1 d2 p, x = .ref p ∧ H' p = some (.tup [a, b]) ∧ d = .tuple [d1, d2] ∧ RD K H' (Gd F A h) a d1 ∧ RD K H' (Gd F A h) b d2)) := by
  rcases y with ⟨_, rfl, r⟩ | ⟨hp, T, a, b, d1, d2, rfl, hT, rfl, rfl, r1, r2⟩
  · exact ⟨Po.refl c, .inl r⟩
  · have po := Po.new c (.tup [a, b]) hT
    exact ⟨po, .inr ⟨hp, a, b, d1, d2, T, rfl, upd_same, rfl, RD.mono (po.stay c) r1, RD.mono (po.stay c) r2⟩⟩
theorem c_for {tg iter : Expr} {pr : Bool} {ri : TR (List Dt × Gu)} {t : Dt → Sl → Option Sl} {ix : List Nat} (hp : PassesOwn (model X.prog X.w) X.A X.env X.xe) (hc : X.calm = true) (hi : PI X tg iter (iEv mg X.K W pr ri)) (hg : PG X tg (gEv X.K pr t ix)) (hb : PSs X body (tS mg X.K W r))
    (hs : ∀ x, foldedSetIterable iter X.env x = pure x) : PS X (.For tg iter body [] pos) (tS mg X.K W fun σ h => ofR (ri σ h) σ fun p h => forE t r p.2 p.1 σ h) := by
  refine ps_imps (ps_for hp hc hi hg hb hs) fun D σ H ⟨F, A, σe, h, c, s, o⟩ sm => ?_
  refine ⟨F, A, σe, h, c, s, (OuS.ofR c s (f := fun p h => forE t r p.2 p.1 σe h) o).imp fun p A0 h0 H0 p0 sm0 o0 J src => ?_⟩
  obtain ⟨xs, g⟩ := p
  dsimp only at o0 src
  let V : Nat → Nat → L2.St → Hp → Prop := fun i m σ H => m = xs.length - i ∧ i ≤ xs.length ∧ ∃ A σe h, Cs X.K F A h H ∧ Ss X.K F A h H σe σ ∧ Pw X.K F A0 h0 H0 A h H ∧ OuS mg X.K W F A h H (forE t r g (xs.drop i) σe h) (D.hs X.K)
  refine ⟨V, ⟨xs.length, by simp, Nat.zero_le _, A0, σe, h0, p0.cs, s.mono c p0, pw_refl p0.cs, by rw [List.drop_zero]; exact o0.hs⟩, ?_⟩
  rintro i m σ H ⟨rfl, hi, A, σe, h, c, s, pw, o⟩
  by_cases hlt : i < xs.length
  · rw [List.drop_eq_getElem_cons hlt] at o
    simp only [forE] at o
    split at o
    · rename_i gk
      have wk := src.wk pw gk
      refine .inr ⟨wk.go i hlt, V (i + 1) (xs.length - (i + 1)), fun σ' H' w => ⟨_, by omega, w⟩, fun x H' y => ?_⟩
      obtain ⟨po, it⟩ := yd_plain c (wk.yld i x H' _ (List.getElem?_eq_getElem hlt) y)
      split at o
      · exact o.elim
      · rename_i σ' et
        refine ⟨F, A, h, σe, σ', xs[i], po.cs, s.mono c po, et, it, fun σ2 s2 f2 => ?_⟩
        refine ⟨F, A, σ', h, po.cs, s2, ?_⟩
        have o := OuS.later po o
        revert o
        cases r σ' h with
        | nx σ3 h3 => exact fun o A' H'' σ4 p sm' s' => ⟨rfl, hlt, A', σ3, h3, p.cs, s', pw.trans ((po.trans p).pw c), OuS.later p (show OuS mg X.K W F A h H' (forE t r g (xs.drop (i + 1)) σ3 h3) _ from o)⟩
        | ct σ3 h3 => exact fun o A' H'' σ4 p sm' s' => ⟨rfl, hlt, A', σ3, h3, p.cs, s', pw.trans ((po.trans p).pw c), OuS.later p (show OuS mg X.K W F A h H' (forE t r g (xs.drop (i + 1)) σ3 h3) _ from o)⟩
        | bk σ3 h3 => exact fun o => o
        | rt v h3 => exact fun o => o
        | ex x σ3 h3 => exact fun o => o
        | bad => exact fun o => o
    · exact o.elim
  · have ei : i = xs.length := by omega
    subst ei
    rw [List.drop_length] at o
    simp only [forE] at o
    split at o
    · rename_i gk
      refine .inl ⟨(src.wk pw gk).stop, fun sm => ?_⟩
      exact o A H σ (Po.refl c) sm s sm
    · exact o.elim
/-! ### a comprehension stored -/
theorem c_setLc {i n : Nat} {y : Str} {py : Pos} {elt tg iter : Expr} {ifs : List Expr} {scope : Scope} {own : List (Str × Nat)} {spos : Pos} {pr : Bool} {ri : TR (List Dt × Gu)} {t : Dt → Sl → Option Sl} {ix : List Nat} {re : TR Ev} (mk : Bool) (hc : X.calm = true) (hN : X.N.Nodup)
    (hy : X.N[i]? = some y) (hyl : X.env.scope.names.lookup y = some .local) (hsw : swapsWith (.ListComp elt [⟨tg, iter, ifs, 0⟩] scope pos) (some (.Name y py)) spos.line X.env = pure true) (hi : PI X tg iter (iEv mg X.K W pr ri)) (ok : BlkOk X.N X.env.scope scope own) (hix : ∀ i ∈ ix, i ∈ own.map (·.2))
    (hg : ∀ (s : Shared) (H : Hp) (C : Addr) (cl : List (Str × Addr)) (fp : List Addr), PG (X.blk s H scope (compEnvC scope cl C X.env) fp) tg (gEv X.K pr t ix))
    (ht : ∀ (s : Shared) (H : Hp) (C : Addr) (cl : List (Str × Addr)) (fp : List Addr), PTs (X.blk s H scope (compEnvC scope cl C X.env) fp) ifs (tT mg X.K W0 rt))
    (he : ∀ (s : Shared) (H : Hp) (C : Addr) (cl : List (Str × Addr)) (fp : List Addr), PE (X.blk s H scope (compEnvC scope cl C X.env) fp) elt (tE mg X.K W0 re)) (hs : ∀ x, foldedSetIterable iter X.env x = pure x) :
    PS X (.Assign [.Name y py] (.ListComp elt [⟨tg, iter, ifs, 0⟩] scope pos) spos) (tS mg X.K W fun σ h => ofR ((ri σ h).bind fun p h => if p.1.length ≤ sizeLine then
      (lcLoop t rt re p.2 (wipeE σ (own.map (·.2))) p.1 [] h).noex.bind fun ds h => lift (newL mk ds h) else .bad) σ fun v h => match setE n (.nm i) v σ h with
    | some (σ, h) => .nx σ h
    | none => .bad) :=
  ps_imps (ps_setLc hc hN hy hyl hsw hi ok hg ht he hs) fun D σ H q sm => lc_imp hix (nm_imp q)
theorem c_setLc2 {i n : Nat} {y : Str} {py : Pos} {elt tg iter tg1 iter1 : Expr} {ifs ifs1 : List Expr} {scope : Scope} {own : List (Str × Nat)} {vs1 : List Nat} {spos : Pos} {pr pr1 : Bool} {ri ri1 : TR (List Dt × Gu)} {t t1 : Dt → Sl → Option Sl} {ix ix1 : List Nat} {rt1 : TR Bool} {re : TR Ev} (mk : Bool) (hc : X.calm = true) (hN : X.N.Nodup)
    (hy : X.N[i]? = some y) (hyl : X.env.scope.names.lookup y = some .local) (hsw : swapsWith (.ListComp elt [⟨tg, iter, ifs, 0⟩, ⟨tg1, iter1, ifs1, 0⟩] scope pos) (some (.Name y py)) spos.line X.env = pure true) (hi : PI X tg iter (iEv mg X.K W pr ri)) (ok : BlkOk X.N X.env.scope scope own)
    (hv : ∀ i ∈ vs1, i ∈ own.map (·.2)) (hix : ∀ i ∈ ix, i ∈ own.map (·.2)) (hix1 : ∀ i ∈ ix1, i ∈ vs1)
    (hg : ∀ (s : Shared) (H : Hp) (C : Addr) (cl : List (Str × Addr)) (fp : List Addr), PG (X.blk s H scope (compEnvC scope cl C X.env) fp) tg (gEv X.K pr t ix))
    (ht : ∀ (s : Shared) (H : Hp) (C : Addr) (cl : List (Str × Addr)) (fp : List Addr), PTs (X.blk s H scope (compEnvC scope cl C X.env) fp) ifs (tT mg X.K W0 rt))
    (hi1 : ∀ (s : Shared) (H : Hp) (C : Addr) (cl : List (Str × Addr)) (fp : List Addr), PI (X.blk s H scope (compEnvC scope cl C X.env) fp) tg1 iter1 (iEv mg X.K W0 pr1 ri1))
    (hg1 : ∀ (s : Shared) (H : Hp) (C : Addr) (cl : List (Str × Addr)) (fp : List Addr), PG (X.blk s H scope (compEnvC scope cl C X.env) fp) tg1 (gEv X.K pr1 t1 ix1))
    (ht1 : ∀ (s : Shared) (H : Hp) (C : Addr) (cl : List (Str × Addr)) (fp : List Addr), PTs (X.blk s H scope (compEnvC scope cl C X.env) fp) ifs1 (tT mg X.K W0 rt1))
    (he : ∀ (s : Shared) (H : Hp) (C : Addr) (cl : List (Str × Addr)) (fp : List Addr), PE (X.blk s H scope (compEnvC scope cl C X.env) fp) elt (tE mg X.K W0 re)) (hs : ∀ x, foldedSetIterable iter X.env x = pure x) (hs1 : ∀ env x, foldedSetIterable iter1 env x = pure x) :
    PS X (.Assign [.Name y py] (.ListComp elt [⟨tg, iter, ifs, 0⟩, ⟨tg1, iter1, ifs1, 0⟩] scope pos) spos) (tS mg X.K W fun σ h => ofR ((ri σ h).bind fun p h =>
      (lc2Loop t rt ri1 t1 rt1 re p.2 (wipeE σ (own.map (·.2))) vs1 p.1 [] h).noex.bind fun ds h => lift (newL mk ds h)) σ fun v h => match setE n (.nm i) v σ h with
    | some (σ, h) => .nx σ h
    | none => .bad) :=
  ps_imps (ps_setLc2 hc hN hy hyl hsw hi ok hv hg ht hi1 hg1 ht1 he hs hs1) fun D σ H q sm => lc2_imp hix hix1 (nm_imp q)
/-! ### a starred target, last -/
theorem unpack_star {prog : Program} {w : World} {AA : Around} {E : Value → Shared → Prop} {s : Shared} {l : Addr} {items : Array Value} {i : Nat} {Q : List Value → Shared → Prop} (hl : PyProof.Rows.IsTup s.heap l items) (hh : AA.handled = none) (hn : i ≤ items.size) (hz : items.size ≤ 16384)
    (h : ∀ (h' : Heap) (tk : Nat), (∀ b o, s.heap.get? b = some o → h'.get? b = some o) → Q (items.toList.take i ++ [.ref h'.objs.size]) { s with heap := h'.push { cls := .type "list", data := .seq (items.toList.drop i).toArray }, toks := tk }) : wpAny (model prog w) AA (unpackItems (.ref l) (i + 1) (some i)) Q E s := by
  have hlt : l ≠ s.heap.objs.size := by obtain ⟨o, ho, _⟩ := hl; exact Nat.ne_of_lt (Heap.lt_size ho)
  unfold unpackItems
  refine wpAny_bind ?_
  unfold notIterableAtAll
  refine wpAny_bind (wpAny_specialOf hl.typeIs PyProof.Rows.slot_tuple_iter.lookup ?_)
  refine wpAny_pure ?_
  simp only [Bool.false_eq_true, if_false]
  refine wpAny_bind (wpAny_holding (PyProof.Rows.iter_tuple hl ?_))
  refine wpAny_bind (wpAny_holding (PyProof.Rows.draw_tuple hlt i 0 _ _ ⟨_, Heap.get?_push_size _ rfl, rfl, rfl⟩ (hl.push _) (by omega) fun h₁ hit₁ hs₁ => ?_))
  have hl₁ : PyProof.Rows.IsTup h₁ l items := (hl.push _).extBut hs₁.extBut hlt
  rw [Nat.zero_add] at hit₁
  have hit₁' := hit₁
  obtain ⟨oi, hoi, _⟩ := hit₁'
  have hl₁' := hl₁
  obtain ⟨ol, hol, _⟩ := hl₁'
  rw [List.drop_zero]
  have hfl : (items.toList.take i).length = i := by rw [List.length_take, Array.length_toList]; omega
  rw [if_neg (show ¬ ((items.toList.take i).length < i) by rw [hfl]; omega)]
  refine wpAny_bind (wpAny_holding (PySem.W.kun_collect (s := { s with heap := h₁ }) (T := "tuple_iterator") (.inr (.inr (.inr rfl))) (Walks.tuple (A := AA.in1) hh s.heap.objs.size l hlt items) (fun j u st => st.1.typeIs) (k := i) (by omega) ⟨hit₁, hl₁⟩ (Heap.lt_size hoi) (Heap.lt_size hol) (fun h₂ tk hk => ?_) (by rw [sizeLine_eq]; omega)))
  have hrl : (items.toList.drop i).length = items.size - i := by rw [List.length_drop, Array.length_toList]
  have hmid : (items.toList.drop i).length - (i + 1 - 1 - i) = (items.toList.drop i).length := by omega
  show wpAny _ _ (if (items.toList.drop i).length < i + 1 - 1 - i then _ else _) _ _ _
  rw [if_neg (by omega)]
  show wpAny _ _ (newList ((items.toList.drop i).take ((items.toList.drop i).length - (i + 1 - 1 - i))) >>= fun d => pure (items.toList.take i ++ [d] ++ (items.toList.drop i).drop ((items.toList.drop i).length - (i + 1 - 1 - i)))) _ _ _
  rw [hmid, List.take_length, List.drop_length]
  refine wpAny_bind (wpAny_newObj_type (wpAny_pure ?_) (by show (items.toList.drop i).toArray.size ≤ sizeLine; rw [List.size_toArray, hrl, sizeLine_eq]; omega))
  rw [List.append_nil]
  exact h h₂ tk fun b o e => hk b o (Nat.ne_of_lt (Heap.lt_size e)) (hs₁.extBut b o (Nat.ne_of_lt (Heap.lt_size e)) (Heap.get?_push_of_some _ e))
end
end EV

/-! EV24: the checker of statements, and that it is right -/
namespace EV
open PySem PySem.Spec PySem.SeqAt L2
theorem each_star : ∀ (es : List Expr) (t : Expr) (p : Pos) (env : Env), notStar t = true → es.all notStar = true → (assignEach (es ++ [.Starred t p]) env).map (·.2) = (assignEach (es ++ [t]) env).map (·.2) ∧
    (assignEach (es ++ [.Starred t p]) env).length = es.length + 1 ∧ (assignEach (es ++ [.Starred t p]) env).findIdx? (·.1) = some es.length
  | [], t, p, env, ht, _ => by
    have e1 : assignEach [.Starred t p] env = [(true, assign t env)] := rfl
    have e2 : assignEach [t] env = [(false, assign t env)] := each_cons ht
    rw [List.nil_append, List.nil_append, e1, e2]
    exact ⟨rfl, rfl, rfl⟩
  | e :: es, t, p, env, ht, h => by
    rw [List.all_cons, Bool.and_eq_true] at h
    obtain ⟨h1, h2, h3⟩ := each_star es t p env ht h.2
    rw [List.cons_append, List.cons_append, each_cons h.1, each_cons h.1]
    refine ⟨by rw [List.map_cons, List.map_cons, h1], by rw [List.length_cons, List.length_cons, h2], ?_⟩
    rw [List.findIdx?_cons, h3]
    rfl
theorem vals_drop : ∀ {vs : List V} {us : List Value} (n : Nat), Vals vs us → Vals (vs.drop n) (us.drop n)
  | _, _, 0, r => r
  | _, _, _ + 1, .nil => .nil
  | _, _, n + 1, .cons _ b => vals_drop n b
theorem vals_take : ∀ {vs : List V} {us : List Value} (n : Nat), Vals vs us → Vals (vs.take n) (us.take n)
  | _, _, 0, _ => .nil
  | _, _, _ + 1, .nil => .nil
  | _, _, n + 1, .cons a b => .cons a (vals_take n b)
section
variable {X : Cx} {W : WX} {a : Expr} {ra : TR Ev} {pos : Pos}
theorem pg_star {c : Ctx} {n : Nat} {ts : List Tg} {es : List Expr} {i k : Nat} {y : Str} {p1 p2 tpos : Pos} (rt : Rt X c) (hg : chkGs (chkG c n) (ts ++ [.nm i]) (es ++ [.Name y p1]) = true) (hl : ts.length = es.length) :
    PG X (.Tuple (es ++ [.Starred (.Name y p1) p2]) k tpos) (fun v σ H Q => ∃ F A h σe σ2 ds, Cs X.K F A h H ∧ Ss X.K F A h H σe σ ∧ ds.length ≤ 16384 ∧ ts.length ≤ ds.length ∧ asgs (asgD n) (ts ++ [.nm i]) (ds.take ts.length ++ [.list (ds.drop ts.length)]) σe = some σ2 ∧
      RD X.K H (Gd F A h) v (.tuple ds) ∧ ∀ A' H' σ', Po X.K F A h H A' h H' → Hsm X.K H' → Ss X.K F A' h H' σ2 σ' → Q σ' H') := by
  have pl := (chkGs_plain hg).1
  rw [List.all_append, Bool.and_eq_true] at pl
  obtain ⟨e1, e2, e3⟩ := each_star es (.Name y p1) p2 X.env rfl pl.1
  have pgs := pgs_of (pg_ok rt n) hg
  refine ⟨fun pins s σ H v u Q I r ⟨F, A, h, σe, σ2, ds, c0, s0, z1, z2, ea, rd, q⟩ => ?_⟩
  obtain ⟨l, vs, rfl, sq, k0⟩ := RD.tuple_ rd
  cases r
  obtain ⟨its, rv, ht, hz⟩ := I.tuple sq
  have lv := k0.length
  have li := rv.length
  rw [PyProof.Rows.assign_Tuple]
  refine wpAny_bind (wpAny_standAt ?_)
  unfold unpack
  rw [e2, e3]
  refine wpAny_bind (wpAny_holding (unpack_star (show PyProof.Rows.IsTup s.heap l its.toArray from ht) (I.ok.hd rt.calm) (by simp; omega) (by simp; omega) fun h' tk hk => ?_))
  have I1 : Inv X pins σ H { s with heap := h', toks := tk } := I.kept hk
  have hf : H h'.objs.size = none := I1.hok.fresh (Nat.le_refl _)
  have I2 : Inv X pins σ (upd H h'.objs.size (.lst (vs.drop es.length))) { s with heap := h'.push { cls := .type "list", data := .seq (its.toArray.toList.drop es.length).toArray }, toks := tk } := by
    refine I1.laid (t' := tk) (fun b o e => Heap.get?_push_of_some _ e) (Nat.le_refl _) ⟨?_, its.drop es.length, 0, vals_drop _ rv, by simpa using Heap.get?_push_size _ rfl⟩
    rw [List.length_drop]; omega
  have po := Po.new c0 (.lst (vs.drop es.length)) hf
  have rds : RDs X.K (upd H h'.objs.size (.lst (vs.drop es.length))) (Gd F A h) (vs.take es.length ++ [.ref h'.objs.size]) (ds.take ts.length ++ [.list (ds.drop ts.length)]) := by
    rw [hl]
    exact (RDs.mono (po.stay c0) (k0.take es.length)).append (.cons (.lst upd_same (c0.ground hf) (RDs.mono (po.stay c0) (k0.drop es.length))) .nil)
  rw [e1]
  refine pgs.run pins _ σ _ (vs.take es.length ++ [.ref h'.objs.size]) _ Q I2 ?_ ⟨F, A, h, σe, σ2, _, po.cs, s0.mono c0 po, ea, rds, fun σ' s' _ => q A _ σ' po (Hsm.of I2) s'⟩
  refine Vals.append ?_ (.cons rfl .nil)
  simpa using vals_take es.length rv
theorem c_star {c : Ctx} {n : Nat} {ts : List Tg} {es : List Expr} {i k : Nat} {y : Str} {p1 p2 tpos : Pos} (rt : Rt X c) (hg : chkGs (chkG c n) (ts ++ [.nm i]) (es ++ [.Name y p1]) = true) (hl : ts.length = es.length)
    (hs : swapsWithSole [.Tuple (es ++ [.Starred (.Name y p1) p2]) k tpos] a pos.line X.env = pure false) (hw : swappedStores [.Tuple (es ++ [.Starred (.Name y p1) p2]) k tpos] a X.env = pure none) (ha : PE X a (tE X.mg X.K W ra)) :
    PS X (.Assign [.Tuple (es ++ [.Starred (.Name y p1) p2]) k tpos] a pos) (tS X.mg X.K W fun σ h => ofR (ra σ h) σ fun v h => match setE n (.star ts i) v σ h with
    | some (σ, h) => .nx σ h
    | none => .bad) :=
  ps_imps (ps_asg ha (pg_star rt hg hl) hs hw rfl) fun D σ H ⟨F, A, σe, h, c, s, o⟩ sm => tE.ofR (f := fun σ v h => match setE n (.star ts i) v σ h with
    | some (σ, h) => .nx σ h
    | none => .bad) c s o fun x A1 h1 H1 v p1 sm1 s1 r1 o1 => by
    simp only [setE] at o1
    cases x with
    | r m => exact o1.elim
    | d y =>
      cases y <;> first | exact o1.elim | skip
      rename_i ds
      dsimp only at o1
      by_cases hc : ds.length ≤ 16384 ∧ ts.length ≤ ds.length
      · rw [if_pos hc] at o1
        cases e : asgs (asgD n) (ts ++ [.nm i]) (ds.take ts.length ++ [.list (ds.drop ts.length)]) σe with
        | none => rw [e] at o1; exact o1.elim
        | some σ2 =>
          rw [e] at o1
          exact ⟨F, A1, h1, σe, σ2, ds, p1.cs, s1, hc.1, hc.2, e, r1, fun A' H' σ' p2 sm2 s2 _ => o1 A' H' σ' p2 sm2 s2⟩
      · rw [if_neg hc] at o1
        exact o1.elim
end
def isComp : Expr → Bool
  | .ListComp _ _ _ _ => true
  | .SetComp _ _ _ _ => true
  | .DictComp _ _ _ _ _ => true
  | _ => false
def isTupE : Expr → Bool
  | .Tuple _ _ _ => true
  | _ => false
theorem sw_plain {v : Expr} (h : isComp v = false) (t : Option Expr) (l : Nat) (env : Env) : swapsWith v t l env = pure false := by
  cases v <;> first | rfl | cases h
def isNm : Expr → Bool
  | .Name _ _ => true
  | _ => false
theorem sw_other {v t : Expr} (h : isNm t = false) (l : Nat) (env : Env) : swapsWithSole [t] v l env = pure false := by
  show swapsWith v (some t) l env = pure false
  cases t <;> first | (cases h; done) | (cases v <;> rfl)
theorem ss_plain {v t : Expr} (h : isTupE v = false) (h2 : isNm t = true ∨ isTupE t = true) (env : Env) : swappedStores [t] v env = pure none := by
  cases t <;> first | (rcases h2 with h2 | h2 <;> cases h2; done) | (cases v <;> first | rfl | (cases h; done))
/-- whether a comprehension is stored as one thing -/
def swC (sc scope : Scope) (y : Str) (py pos : Pos) : Bool :=
  (sc.names.lookup y == some .local) && (py.line == pos.line) && !(scope.names.any fun (n, k) => n == y && (k == .local || k == .cell))
theorem swC_true {elt : Expr} {gs : List Comprehension} {scope : Scope} {pos py : Pos} {y : Str} {l : Nat} {env : Env} (hk : env.scope.kind = .function) (h : swC env.scope scope y py pos = true) :
    env.scope.names.lookup y = some .local ∧ swapsWith (.ListComp elt gs scope pos) (some (.Name y py)) l env = pure true := by
  unfold swC at h
  simp only [Bool.and_eq_true, Bool.not_eq_true'] at h
  have h1 : env.scope.names.lookup y = some .local := by simpa using h.1.1
  exact ⟨h1, sw_true hk h1 h.1.2 h.2⟩
theorem swC_false {elt : Expr} {gs : List Comprehension} {scope : Scope} {pos py : Pos} {y : Str} {l : Nat} {env : Env} (hk : env.scope.kind = .function) (h : swC env.scope scope y py pos = false) :
    swapsWith (.ListComp elt gs scope pos) (some (.Name y py)) l env = pure false := by
  have hb : env.blockKind = .function := by unfold Env.blockKind; rw [hk]; rfl
  unfold swapsWith
  simp only [hb, Expr.pos]
  show pure ((ScopeKind.function == ScopeKind.function) && (env.kindOf y == some .local) && (py.line == pos.line) && !(scope.names.any fun (n, k) => n == y && (k == .local || k == .cell))) = pure false
  have : ((ScopeKind.function == ScopeKind.function) && (env.kindOf y == some .local) && (py.line == pos.line) && !(scope.names.any fun (n, k) => n == y && (k == .local || k == .cell))) = false := by
    unfold swC at h
    unfold Env.kindOf
    rw [show (ScopeKind.function == ScopeKind.function) = true from rfl, Bool.true_and]
    exact h
  rw [this]
def lastStar : List Expr → Option (List Expr × Str × Pos × Pos)
  | [] => none
  | [.Starred (.Name y p1) p2] => some ([], y, p1, p2)
  | e :: es => (lastStar es).map fun r => (e :: r.1, r.2)
theorem lastStar_ok : ∀ {es : List Expr} {r : List Expr × Str × Pos × Pos}, lastStar es = some r → es = r.1 ++ [.Starred (.Name r.2.1 r.2.2.1) r.2.2.2]
  | [], r, h => by cases h
  | e :: es, r, h => by
    unfold lastStar at h
    split at h
    · cases ‹_ :: _ = []›
    · rename_i y p1 p2 h0
      cases h0
      cases h
      rfl
    · rename_i e' es' _ h0
      cases h0
      obtain ⟨r', h1, h2⟩ := Option.map_eq_some_iff.mp h
      subst h2
      rw [List.cons_append, ← lastStar_ok h1]
def chkB (f : S → Stmt → Bool) : List S → List Stmt → Bool
  | [], [] => true
  | s :: ss, st :: sts => f s st && chkB f ss sts
  | _, _ => false
def isLc : C → Bool
  | .lc _ _ _ _ _ _ => true
  | .lc2 _ _ _ _ _ _ _ _ _ _ => true
  | _ => false
def chkSet (e : Ctx → C → Expr → Bool) (cx : Ctx) (t : Tg) (c : C) (tg v : Expr) (pos : Pos) : Bool := match t with
  | .sub o i => (match tg with
    | .Subscript o' i' _ => ixOk i' && e cx o o' && e cx i i' && e cx c v
    | _ => false)
  | .nm i => (match tg with
    | .Name y py => decide (cx.N[i]? = some y) && cx.loc y && e cx c v && (match v with
      | .ListComp elt gs scope p => if swC cx.sc scope y py p then isLc c else true
      | .SetComp _ _ _ _ => false
      | .DictComp _ _ _ _ _ => false
      | _ => true)
    | _ => false)
  | .tp ts => isTupE tg && !isTupE v && chkG cx 8 (.tp ts) tg && e cx c v
  | .star ts i => (match tg with
    | .Tuple elts _ _ => !isTupE v && e cx c v && (match lastStar elts with
      | some (es, y, p1, _) => chkGs (chkG cx 8) (ts ++ [.nm i]) (es ++ [.Name y p1]) && decide (ts.length = es.length)
      | none => false)
    | _ => false)
def chkPar (cx : Ctx) (is : List Nat) (ts vs : List Expr) : Bool := match swp cx.sc ts vs with
  | none => false
  | some none => chkN cx is ts && decide (is.length ≤ 1000)
  | some (some ns) => (match is, ts, vs with
    | [i, j], [.Name x _, .Name y _], [_, _] => decide (ns = [x, y]) && decide (cx.N[i]? = some x) && decide (cx.N[j]? = some y) && decide (i ≠ j) && (cx.sc.names.lookup x == some .local) && (cx.sc.names.lookup y == some .local)
    | [i, j, l], [.Name x _, .Name y _, .Name z _], [_, _, _] => decide (ns = [x, y, z]) && decide (cx.N[i]? = some x) && decide (cx.N[j]? = some y) && decide (cx.N[l]? = some z) && decide (i ≠ j) && decide (i ≠ l) && decide (j ≠ l) &&
        (cx.sc.names.lookup x == some .local) && (cx.sc.names.lookup y == some .local) && (cx.sc.names.lookup z == some .local)
    | _, _, _ => false)
def chkSStep (e t : Ctx → C → Expr → Bool) (f : Ctx → S → Stmt → Bool) (cx : Ctx) (s : S) (st : Stmt) : Bool := match s with
  | .set tg c => (match st with
    | .Assign [tge] v pos => chkSet e cx tg c tge v pos
    | _ => false)
  | .par is cs => (match st with
    | .Assign [.Tuple ts _ _] (.Tuple vs _ _) _ => chks (e cx) cs vs && chkPar cx is ts vs
    | _ => false)
  | .ex c => (match st with
    | .Expr v _ => !isComp v && e cx c v
    | _ => false)
  | .rt c => (match st with
    | .Return (some v) _ => e cx c v
    | _ => false)
  | .rtn => (match st with
    | .Return none _ => true
    | _ => false)
  | .iff c a b => (match st with
    | .If q x y _ => t cx c q && chkB (f cx) a x && chkB (f cx) b y
    | _ => false)
  | .whl c b => (match st with
    | .While q x [] _ => t cx c q && chkB (f cx) b x
    | _ => false)
  | .forr tg it b => (match st with
    | .For tge iter x [] _ => chkI (e cx) cx it iter && fsOk iter && chkG cx 8 tg tge && (!prOf it || isTp tg) && chkB (f cx) b x
    | _ => false)
  | .brk => (match st with
    | .Break _ => true
    | _ => false)
  | .cnt => (match st with
    | .Continue _ => true
    | _ => false)
  | .pas => (match st with
    | .Pass _ => true
    | .Expr (.Constant (.str _) _ _) _ => true
    | _ => false)
  | .stop => true
  | .aug _ _ _ => false
def chkSN (e t : Ctx → C → Expr → Bool) : Nat → Ctx → S → Stmt → Bool
  | 0, _, _, _ => false
  | n + 1, cx, s, st => chkSStep e t (chkSN e t n) cx s st
end EV

/-! EV25: the checker of statements is right -/
namespace EV
open PySem PySem.Spec PySem.SeqAt L2
variable {CX : CXT} {k : Nat} {cl : Str → List Ev → Hs → R Ev} {gl : Str → Option Dt}
theorem bs_of {X : Cx} {W : WX} {f : S → Stmt → Bool} {g : S → Sl → Hs → RS} (h : ∀ s st, f s st = true → PS X st (tS X.mg X.K W (g s))) : ∀ {ss : List S} {sts : List Stmt}, chkB f ss sts = true → PSs X sts (tS X.mg X.K W (exB g ss))
  | [], [], _ => b_nil
  | [], _ :: _, q => by cases q
  | _ :: _, [], q => by cases q
  | s :: ss, st :: sts, q => by
    simp only [chkB, Bool.and_eq_true] at q
    exact b_cons (h s st q.1) (bs_of h q.2)
theorem setLc_ok {e t : Ctx → C → Expr → Bool} {ge : C → Sl → Hs → R Ev} {gt : C → Sl → Hs → R Bool} (he : EOk CX k cl gl e ge) (ht : TOk CX k cl gl t gt) {X : Cx} {c : Ctx} {W : WX} (r : Rx X c CX k W cl gl) (hk : X.env.scope.kind = .function) {i n : Nat} {y : Str} {py pos spos : Pos} {elt : Expr} {gs : List Comprehension} {scope : Scope} {cc : C}
    (hy : X.N[i]? = some y) (hsw : swC X.env.scope scope y py pos = true) (hl : isLc cc = true) (q : chkStep gl e t c cc (.ListComp elt gs scope pos) = true) :
    PS X (.Assign [.Name y py] (.ListComp elt gs scope pos) spos) (tS X.mg X.K W fun σ h => ofR (evStep cl gl ge gt cc σ h) σ fun v h => match setE n (.nm i) v σ h with
    | some (σ, h) => .nx σ h
    | none => .bad) := by
  obtain ⟨hyl, hsw⟩ := swC_true (elt := elt) (gs := gs) (l := spos.line) hk hsw
  cases cc <;> first | (cases hl; done) | skip
  · rename_i mk el tg it cc vs
    simp only [chkStep] at q
    split at q
    · rename_i elt' tge iter ifs asy scope' pos' hx
      cases hx
      simp only [Bool.and_eq_true, decide_eq_true_eq] at q
      obtain ⟨⟨⟨⟨⟨⟨⟨⟨rfl, q1⟩, q2⟩, q3⟩, q4⟩, q5⟩, q6⟩, q7⟩, q8⟩ := q
      have ok : BlkOk X.N X.env.scope scope (ownOf c vs) := by rw [r.rt.N, r.rt.sc]; exact blkOk_by q3
      have own := ownOf_snd c vs
      have q6' : (!prOf it || isTp tg) = true := by simpa using q6
      have := c_setLc (X := X) (mg := X.mg) (W := W) (pos := pos) (n := n) (ix := tgIx 8 tg) (own := ownOf c vs) mk r.rt.calm r.rt.nd hy hyl hsw (pi_of r (he X c W r) q1 (tp_shape q5 q6')) ok
        (by rw [own]; intro i hi; simpa using List.all_eq_true.mp q4 i hi)
        (fun s H C cl fp => pg_pr (r.blk ok s H C cl fp).rt q5 (pr_tp q6')) (fun s H C cl fp => pts_of (ht _ _ _ (r.blk ok s H C cl fp)) q7) (fun s H C cl fp => he _ _ _ (r.blk ok s H C cl fp) el elt q8) (fun x => fs_plain q2 _ x)
      rw [own] at this
      exact this
    · cases q
  · rename_i mk el tg it cc tg1 it1 cc1 vs vs1
    simp only [chkStep] at q
    split at q
    · rename_i elt' tge iter ifs asy tge1 iter1 ifs1 asy1 scope' pos' hx
      cases hx
      simp only [Bool.and_eq_true, decide_eq_true_eq] at q
      obtain ⟨⟨⟨⟨⟨⟨⟨⟨⟨⟨⟨⟨⟨⟨⟨⟨rfl, rfl⟩, q1⟩, q2⟩, q3⟩, q4⟩, q5⟩, q6⟩, q7⟩, q8⟩, q9⟩, q10⟩, q11⟩, q12⟩, q13⟩, q14⟩, q15⟩ := q
      have ok : BlkOk X.N X.env.scope scope (ownOf c vs) := by rw [r.rt.N, r.rt.sc]; exact blkOk_by q3
      have own := ownOf_snd c vs
      have q6' : (!prOf it || isTp tg) = true := by simpa using q6
      have q14' : (!prOf it1 || isTp tg1) = true := by simpa using q14
      have := c_setLc2 (X := X) (mg := X.mg) (W := W) (pos := pos) (n := n) (ix := tgIx 8 tg) (ix1 := tgIx 8 tg1) (vs1 := vs1) (own := ownOf c vs) mk r.rt.calm r.rt.nd hy hyl hsw (pi_of r (he X c W r) q1 (tp_shape q5 q6')) ok
        (by rw [own]; intro i hi; simpa using List.all_eq_true.mp q9 i hi) (by rw [own]; intro i hi; simpa using List.all_eq_true.mp q4 i hi) (by intro i hi; simpa using List.all_eq_true.mp q12 i hi)
        (fun s H C cl fp => pg_pr (r.blk ok s H C cl fp).rt q5 (pr_tp q6')) (fun s H C cl fp => pts_of (ht _ _ _ (r.blk ok s H C cl fp)) q7)
        (fun s H C cl fp => pi_of (r.blk ok s H C cl fp) (he _ _ _ (r.blk ok s H C cl fp)) q10 (tp_shape q13 q14'))
        (fun s H C cl fp => pg_pr (r.blk ok s H C cl fp).rt q13 (pr_tp q14')) (fun s H C cl fp => pts_of (ht _ _ _ (r.blk ok s H C cl fp)) q15)
        (fun s H C cl fp => he _ _ _ (r.blk ok s H C cl fp) el elt q8) (fun x => fs_plain q2 _ x) (fun env x => fs_plain q11 env x)
      rw [own] at this
      exact this
    · cases q
theorem set_ok {e t : Ctx → C → Expr → Bool} {ge : C → Sl → Hs → R Ev} {gt : C → Sl → Hs → R Bool} (he : EOk CX k cl gl e ge) (ht : TOk CX k cl gl t gt) {X : Cx} {c : Ctx} {W : WX} (r : Rx X c CX k W cl gl) (hk : X.env.scope.kind = .function) {wb : Nat} {tg : Tg} {cc : C} {tge v : Expr} {pos : Pos} {x : S → Sl → Hs → RS} {tt : C → Sl → Hs → R Bool}
    (q : chkSet (chkStep gl e t) c tg cc tge v pos = true) : PS X (.Assign [tge] v pos) (tS X.mg X.K W (exStep (evStep cl gl ge gt) tt wb x (.set tg cc))) := by
  have hE : ∀ kk x, chkStep gl e t c kk x = true → PE X x (tE X.mg X.K W (evStep cl gl ge gt kk)) := step_e he ht X c W r
  cases tg with
  | sub o i =>
    simp only [chkSet] at q
    split at q
    · simp only [Bool.and_eq_true] at q
      obtain ⟨⟨⟨q1, q2⟩, q3⟩, q4⟩ := q
      exact c_sub q1 r.rt.un (sw_other rfl _ _) (hE _ _ q2) (hE _ _ q3) (hE _ _ q4)
    · cases q
  | nm i =>
    simp only [chkSet] at q
    split at q
    · simp only [Bool.and_eq_true, decide_eq_true_eq] at q
      obtain ⟨⟨⟨q1, q2⟩, q3⟩, q4⟩ := q
      rename_i y py
      have hy : X.N[i]? = some y := by rw [r.rt.N]; exact q1
      obtain ⟨l1, l2⟩ := r.rt.loc q2
      have plain : isComp v = false → PS X (.Assign [.Name y py] v pos) (tS X.mg X.K W (exStep (evStep cl gl ge gt) tt wb x (.set (.nm i) cc))) := fun h => c_set r.rt.nd hy l1 l2 (sw_plain h _ _ _) (hE _ _ q3)
      cases v <;> first | exact plain rfl | (cases q4; done) | skip
      rename_i elt gs scope p
      dsimp only at q4
      cases hs : swC c.sc scope y py p with
      | false => exact c_set r.rt.nd hy l1 l2 (swC_false hk (by rw [r.rt.sc]; exact hs)) (hE _ _ q3)
      | true =>
        rw [hs] at q4
        exact setLc_ok he ht r hk hy (by rw [r.rt.sc]; exact hs) q4 q3
    · cases q
  | tp ts =>
    simp only [chkSet, Bool.and_eq_true, Bool.not_eq_true'] at q
    obtain ⟨⟨⟨q1, q2⟩, q3⟩, q4⟩ := q
    have nn : isNm tge = false := by cases tge <;> first | rfl | cases q1
    refine c_tp r.rt q3 (sw_other nn _ _) (ss_plain q2 (.inr q1) _) ?_ (hE _ _ q4)
    cases tge <;> first | (cases q1; done) | rfl
  | star ts i =>
    simp only [chkSet] at q
    split at q
    · simp only [Bool.and_eq_true, Bool.not_eq_true'] at q
      obtain ⟨⟨q1, q2⟩, q3⟩ := q
      rename_i elts kk tpos
      split at q3
      · rename_i es y p1 p2 e1
        simp only [Bool.and_eq_true, decide_eq_true_eq] at q3
        have := lastStar_ok e1
        subst this
        exact c_star r.rt q3.1 q3.2 (sw_other rfl _ _) (ss_plain q1 (.inr rfl) _) (hE _ _ q2)
      · cases q3
    · cases q
theorem par_ok {X : Cx} {c : Ctx} {W : WX} (r : Rx X c CX k W cl gl) {is : List Nat} {rs : TR (List Ev)} {ts vs : List Expr} {kt k2 : Nat} {pt pt2 pos : Pos} (ha : PA X vs (tA X.mg X.K W rs)) (q : chkPar c is ts vs = true) :
    PS X (.Assign [.Tuple ts kt pt] (.Tuple vs k2 pt2) pos) (tS X.mg X.K W fun σ h => ofR (rs σ h) σ fun vs h => match setsE is vs σ with
    | some σ => .nx σ h
    | none => .bad) := by
  unfold chkPar at q
  split at q
  · cases q
  · rename_i e
    rw [Bool.and_eq_true, decide_eq_true_eq] at q
    exact c_par r.rt q.1 q.2 ha (swp_ok (by rw [r.rt.sc]; exact e))
  · rename_i ns e
    have e' : swp X.env.scope ts vs = some (some ns) := by rw [r.rt.sc]; exact e
    split at q
    · simp only [Bool.and_eq_true, decide_eq_true_eq, beq_iff_eq] at q
      obtain ⟨⟨⟨⟨⟨rfl, q1⟩, q2⟩, q3⟩, q4⟩, q5⟩ := q
      exact c_par2 r.rt.calm r.rt.nd (by rw [r.rt.N]; exact q1) (by rw [r.rt.N]; exact q2) q3 (by rw [r.rt.sc]; exact q4) (by rw [r.rt.sc]; exact q5) ha (swp_ok e')
    · simp only [Bool.and_eq_true, decide_eq_true_eq, beq_iff_eq] at q
      obtain ⟨⟨⟨⟨⟨⟨⟨⟨⟨rfl, q1⟩, q2⟩, q3⟩, q4⟩, q5⟩, q6⟩, q7⟩, q8⟩, q9⟩ := q
      exact c_par3 r.rt.calm r.rt.nd (by rw [r.rt.N]; exact q1) (by rw [r.rt.N]; exact q2) (by rw [r.rt.N]; exact q3) q4 q5 q6 (by rw [r.rt.sc]; exact q7) (by rw [r.rt.sc]; exact q8) (by rw [r.rt.sc]; exact q9) ha (swp_ok e')
    · cases q
theorem stm_ok (CX : CXT) (k : Nat) (cl : Str → List Ev → Hs → R Ev) (gl : Str → Option Dt) (m wb : Nat) : ∀ (n : Nat) (X : Cx) (c : Ctx) (W : WX), Rx X c CX k W cl gl → X.env.scope.kind = .function → PassesOwn (model X.prog X.w) X.A X.env X.xe →
    ∀ s st, chkSN (chkP gl (m + 1)).1 (chkP gl (m + 1)).2 n c s st = true → PS X st (tS X.mg X.K W (exN (ev cl gl (m + 1)) (tv cl gl (m + 1)) wb n s))
  | 0, _, _, _, _, _, _, _, _, q => by cases q
  | n + 1, X, c, W, r, hk, hp, s, st, q => by
    obtain ⟨he', ht'⟩ := chk_ok CX k cl gl m
    obtain ⟨he, ht⟩ := chk_ok CX k cl gl (m + 1)
    have ih := stm_ok CX k cl gl m wb n X c W r hk hp
    have hE := he X c W r
    have hT := ht X c W r
    cases s with
    | set tg cc =>
      simp only [chkSN, chkSStep] at q
      split at q
      · exact set_ok he' ht' r hk q
      · cases q
    | par is cs =>
      simp only [chkSN, chkSStep] at q
      split at q
      · rw [Bool.and_eq_true] at q
        exact par_ok r (pa_of hE q.1) q.2
      · cases q
    | aug i o e => cases q
    | ex cc =>
      simp only [chkSN, chkSStep] at q
      split at q
      · simp only [Bool.and_eq_true, Bool.not_eq_true'] at q
        exact c_ex (sw_plain q.1 _ _ _) (hE _ _ q.2)
      · cases q
    | rt cc =>
      simp only [chkSN, chkSStep] at q
      split at q
      · exact c_rt (hE _ _ q)
      · cases q
    | rtn =>
      simp only [chkSN, chkSStep] at q
      split at q
      · exact c_rtn
      · cases q
    | iff cc a b =>
      simp only [chkSN, chkSStep] at q
      split at q
      · simp only [Bool.and_eq_true] at q
        exact c_if (hT _ _ q.1.1) (bs_of ih q.1.2) (bs_of ih q.2)
      · cases q
    | whl cc b =>
      simp only [chkSN, chkSStep] at q
      split at q
      · simp only [Bool.and_eq_true] at q
        exact c_while hp (hT _ _ q.1) (bs_of ih q.2)
      · cases q
    | forr tg it b =>
      simp only [chkSN, chkSStep] at q
      split at q
      · simp only [Bool.and_eq_true] at q
        obtain ⟨⟨⟨⟨q1, q2⟩, q3⟩, q4⟩, q5⟩ := q
        exact c_for hp r.rt.calm (pi_of r hE q1 (tp_shape q3 q4)) (pg_pr r.rt q3 (pr_tp q4)) (bs_of ih q5) (fun x => fs_plain q2 _ x)
      · cases q
    | brk =>
      simp only [chkSN, chkSStep] at q
      split at q
      · exact c_brk
      · cases q
    | cnt =>
      simp only [chkSN, chkSStep] at q
      split at q
      · exact c_cnt
      · cases q
    | pas =>
      simp only [chkSN, chkSStep] at q
      split at q
      · exact c_pass
      · exact c_doc
      · cases q
    | stop => exact c_stop
end EV

/-! EV26: functions, the table of a module -/
namespace EV
open PySem PySem.Spec PySem.SeqAt L2 C8
/-- one def of the module, as the evaluator has it -/
structure Ent where
  x : Str
  st : Stmt
  N : List Str
  np : Nat
  body : List S
def runF (ge : C → Sl → Hs → R Ev) (gt : C → Sl → Hs → R Bool) (wb n ns : Nat) (body : List S) (es : List Ev) (h : Hs) : R Ev :=
  match exB (exN ge gt wb n) body (es.map some ++ List.replicate (ns - es.length) none) h with
  | .rt v h => .ok v h
  | .nx _ h => .ok (.d .none) h
  | .ex x _ h => .ex x h
  | _ => .bad
/-- the fuels: of expressions (one more than m), of statements, of whiles -/
structure Fu where
  m : Nat
  n : Nat
  wb : Nat
def clK (ents : List Ent) (gl : Str → Option Dt) (fu : Fu) : Nat → Str → List Ev → Hs → R Ev
  | 0, _, _, _ => .bad
  | k + 1, x, es, h => match ents.find? fun e => decide (e.x = x) with
    | some e => if es.length = e.np then runF (ev (clK ents gl fu k) gl (fu.m + 1)) (tv (clK ents gl fu k) gl (fu.m + 1)) fu.wb fu.n e.N.length e.body es h else .bad
    | none => .bad
def Ent.cx (ents : List Ent) (e : Ent) : Ctx := ⟨fnScope e.st, e.N, (fnScope e.st).names.map Prod.fst, ents.map (·.x)⟩
def entOk (ents : List Ent) (gl : Str → Option Dt) (fu : Fu) (e : Ent) : Bool :=
  scC e.N (e.N.take e.np) (fnScope e.st) && decide (e.np ≤ e.N.length) && !(e.x == ("__debug__" : Str)) && chkB (chkSN (chkP gl (fu.m + 1)).1 (chkP gl (fu.m + 1)).2 fu.n (e.cx ents)) e.body (fnBody e.st)
/-- what is known of a def behind the top -/
structure Known (K : PySem.W.Frag) (mg : Str → Option Value) (e : Ent) (f : Addr) : Prop where
  mgf : mg e.x = some (.ref f)
  kp : PySem.W.keepIn K (.ref f) = true
  fn : ∃ (oc : Value) (od : Option Addr) (dV kV doc pm : Value) (an : Option Addr) (cdv ct : Value) (osl : Array (Option Value)),
    K.lookup f = some ⟨oc, od, .func (PySem.W.fnOf e.x e.x (fnArgs e.st) (fnBody e.st) (fnScope e.st) dV kV doc pm an cdv ct), osl⟩ ∧ PySem.W.codeIn K cdv e.x = true ∧
    ∀ us : List Value, us.length = e.np → bindArgs (PySem.W.fnOf e.x e.x (fnArgs e.st) (fnBody e.st) (fnScope e.st) dV kV doc pm an cdv ct) ⟨us, []⟩ = pure ((e.N.take e.np).zip us)
structure Glo (K : PySem.W.Frag) (mg : Str → Option Value) (gl : Str → Option Dt) : Prop where
  con : ∀ x d, gl x = some d → (x == ("__debug__" : Str)) = false ∧ ∃ u v, mg x = some u ∧ RelV v u ∧ ∀ H L, RD K H L v d
  blt : ∀ x ∈ blts, mg x = none
theorem start_ss {K : PySem.W.Frag} {F : Addr → Prop} {A : List Addr} {h : Hs} {H : Hp} {es : List Ev} {vs : List V} {N : List Str} (r : RVs K F A h H es vs) (hl : es.length ≤ N.length) : Ss K F A h H (es.map some ++ List.replicate (N.length - es.length) none) (L2.start N vs) := by
  have len : es.length = vs.length := by
    clear hl
    induction r with
    | nil => rfl
    | cons a b ih => rw [List.length_cons, List.length_cons, ih]
  refine ⟨?_, fun i e q => ?_⟩
  · unfold L2.start
    rw [List.length_append, List.length_append, List.length_map, List.length_map, List.length_replicate, List.length_replicate, len]
  · by_cases hi : i < es.length
    · rw [List.getElem?_append_left (by simpa using hi), List.getElem?_map] at q
      have get : ∀ {es : List Ev} {vs : List V} {i : Nat} {e : Ev}, RVs K F A h H es vs → es[i]? = some e → ∃ v, vs[i]? = some v ∧ RV K F A h H e v := by
        intro es vs i e r q
        induction r generalizing i with
        | nil => simp at q
        | cons a b ih =>
          cases i with
          | zero => simp at q; subst q; exact ⟨_, rfl, a⟩
          | succ i => exact ih (by simpa using q)
      cases ee : es[i]? with
      | none => rw [ee] at q; cases q
      | some e' =>
        rw [ee] at q
        cases q
        obtain ⟨v, e1, e2⟩ := get r ee
        refine ⟨v, ?_, e2⟩
        unfold L2.start
        rw [List.getElem?_append_left (by rw [List.length_map, ← len]; exact hi), List.getElem?_map, e1]
        rfl
    · rw [List.getElem?_append_right (by simpa using hi), List.getElem?_replicate] at q
      split at q <;> cases q
section
variable {P : Program} {w : World} {K : PySem.W.Frag} {mg : Str → Option Value} {base : Heap} {ents : List Ent} {gl : Str → Option Dt} {fu : Fu}
theorem guards_deeper {A : Around} {env : Env} (h : A.guards = some []) : (A.deeper env).guards = some [] := h
theorem fnV_succ {k : Nat} {e : Ent} {f : Addr} (ok : entOk ents gl fu e = true) (kn : Known K mg e f) (G : Glo K mg gl) (prev : ∀ x ∈ ents.map (·.x), ∃ fa, mg x = some (.ref fa) ∧ PySem.W.keepIn K (.ref fa) = true ∧ (x == ("__debug__" : Str)) = false ∧ FnV P w K mg base C8.CX0 k fa (clK ents gl fu k x)) :
    FnV P w K mg base C8.CX0 (k + 1) f (fun es h => if es.length = e.np then runF (ev (clK ents gl fu k) gl (fu.m + 1)) (tv (clK ents gl fu k) gl (fu.m + 1)) fu.wb fu.n e.N.length e.body es h else .bad) := by
  unfold entOk at ok
  simp only [Bool.and_eq_true, decide_eq_true_eq] at ok
  obtain ⟨⟨⟨ok1, ok2⟩, ok3⟩, ok4⟩ := ok
  have S := fnScope_by ok1
  obtain ⟨oc, od, dV, kV, doc, pm, an, cdv, ct, osl, lk, hcd, hbind⟩ := kn.fn
  refine ⟨fun A outer s H us vs Q E room gd e0 rv sp => ?_⟩
  obtain ⟨F, A0, h, es, cs, res, o⟩ := sp
  dsimp only at o
  by_cases hes : es.length = e.np
  · rw [if_pos hes] at o
    have len : vs.length = (e.N.take e.np).length := by
      have : es.length = vs.length := by
        clear o hes
        induction res generalizing us with
        | nil => rfl
        | cons a b ih =>
          cases rv with
          | cons c d => rw [List.length_cons, List.length_cons, ih _ d]
      rw [← this, hes, List.length_take]; omega
    have lenU : us.length = e.np := by
      rw [← rv.length, len, List.length_take]; omega
    have inH : K.In s.heap := e0.mod.kin.keeps fun b o z => (e0.bs b o z).1
    have noLim : s.heap.NoLimit := e0.mod.nolimit.keeps fun b o z => (e0.bs b o z).1
    have kinds : ∀ y ∈ (e.N.take e.np).zip us, (fnScope e.st).names.lookup y.1 = some .local ∨ ((fnScope e.st).names.lookup y.1 = some .cell ∧ ((cellsFrom (s.heap.objs.size + 1) (fnScope e.st).names []).lookup y.1).isSome = true) := by
      rintro ⟨y, v⟩ hy
      rcases S.par y (List.of_mem_zip hy).1 with z | z
      · exact .inl z
      · exact .inr ⟨z, PySem.W.cellsFrom_some _ _ _ (.inl z)⟩
    refine codeAny_call_function room.depth (inH _ _ lk) rfl S.co S.gen rfl (PySem.W.codeRec_of inH hcd) ((BindsTo.of_eq (hbind us lenU) : BindsTo s _ _ _) _ _ _ _ ?_)
    refine wpAny_newFunctionEnv_cells S.kind kinds fun env he s1 x => ?_
    subst he
    refine ⟨noLim.keeps x.toInCall.keep, codeAny_func ?_⟩
    have room' := room.deeper (PyProof.Rows.envOfC e.x (fnScope e.st) s.heap.objs.size f cdv)
    have I0 : Inv (cxOf C8.CX0 P w K mg base e.N e.x (fnScope e.st) f cdv A outer s H E) [] (L2.start e.N vs) H s1 := inv_start S room.hd e0 len rv x
    have rx : Rx (cxOf C8.CX0 P w K mg base e.N e.x (fnScope e.st) f cdv A outer s H E) (e.cx ents) C8.CX0 k (WK E) (clK ents gl fu k) gl := by
      refine ⟨⟨rfl, rfl, S.nd, rfl, ?_, guards_deeper gd, fun _ _ => rfl⟩, room', fun x hx => ?_, G.con, G.blt, fun _ _ _ _ _ _ _ z => z.elim, fun _ _ _ _ _ z => z⟩
      · have := room'.un
        show (A.deeper _).units + 200 < cLine
        omega
      · obtain ⟨fa, z1, z2, z3, z4⟩ := prev x hx
        exact ⟨z3, fa, z1, z2, z4⟩
    have body : PSs (cxOf C8.CX0 P w K mg base e.N e.x (fnScope e.st) f cdv A outer s H E) (fnBody e.st) (tS mg K (WK E) (exB (exN (ev (clK ents gl fu k) gl (fu.m + 1)) (tv (clK ents gl fu k) gl (fu.m + 1)) fu.wb fu.n) e.body)) :=
      bs_of (stm_ok C8.CX0 k (clK ents gl fu k) gl fu.m fu.wb fu.n _ _ _ rx S.kind PassesOwn.leaving) ok4
    have q0 : tS mg K (WK E) (exB (exN (ev (clK ents gl fu k) gl (fu.m + 1)) (tv (clK ents gl fu k) gl (fu.m + 1)) fu.wb fu.n) e.body) { nx := fun _ H' => Q .non H', rt := Q } (L2.start e.N vs) H := by
      refine ⟨F, A0, _, h, cs, start_ss res (by omega), ?_⟩
      unfold runF at o
      revert o
      cases exB (exN (ev (clK ents gl fu k) gl (fu.m + 1)) (tv (clK ents gl fu k) gl (fu.m + 1)) fu.wb fu.n) e.body (es.map some ++ List.replicate (e.N.length - es.length) none) h with
      | nx σ2 h2 => exact fun o A' H' σ' p sm s' => o A' H' p sm .non .non
      | rt v h2 => exact fun o A' H' v' p sm r => o A' H' p sm v' r
      | bk σ2 h2 => exact fun o => o.elim
      | ct σ2 h2 => exact fun o => o.elim
      | ex x σ2 h2 => exact fun o A' H' σ' c od p s' rx => o A' H' c od p rx
      | bad => exact fun o => o.elim
    refine wpAny_mono (body.run [] s1 (L2.start e.N vs) H _ I0 q0) (fun fl s' hs => ?_) fun _ _ hs => hs
    have fin : ∀ {σ' : L2.St} {H' : Hp} {v : V} {u : Value}, Inv (cxOf C8.CX0 P w K mg base e.N e.x (fnScope e.st) f cdv A outer s H E) [] σ' H' s' → RelV v u → Q v H' → CE outer P w H s Q u s' := by
      intro σ' H' v u J r q
      exact ⟨v, H', J.os, J.bare, J.base, J.hok, r, q⟩
    cases fl with
    | next => obtain ⟨σ', H', J, q⟩ := hs; exact fin (v := V.non) (u := Value.none) J rfl q
    | ret u => obtain ⟨v, σ', H', J, r, q⟩ := hs; exact fin J r q
    | brk => obtain ⟨_, _, _, q⟩ := hs; exact q.elim
    | cont => obtain ⟨_, _, _, q⟩ := hs; exact q.elim
  · rw [if_neg hes] at o
    exact o.elim
theorem find_ent : ∀ {l : List Ent} {e : Ent}, (l.map (·.x)).Nodup → e ∈ l → (l.find? fun d => decide (d.x = e.x)) = some e
  | [], _, _, h => by cases h
  | a :: l, e, nd, h => by
    rw [List.map_cons, List.nodup_cons] at nd
    rcases List.mem_cons.mp h with rfl | h
    · rw [List.find?_cons_of_pos (by simp)]
    · have ne : a.x ≠ e.x := fun z => nd.1 (z ▸ List.mem_map.mpr ⟨e, h, rfl⟩)
      rw [List.find?_cons_of_neg (by simpa using ne)]
      exact find_ent nd.2 h
theorem all_fns (G : Glo K mg gl) (nd : (ents.map (·.x)).Nodup) (ok : ents.all (entOk ents gl fu) = true) (kn : ∀ e ∈ ents, ∃ f, Known K mg e f) : ∀ (k : Nat) (e : Ent), e ∈ ents → ∀ f, Known K mg e f → FnV P w K mg base C8.CX0 k f (clK ents gl fu k e.x)
  | 0, e, he, f, kf => ⟨fun A outer s H us vs Q E room gd e0 rv sp => by
      obtain ⟨F, A0, h, es, cs, res, o⟩ := sp
      exact o.elim⟩
  | k + 1, e, he, f, kf => by
    have ih := all_fns G nd ok kn k
    have oke := List.all_eq_true.mp ok e he
    have := fnV_succ (P := P) (w := w) (base := base) (k := k) oke kf G fun x hx => by
      obtain ⟨d, hd, rfl⟩ := List.mem_map.mp hx
      obtain ⟨fd, kd⟩ := kn d hd
      have okd := List.all_eq_true.mp ok d hd
      unfold entOk at okd
      simp only [Bool.and_eq_true, Bool.not_eq_true'] at okd
      exact ⟨fd, kd.mgf, kd.kp, okd.1.2, ih d hd fd kd⟩
    have e1 : clK ents gl fu (k + 1) e.x = fun es h => if es.length = e.np then runF (ev (clK ents gl fu k) gl (fu.m + 1)) (tv (clK ents gl fu k) gl (fu.m + 1)) fu.wb fu.n e.N.length e.body es h else .bad := by
      funext es h
      simp only [clK, find_ent nd he]
    rw [e1]
    exact this
end
end EV

/-! EV27: from the top to the law's answer -/
namespace EV
open PySem PySem.Spec PySem.SeqAt L2
/-! ### written constants -/
def two (f : Value → Dt → Bool) : List Value → List Dt → Bool
  | [], [] => true
  | u :: us, d :: ds => f u d && two f us ds
  | _, _ => false
def rdK (K : PySem.W.Frag) : Nat → Value → Dt → Bool
  | 0, _, _ => false
  | n + 1, u, d => match d, u with
    | .none, .none => true
    | .bool a, .bool b => decide (a = b)
    | .int i, .int j _ => decide (i = j)
    | .str x, .str y _ => decide (x = y)
    | .tuple ds, .ref a => (match K.lookup a with
      | some ⟨.type T, none, .seq its _, _⟩ => decide (T = "tuple") && decide (its.size ≤ sizeLine) && two (rdK K n) its.toList ds
      | _ => false)
    | _, _ => false
theorem rdK_ok {K : PySem.W.Frag} : ∀ (n : Nat) (u : Value) (d : Dt), rdK K n u d = true → ∃ v, RelV v u ∧ ∀ H L, RD K H L v d
  | 0, _, _, h => by cases h
  | n + 1, u, d, h => by
    have many : ∀ (us : List Value) (ds : List Dt), two (rdK K n) us ds = true → ∃ vs, Vals vs us ∧ ∀ H L, RDs K H L vs ds := fun us => by
      induction us with
      | nil => intro ds h; cases ds with
        | nil => exact ⟨[], .nil, fun _ _ => .nil⟩
        | cons => cases h
      | cons u us ih => intro ds h; cases ds with
        | nil => cases h
        | cons d ds =>
          simp only [two, Bool.and_eq_true] at h
          obtain ⟨v, h1, h2⟩ := rdK_ok n u d h.1
          obtain ⟨vs, h3, h4⟩ := ih ds h.2
          exact ⟨v :: vs, .cons h1 h3, fun H L => .cons (h2 H L) (h4 H L)⟩
    unfold rdK at h
    split at h
    · exact ⟨.non, rfl, fun _ _ => .non⟩
    · have := of_decide_eq_true h; subst this; exact ⟨.bl _, rfl, fun _ _ => .bl _⟩
    · have := of_decide_eq_true h; subst this; exact ⟨.int _, ⟨_, rfl⟩, fun _ _ => .int _⟩
    · have := of_decide_eq_true h; subst this; exact ⟨.str _, ⟨_, rfl⟩, fun _ _ => .str _⟩
    · rename_i ds a
      split at h
      · rename_i T its k sl e
        simp only [Bool.and_eq_true, decide_eq_true_eq] at h
        obtain ⟨⟨rfl, h2⟩, h3⟩ := h
        obtain ⟨vs, h4, h5⟩ := many _ _ h3
        exact ⟨.ref a, rfl, fun H L => .tup (.inr ⟨_, its, k, e, rfl, rfl, rfl, h2, h4⟩) (h5 H L)⟩
      · cases h
    · cases h
/-- no list is written -/
def noLists (K : PySem.W.Frag) : Bool := K.all fun p => match p.2.cls with
  | .type T => !(T == "list")
  | _ => true
theorem noLists_at : ∀ {K : PySem.W.Frag} {a : Addr} {o : Obj}, noLists K = true → K.lookup a = some o → o.cls ≠ .type "list"
  | [], _, _, _, e => by cases e
  | (b, x) :: K, a, o, h, e => by
    unfold noLists at h
    rw [List.all_cons, Bool.and_eq_true] at h
    rw [List.lookup_cons] at e
    split at e
    · cases e
      intro z
      rw [show ((b, x) : Addr × Obj).2.cls = .type "list" from z] at h
      exact absurd h.1 (by decide)
    · exact noLists_at (K := K) h.2 e
theorem ints_rel {K : PySem.W.Frag} {H : Hp} {L : Addr → Prop} (ns : List Int) : RDs K H L (ns.map V.int) (ns.map .int) := by
  induction ns with
  | nil => exact .nil
  | cons a r ih => exact .cons (.int a) ih
/-- the law's def, told its script -/
theorem law_run {P : Program} {w : World} {K : PySem.W.Frag} {mg mb : Str → Option Value} {k : Nat} {fa a : Addr} {s₁ : Shared} {vs : List Value} {ns : List Int} {g : List Ev → Hs → R Ev}
    (inK : K.In s₁.heap) (nsG : s₁.heap.Ns mainGlobals mg) (nsB : s₁.heap.Ns builtinsNs mb) (bltB : ∀ x : Str, x ≠ "__name__" → mb x = bootBuiltins x) (noLim : s₁.heap.NoLimit) (gens0 : s₁.gens = #[])
    (script : s₁.heap.get? a = some { cls := .type "list", data := .seq vs.toArray }) (isInts : PyProof.Rows.IntsAre vs ns) (short : ns.length ≤ sizeLine) (room : Room k callerA) (noL : noLists K = true)
    (F : ∀ base : Heap, FnV P w K mg base C8.CX0 k fa g) (out : ∃ h', g [.r 0] [.ro (ns.map .int)] = .ok (.d (.bool true)) h') :
    codeAny (model P w) callerA (.call (.ref fa) ⟨[.ref a], []⟩) (fun r s' => r = .ok (.ret (.bool true)) ∧ OldK s₁.heap s'.heap ∧ s'.os = s₁.os ∧ PyProof.Rows.AllBare s'.gens) s₁ := by
  have rv := vals_ints isInts
  have noK : K.lookup a = none := by
    cases e : K.lookup a with
    | none => rfl
    | some o =>
      have e2 := inK a o e
      rw [script] at e2
      cases e2
      exact absurd rfl (noLists_at noL e)
  let H : Hp := fun b => if b = a then some (.frz { cls := .type "list", data := .seq vs.toArray } (.lst (ns.map V.int))) else none
  have Ha : H a = some (.frz { cls := .type "list", data := .seq vs.toArray } (.lst (ns.map V.int))) := if_pos rfl
  have Hn : ∀ b, b ≠ a → H b = none := fun b hb => if_neg hb
  have hok : HOk P w H s₁.heap := fun b u z => by
    by_cases hb : b = a
    · subst hb
      rw [Ha] at z
      cases z
      exact ⟨script, by rw [List.length_map]; exact short, vs, _, rv, script⟩
    · rw [Hn b hb] at z; cases z
  have toBase : ∀ {b : Addr} {o : Obj}, s₁.heap.get? b = some o → H b = none → (hidT s₁.heap H).get? b = some o := fun e n => hidT_get e n
  have nsK : ∀ {b : Addr} {m : Str → Option Value}, s₁.heap.Ns b m → (hidT s₁.heap H).Ns b m := fun {b m} ⟨o, es, ep, e, d, r⟩ => by
    refine ⟨o, es, ep, toBase e (Hn b fun z => ?_), d, r⟩
    subst z
    rw [script] at e
    cases e
    cases (show Data.seq vs.toArray _ = Data.dict es ep from d)
  have inB : K.In (hidT s₁.heap H) := fun b o e => toBase (inK b o e) (Hn b fun z => by rw [z, noK] at e; cases e)
  have md : Mod K mg (hidT s₁.heap H) := ⟨inB, nsK nsG, ⟨mb, nsK nsB, bltB⟩, let ⟨mc, h1, h2⟩ := noLim; ⟨mc, nsK h1, h2⟩⟩
  have env0 : Env0 P w K mg (hidT s₁.heap H) callerA [] s₁ H := ⟨rfl, md, fun b o e => of_hidT e, Nat.le_of_eq (hidT_size _ _), trivial, fun b hb => absurd (show b ∈ ([] : List Addr) from hb) (by simp), hok, .of_eq gens0⟩
  have cs : Cs K (fun _ => False) [a] [.ro (ns.map .int)] H := by
    refine ⟨rfl, by simp, fun n b c e1 e2 => ?_, fun b fb => fb.elim⟩
    cases n with
    | zero =>
      cases e1
      cases e2
      exact ⟨ns.map V.int, _, Ha, ints_rel ns⟩
    | succ n => simp at e1
  have sp : spE mg K g [.ref a] H (fun v _ => v = .bl true) (fun _ _ _ => False) := by
    obtain ⟨h', e⟩ := out
    refine ⟨fun _ => False, [a], [.ro (ns.map .int)], [.r 0], cs, .cons ⟨a, rfl, rfl⟩ .nil, ?_⟩
    rw [e]
    exact fun A' H' p sm v' r => RD.bool_ r
  refine codeAny_mono ((F (hidT s₁.heap H)).run callerA [] s₁ H [.ref a] [.ref a] _ _ room rfl env0 (.cons rfl .nil) sp) fun r s' hr => ?_
  cases r with
  | error e => exact hr.elim
  | ok fl =>
    cases fl with
    | next => exact hr.elim
    | brk => exact hr.elim
    | cont => exact hr.elim
    | ret u =>
      obtain ⟨v, H', os, bare, un, hok', rr, q⟩ := hr
      have q' : v = .bl true := q
      subst q'
      obtain rfl : u = Value.bool true := rr
      refine ⟨rfl, OldK.of_keep fun b o e => ?_, os, bare⟩
      by_cases hb : b = a
      · subst hb
        have z := un.frzs b _ _ Ha
        obtain ⟨e2, _⟩ := hok' b _ z
        rw [script] at e
        cases e
        exact e2
      · exact un.keep b o e (Hn b hb) (by intro z; exact absurd (show b ∈ ([] : List Addr) from z) (by simp)) (by simp)
/-- a walk to the law's answer -/
theorem walk_ev {l : PySem.W.OpenLaw} {n k : Nat} {q : Program} {loose : List Str} {XP : (Str → Option Value) → Heap → Prop} {YP : World → Heap → Prop} {d : DefRec} {K : Params → PySem.W.Frag} {ents : List Ent} {gl : Str → Option Dt} {fu : Fu} {e : Ent}
    (hn : l.most = some n) (hn2 : n ≤ sizeLine) (hdf : d.params.defaults = []) (room : Room k callerA) (hY : ∀ (w : World) (h : Heap), YP w h → (K w.params).In h) (he : e ∈ ents) (hx : e.x = d.name)
    (nd : (ents.map (·.x)).Nodup) (ok : ents.all (entOk ents gl fu) = true)
    (kn : ∀ (w : World) (mg : Str → Option Value) (h : Heap), (K w.params).In h → h.Ns mainGlobals mg → Glo (K w.params) mg gl ∧ noLists (K w.params) = true ∧ ∀ e ∈ ents, ∃ f, Known (K w.params) mg e f)
    (out : ∀ ns : List Int, ns.length ≤ n → (∀ z ∈ ns, Builtin.Int.intBits z ≤ 1048576) → ∃ h', clK ents gl fu k e.x [.r 0] [.ro (ns.map .int)] = .ok (.d (.bool true)) h') :
    PySem.W.WalkO q loose XP YP l.row.toRowW d [] (fun f vs => PySem.call f vs) := by
  refine Att.attach_callB hn hdf fun w s₀ s₁ mg mb fa o pm cd doc a vs ns G Y ho hd hcd hmg hobj hints hlen hbits hg => ?_
  have inK := hY w _ Y
  obtain ⟨glo, noL, kn⟩ := kn w mg _ inK G.T.g
  obtain ⟨f, kf⟩ := kn e he
  have ef : f = fa := by
    have := kf.mgf
    rw [hx, hmg] at this
    cases this
    rfl
  subst ef
  exact law_run inK G.T.g G.T.b G.T.builtins G.T.nolimit hg hobj hints (Nat.le_trans hlen hn2) room noL (fun base => all_fns glo nd ok kn k e he f kf) (out ns hlen hbits)
end EV

/-! EV28: the evaluator, step by step -/
namespace EV
open PySem PySem.Spec L2
section
variable {cl : Str → List Ev → Hs → R Ev} {gl : Str → Option Dt} {n : Nat} {σ : Sl} {h : Hs}
theorem ev_k {d : Dt} : ev cl gl (n + 1) (.k d) σ h = .ok (.d d) h := rfl
theorem ev_var {i : Nat} : ev cl gl (n + 1) (.var i) σ h = match σ[i]? with
  | some (some v) => .ok v h
  | _ => .bad := rfl
theorem ev_gl {x : Str} : ev cl gl (n + 1) (.gl x) σ h = match gl x with
  | some d => .ok (.d d) h
  | none => .bad := rfl
theorem ev_bin {mk : Bool} {o : O2} {a b : C} : ev cl gl (n + 1) (.bin mk o a b) σ h = (ev cl gl n a σ h).bind fun x h => (ev cl gl n b σ h).bind fun y h => lift (opB mk o x y h) := rfl
theorem ev_neg {a : C} : ev cl gl (n + 1) (.neg a) σ h = (ev cl gl n a σ h).bind fun x h => match x with
  | .d (.int i) => .ok (.d (.int (-i))) h
  | _ => .bad := rfl
theorem ev_not {a : C} : ev cl gl (n + 1) (.not a) σ h = (ev cl gl n a σ h).bind fun x h => match x with
  | .d (.bool b) => .ok (.d (.bool (!b))) h
  | _ => .bad := rfl
theorem ev_and {a b : C} : ev cl gl (n + 1) (.and a b) σ h = (ev cl gl n a σ h).bind fun x h => match x with
  | .d (.bool true) => ev cl gl n b σ h
  | .d (.bool false) => .ok (.d (.bool false)) h
  | _ => .bad := rfl
theorem ev_or {a b : C} : ev cl gl (n + 1) (.or a b) σ h = (ev cl gl n a σ h).bind fun x h => match x with
  | .d (.bool true) => .ok (.d (.bool true)) h
  | .d (.bool false) => ev cl gl n b σ h
  | _ => .bad := rfl
theorem ev_cmp {o : Cm} {a b : C} : ev cl gl (n + 1) (.cmp o a b) σ h = (ev cl gl n a σ h).bind fun x h => (ev cl gl n b σ h).bind fun y h => lift (cmpE o x y h) := rfl
theorem ev_chain {o o' : Cm} {a b c : C} : ev cl gl (n + 1) (.chain o o' a b c) σ h = chainE (ev cl gl n) o o' a b c σ h := rfl
theorem ev_ifx {q a b : C} : ev cl gl (n + 1) (.ifx q a b) σ h = (tv cl gl n q σ h).bind fun k h => match k with
  | true => ev cl gl n a σ h
  | false => ev cl gl n b σ h := rfl
theorem ev_tup {l : List C} : ev cl gl (n + 1) (.tup l) σ h = (evs (ev cl gl n) l σ h).bind fun vs h => (lift (frzs vs h)).bind fun ds h => if ds.length ≤ sizeLine then .ok (.d (.tuple ds)) h else .bad := rfl
theorem ev_lst {mk : Bool} {l : List C} : ev cl gl (n + 1) (.lst mk l) σ h = (evs (ev cl gl n) l σ h).bind fun vs h => (lift (frzs vs h)).bind fun ds h => if ds.length ≤ sizeLine then lift (newL mk ds h) else .bad := rfl
theorem ev_dict {l : List (C × C)} : ev cl gl (n + 1) (.dict l) σ h = dispE (ev cl gl n) l σ h := rfl
theorem ev_ix {a b : C} : ev cl gl (n + 1) (.ix a b) σ h = (ev cl gl n a σ h).bind fun x h => (ev cl gl n b σ h).bind fun y h => lift (ixE x y h) := rfl
theorem ev_sl {mk : Bool} {a : C} {lo hi : Option C} : ev cl gl (n + 1) (.sl mk a lo hi) σ h = (ev cl gl n a σ h).bind fun x h => (evo (ev cl gl n) lo σ h).bind fun l h => (evo (ev cl gl n) hi σ h).bind fun u h => lift (slE mk x l u h) := rfl
theorem ev_call {f : Str} {l : List C} : ev cl gl (n + 1) (.call f l) σ h = (evs (ev cl gl n) l σ h).bind fun vs h => callE cl f vs h := rfl
theorem ev_b {mk : Bool} {f : Bf} {l : List C} : ev cl gl (n + 1) (.b mk f l) σ h = (evs (ev cl gl n) l σ h).bind fun vs h => lift (bf mk f vs h) := rfl
theorem ev_m {f : Mf} {o : C} {l : List C} : ev cl gl (n + 1) (.m f o l) σ h = (ev cl gl n o σ h).bind fun x h => match mTy f x h with
  | some _ => (evs (ev cl gl n) l σ h).bind fun vs h => lift (mf f x vs h)
  | none => .bad := rfl
theorem tv_cmp {o : Cm} {a b : C} : tv cl gl (n + 1) (.cmp o a b) σ h = (ev cl gl n a σ h).bind fun x h => (ev cl gl n b σ h).bind fun y h => (lift (cmpE o x y h)).bind fun v h => match v with
  | .d (.bool k) => .ok k h
  | _ => .bad := rfl
theorem tv_and {a b : C} : tv cl gl (n + 1) (.and a b) σ h = (tv cl gl n a σ h).bind fun k h => match k with
  | true => tv cl gl n b σ h
  | false => .ok false h := rfl
theorem tv_or {a b : C} : tv cl gl (n + 1) (.or a b) σ h = (tv cl gl n a σ h).bind fun k h => match k with
  | true => .ok true h
  | false => tv cl gl n b σ h := rfl
theorem tv_not {a : C} : tv cl gl (n + 1) (.not a) σ h = (tv cl gl n a σ h).bind fun k h => .ok (!k) h := rfl
end
section
variable {α β : Type} {k : α → Hs → R β} {a : α} {h : Hs} {e : C → Sl → Hs → R Ev} {c : C} {cs : List C} {σ : Sl}
theorem bind_ok' : (R.ok a h).bind k = k a h := rfl
theorem bind_bad : (R.bad : R α).bind k = .bad := rfl
theorem lift_some : lift (some (a, h)) = .ok a h := rfl
theorem evs_nil : evs e [] σ h = .ok [] h := rfl
theorem evs_cons : evs e (c :: cs) σ h = (e c σ h).bind fun v h => (evs e cs σ h).bind fun vs h => .ok (v :: vs) h := rfl
theorem evo_none : evo e none σ h = .ok none h := rfl
theorem evo_some : evo e (some c) σ h = (e c σ h).bind fun v h => match v with
  | .d (.int i) => .ok (some i) h
  | _ => .bad := rfl
end
section
variable {ge : C → Sl → Hs → R Ev} {gt : C → Sl → Hs → R Bool} {wb n : Nat} {σ : Sl} {h : Hs} {x : S → Sl → Hs → RS}
theorem exB_nil : exB x [] σ h = .nx σ h := rfl
theorem exB_cons {s : S} {r : List S} : exB x (s :: r) σ h = (x s σ h).then (exB x r) := rfl
theorem then_nx {f : Sl → Hs → RS} : (RS.nx σ h).then f = f σ h := rfl
theorem then_rt {v : Ev} {f : Sl → Hs → RS} : (RS.rt v h).then f = .rt v h := rfl
theorem ofR_ok {α : Type} {a : α} {f : α → Hs → RS} {h' : Hs} : ofR (.ok a h') σ f = f a h' := rfl
theorem ex_nm {i : Nat} {c : C} : exN ge gt wb (n + 1) (.set (.nm i) c) σ h = ofR (ge c σ h) σ fun v h => match setE 8 (.nm i) v σ h with
  | some (σ, h) => .nx σ h
  | none => .bad := rfl
theorem ex_tp {ts : List Tg} {c : C} : exN ge gt wb (n + 1) (.set (.tp ts) c) σ h = ofR (ge c σ h) σ fun v h => match setE 8 (.tp ts) v σ h with
  | some (σ, h) => .nx σ h
  | none => .bad := rfl
theorem ex_star {ts : List Tg} {i : Nat} {c : C} : exN ge gt wb (n + 1) (.set (.star ts i) c) σ h = ofR (ge c σ h) σ fun v h => match setE 8 (.star ts i) v σ h with
  | some (σ, h) => .nx σ h
  | none => .bad := rfl
theorem ex_sub {o i c : C} : exN ge gt wb (n + 1) (.set (.sub o i) c) σ h = ofR (ge c σ h) σ fun v h => ofR (ge o σ h) σ fun o h => ofR (ge i σ h) σ fun i h => match putE v o i h with
  | some h => .nx σ h
  | none => .bad := rfl
theorem ex_par {is : List Nat} {cs : List C} : exN ge gt wb (n + 1) (.par is cs) σ h = ofR (evs ge cs σ h) σ fun vs h => match setsE is vs σ with
  | some σ => .nx σ h
  | none => .bad := rfl
theorem ex_ex {c : C} : exN ge gt wb (n + 1) (.ex c) σ h = ofR (ge c σ h) σ fun _ h => .nx σ h := rfl
theorem ex_rt {c : C} : exN ge gt wb (n + 1) (.rt c) σ h = ofR (ge c σ h) σ fun v h => .rt v h := rfl
theorem ex_iff {c : C} {a b : List S} : exN ge gt wb (n + 1) (.iff c a b) σ h = ofR (gt c σ h) σ fun k h => match k with
  | true => exB (exN ge gt wb n) a σ h
  | false => exB (exN ge gt wb n) b σ h := rfl
theorem ex_whl {c : C} {b : List S} : exN ge gt wb (n + 1) (.whl c b) σ h = whileE (gt c) (exB (exN ge gt wb n) b) wb σ h := rfl
theorem ex_forr {t : Tg} {it : It} {b : List S} : exN ge gt wb (n + 1) (.forr t it b) σ h = ofR (itE ge it σ h) σ fun p h => forE (asgD 8 t) (exB (exN ge gt wb n) b) p.2 p.1 σ h := rfl
end
theorem clK_at {ents : List Ent} {gl : Str → Option Dt} {fu : Fu} {k : Nat} {x : Str} {e : Ent} {es : List Ev} {h : Hs} (hf : (ents.find? fun d => decide (d.x = x)) = some e) (hl : es.length = e.np) :
    clK ents gl fu (k + 1) x es h = runF (ev (clK ents gl fu k) gl (fu.m + 1)) (tv (clK ents gl fu k) gl (fu.m + 1)) fu.wb fu.n e.N.length e.body es h := by
  simp only [clK, hf, if_pos hl]
/-! ### the draws that all laws make -/
def drawB : List S := [.set (.sub (.var 0) (.k (.int 3))) (.bin false .add (.ix (.var 0) (.k (.int 3))) (.k (.int 1))),
  .iff (.cmp .gt (.ix (.var 0) (.k (.int 2))) (.k (.int 0)))
   [.set (.nm 4) (.bin false .mod (.ix (.var 0) (.k (.int 2))) (.var 1)),
    .set (.sub (.var 0) (.k (.int 2))) (.bin false .div (.ix (.var 0) (.k (.int 2))) (.var 1)),
    .rt (.var 4)]
   [],
  .set (.nm 2) (.k (.int 5)),
  .iff (.cmp .ne (.ix (.var 0) (.k (.int 0))) (.lst false []))
   [.set (.nm 2) (.ix (.ix (.var 0) (.k (.int 0))) (.bin false .mod (.ix (.var 0) (.k (.int 1))) (.b false .len [.ix (.var 0) (.k (.int 0))])))]
   [],
  .set (.sub (.var 0) (.k (.int 1))) (.bin false .add (.ix (.var 0) (.k (.int 1))) (.k (.int 1))),
  .iff (.and (.cmp .ge (.var 2) (.bin false .pow (.k (.int 10)) (.k (.int 18)))) (.cmp .le (.ix (.var 0) (.k (.int 1))) (.b false .len [.ix (.var 0) (.k (.int 0))])))
   [.set (.sub (.var 0) (.k (.int 2))) (.bin false .div (.var 2) (.var 1)),
    .rt (.bin false .mod (.var 2) (.var 1))]
   [],
  .set (.nm 3) (.bin false .mod (.bin false .pow (.bin false .add (.bin false .add (.bin false .mod (.var 2) (.k (.int 2147483629))) (.bin false .mul (.k (.int 7919)) (.ix (.var 0) (.k (.int 3))))) (.k (.int 1))) (.k (.int 5))) (.k (.int 2147483647))),
  .rt (.bin false .mod (.bin false .div (.bin false .mod (.bin false .pow (.bin false .add (.var 3) (.bin false .mul (.k (.int 104729)) (.ix (.var 0) (.k (.int 3))))) (.k (.int 5))) (.k (.int 2147483587))) (.k (.int 64))) (.var 1))]
/-- the feed's cell -/
def feedC (cs : List Int) (i r c : Int) : Cell := .lst [.list (cs.map .int), .int i, .int r, .int c]
section
variable {cl : Str → List Ev → Hs → R Ev} {gl : Str → Option Dt}
theorem fd0 {cs : List Int} {i r c : Int} : ixE (.r 0) (.d (.int 0)) [feedC cs i r c] = some (.d (.list (cs.map .int)), [feedC cs i r c]) := rfl
theorem fd1 {cs : List Int} {i r c : Int} : ixE (.r 0) (.d (.int 1)) [feedC cs i r c] = some (.d (.int i), [feedC cs i r c]) := rfl
theorem fd2 {cs : List Int} {i r c : Int} : ixE (.r 0) (.d (.int 2)) [feedC cs i r c] = some (.d (.int r), [feedC cs i r c]) := rfl
theorem fd3 {cs : List Int} {i r c : Int} : ixE (.r 0) (.d (.int 3)) [feedC cs i r c] = some (.d (.int c), [feedC cs i r c]) := rfl
theorem fp1 {cs : List Int} {i r c z : Int} : putE (.d (.int z)) (.r 0) (.d (.int 1)) [feedC cs i r c] = some [feedC cs z r c] := rfl
theorem fp2 {cs : List Int} {i r c z : Int} : putE (.d (.int z)) (.r 0) (.d (.int 2)) [feedC cs i r c] = some [feedC cs i z c] := rfl
theorem fp3 {cs : List Int} {i r c z : Int} : putE (.d (.int z)) (.r 0) (.d (.int 3)) [feedC cs i r c] = some [feedC cs i r z] := rfl
end
section
variable {h : Hs} {a b : Int}
theorem o_add : opB false .add (.d (.int a)) (.d (.int b)) h = some (.d (.int (a + b)), h) := rfl
theorem o_sub : opB false .sub (.d (.int a)) (.d (.int b)) h = some (.d (.int (a - b)), h) := rfl
theorem o_mul (hz : (-(2 ^ 64) < a ∧ a < 2 ^ 64) ∨ (-(2 ^ 64) < b ∧ b < 2 ^ 64)) : opB false .mul (.d (.int a)) (.d (.int b)) h = some (.d (.int (a * b)), h) := by
  show (if _ then _ else _) = _
  rw [if_pos hz]
theorem o_div (hz : 0 < b ∧ b < 1073741824) : opB false .div (.d (.int a)) (.d (.int b)) h = some (.d (.int (a / b)), h) := by
  show (if _ then _ else _) = _
  rw [if_pos hz]
theorem o_mod (hz : 0 < b) : opB false .mod (.d (.int a)) (.d (.int b)) h = some (.d (.int (a % b)), h) := by
  show (if _ then _ else _) = _
  rw [if_pos hz]
theorem o_pow (hz : 0 ≤ b ∧ b ≤ 1000000 ∧ a.natAbs < 2 ^ 64) : opB false .pow (.d (.int a)) (.d (.int b)) h = some (.d (.int (a ^ b.toNat)), h) := by
  show (if _ then _ else _) = _
  rw [if_pos hz]
theorem o_pow5 (hz : a.natAbs < 2 ^ 64) : opB false .pow (.d (.int a)) (.d (.int 5)) h = some (.d (.int (a ^ 5)), h) := o_pow ⟨by decide, by decide, hz⟩
theorem o_1018 : opB false .pow (.d (.int 10)) (.d (.int 18)) h = some (.d (.int 1000000000000000000), h) := by
  rw [o_pow ⟨by decide, by decide, by decide⟩]
  rfl
theorem c_gt : cmpE .gt (.d (.int a)) (.d (.int b)) h = some (.d (.bool (decide (b < a))), h) := rfl
theorem c_ge : cmpE .ge (.d (.int a)) (.d (.int b)) h = some (.d (.bool (decide (b ≤ a))), h) := rfl
theorem c_lt : cmpE .lt (.d (.int a)) (.d (.int b)) h = some (.d (.bool (decide (a < b))), h) := rfl
theorem c_le : cmpE .le (.d (.int a)) (.d (.int b)) h = some (.d (.bool (decide (a ≤ b))), h) := rfl
theorem c_eqI : cmpE .eq (.d (.int a)) (.d (.int b)) h = some (.d (.bool (a == b)), h) := rfl
theorem c_neI : cmpE .ne (.d (.int a)) (.d (.int b)) h = some (.d (.bool (!(a == b))), h) := rfl
theorem c_neL {cs : List Int} : cmpE .ne (.d (.list (cs.map .int))) (.d (.list [])) h = some (Ev.d (.bool (!cs.isEmpty)), h) := by
  have e : eqD (.list (cs.map .int)) (.list []) = some cs.isEmpty := by
    have p : (PyData.list (cs.map .int)).plain = true := by simpa [PyData.plain] using plains_ints cs
    have q : (PyData.list []).plain = true := by simp [PyData.plain, PyData.plainAll]
    have d : min (PyData.list (cs.map .int)).depth (PyData.list []).depth ≤ 100 := by
      have : (PyData.list []).depth ≤ 100 := by simp [PyData.depth, PyData.depthAll]
      omega
    show (if _ then _ else _) = _
    rw [p, q, decide_eq_true d]
    cases cs with
    | nil => simp [PyData.eqv, PyData.eqvAll]
    | cons x r => simp [PyData.eqv, PyData.eqvAll]
  show ofB ((eqD (.list (cs.map .int)) (.list [])).map (!·)) h = _
  rw [e]
  rfl
theorem b_len {xs : List Dt} {mk : Bool} : bf mk .len [.d (.list xs)] h = some (.d (.int xs.length), h) := rfl
theorem ix_list {xs : List Dt} {j : Int} {d : Dt} (e : atI xs j = some d) : ixE (.d (.list xs)) (.d (.int j)) h = some (.d d, h) := by
  show (match atI xs j with
    | some d => okO (Ev.d d) h
    | none => none) = _
  rw [e]
theorem s_nm {i : Nat} {v : Ev} {σ : Sl} (hi : i < σ.length) : setE 8 (.nm i) v σ h = some (σ.set i (some v), h) := by
  show (if _ then _ else _) = _
  rw [if_pos hi]
end
theorem atI_in {α : Type} {xs : List α} {j : Int} (h0 : 0 ≤ j) (h1 : j < xs.length) : ∃ x ∈ xs, atI xs j = some x := by
  have hj : j.toNat < xs.length := by omega
  refine ⟨xs[j.toNat], List.getElem_mem hj, ?_⟩
  unfold atI ixN
  rw [if_pos h0, if_pos h1]
  simp [hj]
section
variable {cl : Str → List Ev → Hs → R Ev} {gl : Str → Option Dt}
/-- the last part: a number is mixed -/
theorem draw_mix {cs : List Int} {i r c m z : Int} {v4 : Option Ev} (hm : 0 < m) (hc : 0 ≤ c) (hc2 : c ≤ 1000000) :
    exB (exN (ev cl gl 25) (tv cl gl 25) 1000000 24) [.set (.nm 3) (.bin false .mod (.bin false .pow (.bin false .add (.bin false .add (.bin false .mod (.var 2) (.k (.int 2147483629))) (.bin false .mul (.k (.int 7919)) (.ix (.var 0) (.k (.int 3))))) (.k (.int 1))) (.k (.int 5))) (.k (.int 2147483647))),
  .rt (.bin false .mod (.bin false .div (.bin false .mod (.bin false .pow (.bin false .add (.var 3) (.bin false .mul (.k (.int 104729)) (.ix (.var 0) (.k (.int 3))))) (.k (.int 5))) (.k (.int 2147483587))) (.k (.int 64))) (.var 1))]
      [some (.r 0), some (.d (.int m)), some (.d (.int z)), none, v4] [feedC cs i r c] =
    .rt (.d (.int (((z % 2147483629 + 7919 * c + 1) ^ 5 % 2147483647 + 104729 * c) ^ 5 % 2147483587 / 64 % m))) [feedC cs i r c] := by
  have z1 : 0 ≤ z % 2147483629 := Int.emod_nonneg _ (by decide)
  have z2 : z % 2147483629 < 2147483629 := Int.emod_lt_of_pos _ (by decide)
  have w1 : 0 ≤ (z % 2147483629 + 7919 * c + 1) ^ 5 % 2147483647 := Int.emod_nonneg _ (by decide)
  have w2 : (z % 2147483629 + 7919 * c + 1) ^ 5 % 2147483647 < 2147483647 := Int.emod_lt_of_pos _ (by decide)
  have b1 : (z % 2147483629 + 7919 * c + 1).natAbs < 2 ^ 64 := by omega
  have b2 : ((z % 2147483629 + 7919 * c + 1) ^ 5 % 2147483647 + 104729 * c).natAbs < 2 ^ 64 := by omega
  simp only [exB_cons, exB_nil, ex_sub, ex_iff, ex_nm, ex_rt, ex_ex, ex_par, ex_tp, ex_star, ev_bin, ev_ix, ev_var, ev_k, ev_gl, ev_neg, ev_not, ev_and, ev_or, ev_cmp, ev_ifx, ev_tup, ev_lst, ev_dict, ev_sl, ev_call, ev_b, ev_m, tv_cmp, tv_and, tv_or, tv_not, bind_ok', lift_some, evs_nil, evs_cons, evo_none, evo_some, ofR_ok, then_nx, then_rt, s_nm, o_add, o_sub, List.map_cons, List.map_nil, List.length_cons, List.length_nil, List.replicate, List.cons_append, List.nil_append, List.getElem?_cons_zero, List.getElem?_cons_succ, List.set_cons_succ, List.set_cons_zero, Nat.reduceAdd, Nat.reduceLT, Nat.reduceSub, fd3, o_mod (a := z) (b := 2147483629) (by decide), o_mul (a := 7919) (b := c) (.inl (by decide)), o_mul (a := 104729) (b := c) (.inl (by decide)), o_pow5 b1, o_pow5 b2,
    fun {h : Hs} {a : Int} => o_mod (h := h) (a := a) (b := 2147483647) (by decide), fun {h : Hs} {a : Int} => o_mod (h := h) (a := a) (b := 2147483587) (by decide), fun {h : Hs} {a : Int} => o_div (h := h) (a := a) (b := 64) (by decide), fun {h : Hs} {a : Int} => o_mod (h := h) (a := a) (b := m) hm]
theorem draw_ev {cs : List Int} {i r c m : Int} (hm : 0 < m) (hm2 : m < 1073741824) (hi : 0 ≤ i) (hc : 0 ≤ c) (hc2 : c < 1000000) :
    ∃ j i' r', 0 ≤ j ∧ j < m ∧ 0 ≤ i' ∧ runF (ev cl gl 25) (tv cl gl 25) 1000000 24 5 drawB [.r 0, .d (.int m)] [feedC cs i r c] = .ok (.d (.int j)) [feedC cs i' r' (c + 1)] := by
  have end_ : ∀ {z i r : Int}, 0 ≤ i → ∃ j i' r', 0 ≤ j ∧ j < m ∧ 0 ≤ i' ∧ (match (RS.rt (.d (.int (((z % 2147483629 + 7919 * (c + 1) + 1) ^ 5 % 2147483647 + 104729 * (c + 1)) ^ 5 % 2147483587 / 64 % m))) [feedC cs i r (c + 1)]) with
      | .rt v h => .ok v h
      | .nx _ h => .ok (.d .none) h
      | .ex x _ h => .ex x h
      | _ => R.bad) = R.ok (Ev.d (.int j)) [feedC cs i' r' (c + 1)] := fun {z i r} hi => ⟨_, i, r, Int.emod_nonneg _ (by omega), Int.emod_lt_of_pos _ hm, hi, rfl⟩
  have dm : ∀ {h : Hs} {a : Int}, opB false .mod (.d (.int a)) (.d (.int m)) h = some (.d (.int (a % m)), h) := o_mod hm
  have dd : ∀ {h : Hs} {a : Int}, opB false .div (.d (.int a)) (.d (.int m)) h = some (.d (.int (a / m)), h) := o_div ⟨hm, hm2⟩
  unfold runF drawB
  simp only [exB_cons, exB_nil, ex_sub, ex_iff, ex_nm, ex_rt, ex_ex, ex_par, ex_tp, ex_star, ev_bin, ev_ix, ev_var, ev_k, ev_gl, ev_neg, ev_not, ev_and, ev_or, ev_cmp, ev_ifx, ev_tup, ev_lst, ev_dict, ev_sl, ev_call, ev_b, ev_m, tv_cmp, tv_and, tv_or, tv_not, bind_ok', lift_some, evs_nil, evs_cons, evo_none, evo_some, ofR_ok, then_nx, then_rt, s_nm, o_add, o_sub, List.map_cons, List.map_nil, List.length_cons, List.length_nil, List.replicate, List.cons_append, List.nil_append, List.getElem?_cons_zero, List.getElem?_cons_succ, List.set_cons_succ, List.set_cons_zero, Nat.reduceAdd, Nat.reduceLT, Nat.reduceSub, fd0, fd1, fd2, fd3, fp1, fp2, fp3, dm, dd, c_gt]
  by_cases hr : 0 < r
  · simp only [exB_cons, exB_nil, ex_sub, ex_iff, ex_nm, ex_rt, ex_ex, ex_par, ex_tp, ex_star, ev_bin, ev_ix, ev_var, ev_k, ev_gl, ev_neg, ev_not, ev_and, ev_or, ev_cmp, ev_ifx, ev_tup, ev_lst, ev_dict, ev_sl, ev_call, ev_b, ev_m, tv_cmp, tv_and, tv_or, tv_not, bind_ok', lift_some, evs_nil, evs_cons, evo_none, evo_some, ofR_ok, then_nx, then_rt, s_nm, o_add, o_sub, List.map_cons, List.map_nil, List.length_cons, List.length_nil, List.replicate, List.cons_append, List.nil_append, List.getElem?_cons_zero, List.getElem?_cons_succ, List.set_cons_succ, List.set_cons_zero, Nat.reduceAdd, Nat.reduceLT, Nat.reduceSub, decide_eq_true hr, fd0, fd1, fd2, fd3, fp1, fp2, fp3, dm, dd]
    exact ⟨r % m, i, r / m, Int.emod_nonneg _ (by omega), Int.emod_lt_of_pos _ hm, hi, rfl⟩
  · simp only [ex_sub, ex_iff, ex_nm, ex_rt, ex_ex, ex_par, ex_tp, ex_star, ev_bin, ev_ix, ev_var, ev_k, ev_gl, ev_neg, ev_not, ev_and, ev_or, ev_cmp, ev_ifx, ev_tup, ev_lst, ev_dict, ev_sl, ev_call, ev_b, ev_m, tv_cmp, tv_and, tv_or, tv_not, bind_ok', lift_some, evs_nil, evs_cons, evo_none, evo_some, ofR_ok, then_nx, then_rt, s_nm, o_add, o_sub, List.map_cons, List.map_nil, List.length_cons, List.length_nil, List.replicate, List.cons_append, List.nil_append, List.getElem?_cons_zero, List.getElem?_cons_succ, List.set_cons_succ, List.set_cons_zero, Nat.reduceAdd, Nat.reduceLT, Nat.reduceSub, exB_nil, decide_eq_false hr]
    rw [exB_cons]
    simp only [ex_sub, ex_iff, ex_nm, ex_rt, ex_ex, ex_par, ex_tp, ex_star, ev_bin, ev_ix, ev_var, ev_k, ev_gl, ev_neg, ev_not, ev_and, ev_or, ev_cmp, ev_ifx, ev_tup, ev_lst, ev_dict, ev_sl, ev_call, ev_b, ev_m, tv_cmp, tv_and, tv_or, tv_not, bind_ok', lift_some, evs_nil, evs_cons, evo_none, evo_some, ofR_ok, then_nx, then_rt, s_nm, o_add, o_sub, List.map_cons, List.map_nil, List.length_cons, List.length_nil, List.replicate, List.cons_append, List.nil_append, List.getElem?_cons_zero, List.getElem?_cons_succ, List.set_cons_succ, List.set_cons_zero, Nat.reduceAdd, Nat.reduceLT, Nat.reduceSub]
    rw [exB_cons]
    simp only [ex_sub, ex_iff, ex_nm, ex_rt, ex_ex, ex_par, ex_tp, ex_star, ev_bin, ev_ix, ev_var, ev_k, ev_gl, ev_neg, ev_not, ev_and, ev_or, ev_cmp, ev_ifx, ev_tup, ev_lst, ev_dict, ev_sl, ev_call, ev_b, ev_m, tv_cmp, tv_and, tv_or, tv_not, bind_ok', lift_some, evs_nil, evs_cons, evo_none, evo_some, ofR_ok, then_nx, then_rt, s_nm, o_add, o_sub, List.map_cons, List.map_nil, List.length_cons, List.length_nil, List.replicate, List.cons_append, List.nil_append, List.getElem?_cons_zero, List.getElem?_cons_succ, List.set_cons_succ, List.set_cons_zero, Nat.reduceAdd, Nat.reduceLT, Nat.reduceSub, fd0, frzs, Option.bind_some, Nat.zero_le, if_true, newL, c_neL]
    -- behind the cell's choice
    have tail : ∀ {z i : Int}, 0 ≤ i → ∃ j i' r', 0 ≤ j ∧ j < m ∧ 0 ≤ i' ∧ (match (exB (exN (ev cl gl 25) (tv cl gl 25) 1000000 24) (drawB.drop 4) [some (.r 0), some (.d (.int m)), some (.d (.int z)), none, none] [feedC cs i r (c + 1)]) with
        | .rt v h => .ok v h
        | .nx _ h => .ok (.d .none) h
        | .ex x _ h => .ex x h
        | _ => R.bad) = R.ok (Ev.d (.int j)) [feedC cs i' r' (c + 1)] := fun {z i} hi => by
      unfold drawB
      simp only [List.drop_succ_cons, List.drop_zero]
      rw [exB_cons]
      simp only [ex_sub, ex_iff, ex_nm, ex_rt, ex_ex, ex_par, ex_tp, ex_star, ev_bin, ev_ix, ev_var, ev_k, ev_gl, ev_neg, ev_not, ev_and, ev_or, ev_cmp, ev_ifx, ev_tup, ev_lst, ev_dict, ev_sl, ev_call, ev_b, ev_m, tv_cmp, tv_and, tv_or, tv_not, bind_ok', lift_some, evs_nil, evs_cons, evo_none, evo_some, ofR_ok, then_nx, then_rt, s_nm, o_add, o_sub, List.map_cons, List.map_nil, List.length_cons, List.length_nil, List.replicate, List.cons_append, List.nil_append, List.getElem?_cons_zero, List.getElem?_cons_succ, List.set_cons_succ, List.set_cons_zero, Nat.reduceAdd, Nat.reduceLT, Nat.reduceSub, fd0, fd1, fd2, fd3, fp1, fp2, fp3]
      rw [exB_cons]
      simp only [ex_sub, ex_iff, ex_nm, ex_rt, ex_ex, ex_par, ex_tp, ex_star, ev_bin, ev_ix, ev_var, ev_k, ev_gl, ev_neg, ev_not, ev_and, ev_or, ev_cmp, ev_ifx, ev_tup, ev_lst, ev_dict, ev_sl, ev_call, ev_b, ev_m, tv_cmp, tv_and, tv_or, tv_not, bind_ok', lift_some, evs_nil, evs_cons, evo_none, evo_some, ofR_ok, then_nx, then_rt, s_nm, o_add, o_sub, List.map_cons, List.map_nil, List.length_cons, List.length_nil, List.replicate, List.cons_append, List.nil_append, List.getElem?_cons_zero, List.getElem?_cons_succ, List.set_cons_succ, List.set_cons_zero, Nat.reduceAdd, Nat.reduceLT, Nat.reduceSub, fd0, fd1, fd2, fd3, fp1, fp2, fp3, dm, dd, o_1018, c_ge, b_len, c_le]
      by_cases h1 : (1000000000000000000 : Int) ≤ z
      · simp only [decide_eq_true h1]
        by_cases h2 : i + 1 ≤ (((cs.map PyData.int).length : Nat) : Int)
        · simp only [exB_cons, exB_nil, ex_sub, ex_iff, ex_nm, ex_rt, ex_ex, ex_par, ex_tp, ex_star, ev_bin, ev_ix, ev_var, ev_k, ev_gl, ev_neg, ev_not, ev_and, ev_or, ev_cmp, ev_ifx, ev_tup, ev_lst, ev_dict, ev_sl, ev_call, ev_b, ev_m, tv_cmp, tv_and, tv_or, tv_not, bind_ok', lift_some, evs_nil, evs_cons, evo_none, evo_some, ofR_ok, then_nx, then_rt, s_nm, o_add, o_sub, List.map_cons, List.map_nil, List.length_cons, List.length_nil, List.replicate, List.cons_append, List.nil_append, List.getElem?_cons_zero, List.getElem?_cons_succ, List.set_cons_succ, List.set_cons_zero, Nat.reduceAdd, Nat.reduceLT, Nat.reduceSub, decide_eq_true h2, fp2, dm, dd]
          exact ⟨z % m, i + 1, z / m, Int.emod_nonneg _ (by omega), Int.emod_lt_of_pos _ hm, by omega, rfl⟩
        · simp only [decide_eq_false h2, exB_nil, ofR_ok, then_nx]
          rw [draw_mix hm (by omega) (by omega)]
          exact end_ (by omega)
      · simp only [decide_eq_false h1, exB_nil, ofR_ok, then_nx]
        rw [draw_mix hm (by omega) (by omega)]
        exact end_ (by omega)
    cases hcs : cs.isEmpty with
    | true =>
      simp only [Bool.not_true, bind_ok', ofR_ok, then_nx, exB_nil]
      exact tail (z := 5) hi
    | false =>
      have hl : 0 < (((cs.map PyData.int).length : Nat) : Int) := by
        cases cs with
        | nil => cases hcs
        | cons x r => simp
      obtain ⟨d, hd, e⟩ := atI_in (xs := cs.map PyData.int) (j := i % (((cs.map PyData.int).length : Nat) : Int)) (Int.emod_nonneg _ (by omega)) (Int.emod_lt_of_pos _ hl)
      obtain ⟨z, _, rfl⟩ := List.mem_map.mp hd
      simp only [Bool.not_false, bind_ok', ofR_ok]
      rw [exB_cons]
      simp only [ex_sub, ex_iff, ex_nm, ex_rt, ex_ex, ex_par, ex_tp, ex_star, ev_bin, ev_ix, ev_var, ev_k, ev_gl, ev_neg, ev_not, ev_and, ev_or, ev_cmp, ev_ifx, ev_tup, ev_lst, ev_dict, ev_sl, ev_call, ev_b, ev_m, tv_cmp, tv_and, tv_or, tv_not, bind_ok', lift_some, evs_nil, evs_cons, evo_none, evo_some, ofR_ok, then_nx, then_rt, s_nm, o_add, o_sub, List.map_cons, List.map_nil, List.length_cons, List.length_nil, List.replicate, List.cons_append, List.nil_append, List.getElem?_cons_zero, List.getElem?_cons_succ, List.set_cons_succ, List.set_cons_zero, Nat.reduceAdd, Nat.reduceLT, Nat.reduceSub, exB_nil, fd0, fd1, b_len, fun {h : Hs} {a : Int} => o_mod (h := h) (a := a) (b := (((cs.map PyData.int).length : Nat) : Int)) hl, fun {h : Hs} => ix_list (h := h) e]
      exact tail (z := z) hi
end
end EV

namespace K04
open PySem PySem.Spec L2 EV
def tx (i : Nat) : Stmt := PySem.Challenge.pw_surfacetwists_k04_told_pieces.main.body.getD i (.Pass ⟨0, 0, 0, 0⟩)
/-- begun_with -/
def bd0 : List S := [.set (.nm 2) (.m .index (.var 0) [.var 1]),
  .rt (.bin false .add (.sl false (.var 0) (some (.var 2)) none) (.sl false (.var 0) none (some (.var 2))))]
def en0 : Ent := ⟨"begun_with", tx 1, ["triple", "side", "at"], 2, bd0⟩
/-- told_piece -/
def bd1 : List S := [.rt (.b false .tuple [.b false .sorted [.lc false (.call "begun_with" [.var 1, .b false .min [.var 1]]) (.nm 1) (.val (.var 0)) none [1]]])]
def en1 : Ent := ⟨"told_piece", tx 2, ["triples", "triple"], 1, bd1⟩
/-- many_edges -/
def bd2 : List S := [.rt (.bin false .div (.bin false .mul (.b false .len [.var 0]) (.k (.int 3))) (.k (.int 2)))]
def en2 : Ent := ⟨"many_edges", tx 3, ["piece"], 1, bd2⟩
/-- room_sides -/
def bd3 : List S := [.rt (.lc2 false (.bin false .add (.bin false .mul (.k (.int 4)) (.var 1)) (.var 2)) (.nm 1) (.rng [.var 0]) none (.nm 2) (.val (.tup [.k (.int 0), .k (.int 2), .k (.int 1), .k (.int 3)])) none [1, 2] [2])]
def en3 : Ent := ⟨"room_sides", tx 6, ["handles", "h", "more"], 1, bd3⟩
/-- room_piece -/
def bd4 : List S := [.par [3, 4] [.call "room_sides" [.var 0], .bin false .mul (.k (.int 4)) (.var 0)],
  .set (.nm 1) (.lst true [.tup [.ix (.var 3) (.k (.int 0)), .ix (.var 3) (.k (.int 1)), .var 4]]),
  .forr (.nm 2) (.rng [.bin false .sub (.bin false .mul (.k (.int 4)) (.var 0)) (.k (.int 4))])
   [.ex (.m .append (.var 1) [.tup [.bin false .add (.bin false .add (.var 4) (.bin false .mul (.k (.int 2)) (.var 2))) (.k (.int 1)), .ix (.var 3) (.bin false .add (.var 2) (.k (.int 2))), .bin false .add (.bin false .add (.var 4) (.bin false .mul (.k (.int 2)) (.var 2))) (.k (.int 2))]])],
  .ex (.m .append (.var 1) [.tup [.bin false .sub (.bin false .mul (.k (.int 12)) (.var 0)) (.k (.int 7)), .ix (.var 3) (.neg (.k (.int 2))), .ix (.var 3) (.neg (.k (.int 1)))]]),
  .rt (.call "told_piece" [.var 1])]
def en4 : Ent := ⟨"room_piece", tx 7, ["handles", "triples", "j", "sides", "first"], 1, bd4⟩
/-- with_puncture -/
def bd5 : List S := [.set (.star [.tp [.nm 2, .nm 3, .nm 4]] 5) (.var 0),
  .set (.nm 1) (.bin false .mul (.k (.int 2)) (.call "many_edges" [.var 0])),
  .rt (.call "told_piece" [.bin false .add (.lst false [.tup [.var 2, .bin false .add (.var 1) (.k (.int 4)), .bin false .add (.var 1) (.k (.int 3))], .tup [.var 3, .var 1, .bin false .add (.var 1) (.k (.int 5))], .tup [.var 4, .bin false .add (.var 1) (.k (.int 2)), .bin false .add (.var 1) (.k (.int 1))]]) (.var 5)])]
def en5 : Ent := ⟨"with_puncture", tx 8, ["piece", "n", "a", "b", "c", "others"], 1, bd5⟩
/-- piece_of -/
def bd6 : List S := [.set (.tp [.nm 2, .nm 3]) (.ifx (.cmp .eq (.var 0) (.k (.int 0))) (.tup [.gl "BALL", .k (.int 3)]) (.tup [.call "room_piece" [.var 0], .k (.int 1)])),
  .whl (.cmp .lt (.var 3) (.var 1))
   [.par [2, 3] [.call "with_puncture" [.var 2], .bin false .add (.var 3) (.k (.int 1))]],
  .rt (.var 2)]
def en6 : Ent := ⟨"piece_of", tx 9, ["handles", "punctures", "piece", "there"], 2, bd6⟩
/-- _law_feed -/
def bd7 : List S := [.rt (.lst true [.sl false (.var 0) none (some (.k (.int 63))), .k (.int 0), .k (.int 0), .k (.int 0)])]
def en7 : Ent := ⟨"_law_feed", tx 12, ["_law_script"], 1, bd7⟩
/-- _law_draw -/
def bd8 : List S := [.set (.sub (.var 0) (.k (.int 3))) (.bin false .add (.ix (.var 0) (.k (.int 3))) (.k (.int 1))),
  .iff (.cmp .gt (.ix (.var 0) (.k (.int 2))) (.k (.int 0)))
   [.set (.nm 4) (.bin false .mod (.ix (.var 0) (.k (.int 2))) (.var 1)),
    .set (.sub (.var 0) (.k (.int 2))) (.bin false .div (.ix (.var 0) (.k (.int 2))) (.var 1)),
    .rt (.var 4)]
   [],
  .set (.nm 2) (.k (.int 5)),
  .iff (.cmp .ne (.ix (.var 0) (.k (.int 0))) (.lst false []))
   [.set (.nm 2) (.ix (.ix (.var 0) (.k (.int 0))) (.bin false .mod (.ix (.var 0) (.k (.int 1))) (.b false .len [.ix (.var 0) (.k (.int 0))])))]
   [],
  .set (.sub (.var 0) (.k (.int 1))) (.bin false .add (.ix (.var 0) (.k (.int 1))) (.k (.int 1))),
  .iff (.and (.cmp .ge (.var 2) (.bin false .pow (.k (.int 10)) (.k (.int 18)))) (.cmp .le (.ix (.var 0) (.k (.int 1))) (.b false .len [.ix (.var 0) (.k (.int 0))])))
   [.set (.sub (.var 0) (.k (.int 2))) (.bin false .div (.var 2) (.var 1)),
    .rt (.bin false .mod (.var 2) (.var 1))]
   [],
  .set (.nm 3) (.bin false .mod (.bin false .pow (.bin false .add (.bin false .add (.bin false .mod (.var 2) (.k (.int 2147483629))) (.bin false .mul (.k (.int 7919)) (.ix (.var 0) (.k (.int 3))))) (.k (.int 1))) (.k (.int 5))) (.k (.int 2147483647))),
  .rt (.bin false .mod (.bin false .div (.bin false .mod (.bin false .pow (.bin false .add (.var 3) (.bin false .mul (.k (.int 104729)) (.ix (.var 0) (.k (.int 3))))) (.k (.int 5))) (.k (.int 2147483587))) (.k (.int 64))) (.var 1))]
def en8 : Ent := ⟨"_law_draw", tx 13, ["_law_feed_here", "_law_many", "_law_cell", "_law_mixed", "_law_found"], 2, bd8⟩
/-- _law_made -/
def bd9 : List S := [.par [2, 3] [.lst true [], .dict []],
  .forr (.nm 1) (.val (.b false .sorted [.var 0]))
   [.iff (.cmp .notin (.var 1) (.var 3))
     [.set (.nm 4) (.ix (.var 0) (.var 1)),
      .ex (.m .append (.var 2) [.tup [.var 1, .var 4, .ix (.var 0) (.var 4)]]),
      .ex (.upd (.var 3) [(.var 1, .k (.bool true)), (.var 4, .k (.bool true)), (.ix (.var 0) (.var 4), .k (.bool true))])]
     []],
  .rt (.b false .tuple [.var 2])]
def en9 : Ent := ⟨"_law_made", tx 14, ["_law_follow", "_law_a", "_law_found", "_law_seen", "_law_b"], 1, bd9⟩
/-- _law_standard -/
def bd10 : List S := [.par [2, 3] [.dict [(.k (.int 0), .k (.int 2)), (.k (.int 2), .k (.int 4)), (.k (.int 4), .k (.int 0)), (.k (.int 1), .k (.int 5)), (.k (.int 5), .k (.int 3)), (.k (.int 3), .k (.int 1))], .k (.int 3)],
  .iff (.cmp .gt (.var 0) (.k (.int 0)))
   [.set (.nm 4) (.lst true []),
    .forr (.nm 5) (.rng [.var 0])
     [.ex (.m .extend (.var 4) [.lst false [.bin false .mul (.k (.int 4)) (.var 5), .bin false .add (.bin false .mul (.k (.int 4)) (.var 5)) (.k (.int 2)), .bin false .add (.bin false .mul (.k (.int 4)) (.var 5)) (.k (.int 1)), .bin false .add (.bin false .mul (.k (.int 4)) (.var 5)) (.k (.int 3))]])],
    .par [10, 3, 2] [.bin false .mul (.k (.int 4)) (.var 0), .k (.int 1), .dict []],
    .set (.nm 6) (.lst true [.tup [.ix (.var 4) (.k (.int 0)), .ix (.var 4) (.k (.int 1)), .var 10]]),
    .forr (.nm 7) (.rng [.bin false .sub (.var 10) (.k (.int 4))])
     [.ex (.m .append (.var 6) [.tup [.bin false .add (.bin false .add (.var 10) (.bin false .mul (.k (.int 2)) (.var 7))) (.k (.int 1)), .ix (.var 4) (.bin false .add (.var 7) (.k (.int 2))), .bin false .add (.bin false .add (.var 10) (.bin false .mul (.k (.int 2)) (.var 7))) (.k (.int 2))]])],
    .ex (.m .append (.var 6) [.tup [.bin false .sub (.bin false .mul (.k (.int 3)) (.var 10)) (.k (.int 7)), .ix (.var 4) (.bin false .sub (.var 10) (.k (.int 2))), .ix (.var 4) (.bin false .sub (.var 10) (.k (.int 1)))]]),
    .forr (.tp [.nm 11, .nm 8, .nm 9]) (.val (.var 6))
     [.ex (.upd (.var 2) [(.var 11, .var 8), (.var 8, .var 9), (.var 9, .var 11)])]]
   [],
  .whl (.cmp .lt (.var 3) (.var 1))
   [.par [11, 12] [.k (.int 0), .bin false .div (.b false .len [.var 2]) (.k (.int 2))],
    .set (.nm 8) (.ix (.var 2) (.var 11)),
    .set (.nm 9) (.ix (.var 2) (.var 8)),
    .forr (.tp [.nm 13, .nm 14, .nm 15]) (.val (.tup [.tup [.var 11, .bin false .add (.bin false .mul (.k (.int 2)) (.var 12)) (.k (.int 4)), .bin false .add (.bin false .mul (.k (.int 2)) (.var 12)) (.k (.int 3))], .tup [.var 8, .bin false .mul (.k (.int 2)) (.var 12), .bin false .add (.bin false .mul (.k (.int 2)) (.var 12)) (.k (.int 5))], .tup [.var 9, .bin false .add (.bin false .mul (.k (.int 2)) (.var 12)) (.k (.int 2)), .bin false .add (.bin false .mul (.k (.int 2)) (.var 12)) (.k (.int 1))]]))
     [.ex (.upd (.var 2) [(.var 13, .var 14), (.var 14, .var 15), (.var 15, .var 13)])],
    .set (.nm 3) (.bin false .add (.var 3) (.k (.int 1)))],
  .rt (.call "_law_made" [.var 2])]
def en10 : Ent := ⟨"_law_standard", tx 15, ["_law_handles", "_law_many", "_law_follow", "_law_have", "_law_room", "_law_h", "_law_lots", "_law_j", "_law_b", "_law_c", "_law_last", "_law_a", "_law_n", "_law_one", "_law_other", "_law_third"], 2, bd10⟩
/-- law -/
def bd11 : List S := [.set (.nm 1) (.call "_law_feed" [.var 0]),
  .set (.nm 2) (.lst false [.tup [.k (.int 0), .k (.int 3)], .tup [.k (.int 0), .k (.int 4)], .tup [.k (.int 0), .k (.int 5)], .tup [.k (.int 0), .k (.int 6)], .tup [.k (.int 1), .k (.int 1)], .tup [.k (.int 1), .k (.int 2)], .tup [.k (.int 1), .k (.int 3)], .tup [.k (.int 1), .k (.int 4)], .tup [.k (.int 2), .k (.int 1)], .tup [.k (.int 2), .k (.int 2)]]),
  .set (.nm 3) (.call "_law_draw" [.var 1, .k (.int 10)]),
  .forr (.tp [.nm 6, .nm 7]) (.val (.bin false .add (.sl false (.var 2) (some (.var 3)) none) (.var 2)))
   [.iff (.cmp .ne (.b false .repr [.call "piece_of" [.var 6, .var 7]]) (.b false .repr [.call "_law_standard" [.var 6, .var 7]]))
     [.rt (.k (.bool false))]
     []],
  .set (.nm 4) (.tup [.tup [.k (.int 0), .k (.int 10), .k (.int 9)], .tup [.k (.int 1), .k (.int 5), .k (.int 3)], .tup [.k (.int 2), .k (.int 6), .k (.int 11)], .tup [.k (.int 4), .k (.int 8), .k (.int 7)]]),
  .set (.nm 5) (.tup [.tup [.k (.int 0), .k (.int 2), .k (.int 8)], .tup [.k (.int 1), .k (.int 10), .k (.int 9)], .tup [.k (.int 3), .k (.int 12), .k (.int 11)], .tup [.k (.int 4), .k (.int 14), .k (.int 13)], .tup [.k (.int 5), .k (.int 7), .k (.int 17)], .tup [.k (.int 6), .k (.int 16), .k (.int 15)]]),
  .rt (.cmp .eq (.b false .repr [.lst false [.call "piece_of" [.k (.int 0), .k (.int 4)], .call "piece_of" [.k (.int 1), .k (.int 1)], .call "piece_of" [.k (.int 2), .k (.int 1)]]]) (.b false .repr [.lst false [.var 4, .gl "LEAST", .var 5]]))]
def en11 : Ent := ⟨"law", tx 16, ["_law_script", "_law_feed_here", "_law_lots", "_law_first", "_law_ball", "_law_two", "_law_handles", "_law_many"], 1, bd11⟩
def ents : List Ent := [en0, en1, en2, en3, en4, en5, en6, en7, en8, en9, en10, en11]
def glo (x : Str) : Option Dt := if x = "BALL" then some (.tuple [.tuple [.int 0, .int 2, .int 4], .tuple [.int 1, .int 5, .int 3]]) else if x = "LEAST" then some (.tuple [.tuple [.int 0, .int 2, .int 4], .tuple [.int 1, .int 3, .int 5]]) else none
def fu : Fu := ⟨24, 24, 1000000⟩
theorem nd : (ents.map (·.x)).Nodup := by decide +kernel
theorem chk : ents.all (entOk ents glo fu) = true := by decide +kernel
end K04

namespace K04
open PySem PySem.Spec L2 EV
def feedB : List S := [.rt (.lst true [.sl false (.var 0) none (some (.k (.int 63))), .k (.int 0), .k (.int 0), .k (.int 0)])]
theorem cut63 (xs : List Dt) : cutD xs none (some 63) = xs.take 63 := by
  unfold cutD
  rw [show HT.sIx xs.length 0 none = 0 from HT.sIx_none _ _, show HT.sIx xs.length xs.length (some 63) = min 63 xs.length from HT.sIx_nat xs.length xs.length 63, List.drop_zero, Nat.sub_zero]
  by_cases h : 63 ≤ xs.length
  · rw [Nat.min_eq_left h]
  · rw [Nat.min_eq_right (by omega), List.take_length, List.take_of_length_le (by omega)]
theorem feed_ev {cl : Str → List Ev → Hs → R Ev} {gl : Str → Option Dt} {ns : List Int} : runF (ev cl gl 25) (tv cl gl 25) 1000000 24 1 feedB [.r 0] [.ro (ns.map .int)] = .ok (.r 1) [.ro (ns.map .int), feedC (ns.take 63) 0 0 0] := by
  have e : slE false (.r 0) none (some 63) [.ro (ns.map .int)] = some (.d (.list ((ns.take 63).map .int)), [.ro (ns.map .int)]) := by
    show newL false (cutD (ns.map .int) none (some 63)) _ = _
    rw [cut63, List.map_take]
    rfl
  unfold runF feedB
  simp only [exB_cons, exB_nil, ex_sub, ex_iff, ex_nm, ex_rt, ex_ex, ex_par, ex_tp, ex_star, ev_bin, ev_ix, ev_var, ev_k, ev_gl, ev_neg, ev_not, ev_and, ev_or, ev_cmp, ev_ifx, ev_tup, ev_lst, ev_dict, ev_sl, ev_call, ev_b, ev_m, tv_cmp, tv_and, tv_or, tv_not, bind_ok', lift_some, evs_nil, evs_cons, evo_none, evo_some, ofR_ok, then_nx, then_rt, s_nm, o_add, o_sub, List.map_cons, List.map_nil, List.length_cons, List.length_nil, List.replicate, List.cons_append, List.nil_append, List.getElem?_cons_zero, List.getElem?_cons_succ, List.set_cons_succ, List.set_cons_zero, Nat.reduceAdd, Nat.reduceLT, Nat.reduceSub, e, frzs, frz, Option.bind_some, newL, show (4 : Nat) ≤ sizeLine from by decide, if_true]
  rfl
theorem at_law : (ents.find? fun d => decide (d.x = ("law" : Str))) = some en11 := by kernel_rfl
theorem at_feed : (ents.find? fun d => decide (d.x = ("_law_feed" : Str))) = some en7 := by kernel_rfl
theorem at_draw : (ents.find? fun d => decide (d.x = ("_law_draw" : Str))) = some en8 := by kernel_rfl
def lotsL : List Dt := [.tuple [.int 0, .int 3], .tuple [.int 0, .int 4], .tuple [.int 0, .int 5], .tuple [.int 0, .int 6], .tuple [.int 1, .int 1], .tuple [.int 1, .int 2], .tuple [.int 1, .int 3], .tuple [.int 1, .int 4], .tuple [.int 2, .int 1], .tuple [.int 2, .int 2]]
abbrev Ge := ev (clK ents glo fu 11) glo 25
abbrev Gt := tv (clK ents glo fu 11) glo 25
abbrev X (n : Nat) := exN Ge Gt 1000000 n
def sl (j : Int) (a b : Option Ev) : Sl := [some (.r 0), some (.r 1), some (.d (.list lotsL)), some (.d (.int j)), none, none, a, b]
def bodyL : List S := [.iff (.cmp .ne (.b false .repr [.call "piece_of" [.var 6, .var 7]]) (.b false .repr [.call "_law_standard" [.var 6, .var 7]]))
     [.rt (.k (.bool false))]
     []]
theorem g03 (j : Int) (h : Hs) : exB (X 23) bodyL (sl j (some (.d (.int 0))) (some (.d (.int 3)))) h = .nx (sl j (some (.d (.int 0))) (some (.d (.int 3)))) h := by kernel_rfl
theorem g04 (j : Int) (h : Hs) : exB (X 23) bodyL (sl j (some (.d (.int 0))) (some (.d (.int 4)))) h = .nx (sl j (some (.d (.int 0))) (some (.d (.int 4)))) h := by kernel_rfl
theorem g05 (j : Int) (h : Hs) : exB (X 23) bodyL (sl j (some (.d (.int 0))) (some (.d (.int 5)))) h = .nx (sl j (some (.d (.int 0))) (some (.d (.int 5)))) h := by kernel_rfl
theorem g06 (j : Int) (h : Hs) : exB (X 23) bodyL (sl j (some (.d (.int 0))) (some (.d (.int 6)))) h = .nx (sl j (some (.d (.int 0))) (some (.d (.int 6)))) h := by kernel_rfl
theorem g11 (j : Int) (h : Hs) : exB (X 23) bodyL (sl j (some (.d (.int 1))) (some (.d (.int 1)))) h = .nx (sl j (some (.d (.int 1))) (some (.d (.int 1)))) h := by kernel_rfl
theorem g12 (j : Int) (h : Hs) : exB (X 23) bodyL (sl j (some (.d (.int 1))) (some (.d (.int 2)))) h = .nx (sl j (some (.d (.int 1))) (some (.d (.int 2)))) h := by kernel_rfl
theorem g13 (j : Int) (h : Hs) : exB (X 23) bodyL (sl j (some (.d (.int 1))) (some (.d (.int 3)))) h = .nx (sl j (some (.d (.int 1))) (some (.d (.int 3)))) h := by kernel_rfl
theorem g14 (j : Int) (h : Hs) : exB (X 23) bodyL (sl j (some (.d (.int 1))) (some (.d (.int 4)))) h = .nx (sl j (some (.d (.int 1))) (some (.d (.int 4)))) h := by kernel_rfl
theorem g21 (j : Int) (h : Hs) : exB (X 23) bodyL (sl j (some (.d (.int 2))) (some (.d (.int 1)))) h = .nx (sl j (some (.d (.int 2))) (some (.d (.int 1)))) h := by kernel_rfl
theorem g22 (j : Int) (h : Hs) : exB (X 23) bodyL (sl j (some (.d (.int 2))) (some (.d (.int 2)))) h = .nx (sl j (some (.d (.int 2))) (some (.d (.int 2)))) h := by kernel_rfl
end K04

namespace K04
open PySem PySem.Spec L2 EV
theorem one_turn {d : Dt} (hd : d ∈ lotsL) (j : Int) (a b : Option Ev) (h : Hs) : ∃ a' b', asgD 8 (.tp [.nm 6, .nm 7]) d (sl j a b) = some (sl j a' b') ∧ exB (X 23) bodyL (sl j a' b') h = .nx (sl j a' b') h := by
  simp only [lotsL, List.mem_cons, List.not_mem_nil, or_false] at hd
  rcases hd with rfl | rfl | rfl | rfl | rfl | rfl | rfl | rfl | rfl | rfl
  · exact ⟨_, _, rfl, g03 j h⟩
  · exact ⟨_, _, rfl, g04 j h⟩
  · exact ⟨_, _, rfl, g05 j h⟩
  · exact ⟨_, _, rfl, g06 j h⟩
  · exact ⟨_, _, rfl, g11 j h⟩
  · exact ⟨_, _, rfl, g12 j h⟩
  · exact ⟨_, _, rfl, g13 j h⟩
  · exact ⟨_, _, rfl, g14 j h⟩
  · exact ⟨_, _, rfl, g21 j h⟩
  · exact ⟨_, _, rfl, g22 j h⟩
theorem turns : ∀ (items : List Dt), (∀ d ∈ items, d ∈ lotsL) → ∀ (j : Int) (a b : Option Ev) (h : Hs), ∃ a' b', forE (asgD 8 (.tp [.nm 6, .nm 7])) (exB (X 23) bodyL) .no items (sl j a b) h = .nx (sl j a' b') h
  | [], _, j, a, b, h => ⟨a, b, rfl⟩
  | d :: r, hd, j, a, b, h => by
    obtain ⟨a1, b1, e1, e2⟩ := one_turn (hd d List.mem_cons_self) j a b h
    obtain ⟨a2, b2, e3⟩ := turns r (fun d' h' => hd d' (List.mem_cons_of_mem _ h')) j a1 b1 h
    refine ⟨a2, b2, ?_⟩
    simp only [forE, guOk, if_true, e1, e2]
    exact e3
theorem items0 {j : Int} (h0 : 0 ≤ j) (h1 : j < 10) (a b : Option Ev) (h : Hs) : ∃ items, (∀ d ∈ items, d ∈ lotsL) ∧ itE Ge (.val (.bin false .add (.sl false (.var 2) (some (.var 3)) none) (.var 2))) (sl j a b) h = .ok (items, .no) h := by
  refine ⟨lotsL.drop j.toNat ++ lotsL, fun d hd => ?_, ?_⟩
  · rcases List.mem_append.mp hd with z | z
    · exact List.mem_of_mem_drop z
    · exact z
  · have e : j = ((j.toNat : Nat) : Int) := by omega
    have hl : j.toNat < 10 := by omega
    rw [e]
    generalize j.toNat = n at hl
    have cases10 : n = 0 ∨ n = 1 ∨ n = 2 ∨ n = 3 ∨ n = 4 ∨ n = 5 ∨ n = 6 ∨ n = 7 ∨ n = 8 ∨ n = 9 := by omega
    rcases cases10 with rfl | rfl | rfl | rfl | rfl | rfl | rfl | rfl | rfl | rfl <;> kernel_rfl
theorem last (j : Int) (a b : Option Ev) (h : Hs) : exB (X 24) (bd11.drop 4) (sl j a b) h = .rt (.d (.bool true)) h := by kernel_rfl
theorem out (ns : List Int) : ∃ h', clK ents glo fu 12 "law" [.r 0] [.ro (ns.map .int)] = .ok (.d (.bool true)) h' := by
  have feed : clK ents glo fu 11 "_law_feed" [.r 0] [.ro (ns.map .int)] = .ok (.r 1) [.ro (ns.map .int), feedC (ns.take 63) 0 0 0] := (clK_at at_feed rfl).trans feed_ev
  obtain ⟨j, i', r', h0, h1, _, dr⟩ := draw_ev (cl := clK ents glo fu 10) (gl := glo) (cs := ns.take 63) (i := 0) (r := 0) (c := 0) (m := 10) (by decide) (by decide) (by decide) (by decide) (by decide)
  have draw : clK ents glo fu 11 "_law_draw" [.r 0, .d (.int 10)] [feedC (ns.take 63) 0 0 0] = .ok (.d (.int j)) [feedC (ns.take 63) i' r' (0 + 1)] := (clK_at at_draw rfl).trans dr
  have c1 : callE (clK ents glo fu 11) "_law_feed" [.r 0] [.ro (ns.map .int)] = .ok (.r 1) [.ro (ns.map .int), feedC (ns.take 63) 0 0 0] := by
    have e : callE (clK ents glo fu 11) "_law_feed" [.r 0] [.ro (ns.map .int)] = (match clK ents glo fu 11 "_law_feed" [.r 0] [.ro (ns.map .int)] with
      | .ok (.d x) cs' => .ok (.d x) (puts [0] cs' [.ro (ns.map .int)])
      | .ok (.r j) cs' => match [0][j]? with
        | some n => .ok (.r n) (puts [0] cs' [.ro (ns.map .int)])
        | none => match cs'[j]? with
          | some c => .ok (.r 1) (puts [0] cs' [.ro (ns.map .int)] ++ [c])
          | none => .bad
      | .ex x cs' => .ex x (puts [0] cs' [.ro (ns.map .int)])
      | .bad => .bad) := rfl
    rw [e, feed]
    rfl
  have c2 : callE (clK ents glo fu 11) "_law_draw" [.r 1, .d (.int 10)] [.ro (ns.map .int), feedC (ns.take 63) 0 0 0] = .ok (.d (.int j)) [.ro (ns.map .int), feedC (ns.take 63) i' r' (0 + 1)] := by
    have e : callE (clK ents glo fu 11) "_law_draw" [.r 1, .d (.int 10)] [.ro (ns.map .int), feedC (ns.take 63) 0 0 0] = (match clK ents glo fu 11 "_law_draw" [.r 0, .d (.int 10)] [feedC (ns.take 63) 0 0 0] with
      | .ok (.d x) cs' => .ok (.d x) (puts [1] cs' [.ro (ns.map .int), feedC (ns.take 63) 0 0 0])
      | .ok (.r j) cs' => match [1][j]? with
        | some n => .ok (.r n) (puts [1] cs' [.ro (ns.map .int), feedC (ns.take 63) 0 0 0])
        | none => match cs'[j]? with
          | some c => .ok (.r 2) (puts [1] cs' [.ro (ns.map .int), feedC (ns.take 63) 0 0 0] ++ [c])
          | none => .bad
      | .ex x cs' => .ex x (puts [1] cs' [.ro (ns.map .int), feedC (ns.take 63) 0 0 0])
      | .bad => .bad) := rfl
    rw [e, draw]
    rfl
  rw [clK_at at_law rfl]
  show ∃ h', (match exB (X 24) bd11 [some (.r 0), none, none, none, none, none, none, none] [.ro (ns.map .int)] with
    | .rt v h => .ok v h
    | .nx _ h => .ok (.d .none) h
    | .ex x _ h => .ex x h
    | _ => R.bad) = R.ok (Ev.d (.bool true)) h'
  have s1 : exB (X 24) bd11 [some (.r 0), none, none, none, none, none, none, none] [.ro (ns.map .int)] = exB (X 24) (bd11.drop 3) (sl j none none) [.ro (ns.map .int), feedC (ns.take 63) i' r' (0 + 1)] := by
    show exB (X 24) (.set (.nm 1) (.call "_law_feed" [.var 0]) :: .set (.nm 2) (.lst false [.tup [.k (.int 0), .k (.int 3)], .tup [.k (.int 0), .k (.int 4)], .tup [.k (.int 0), .k (.int 5)], .tup [.k (.int 0), .k (.int 6)], .tup [.k (.int 1), .k (.int 1)], .tup [.k (.int 1), .k (.int 2)], .tup [.k (.int 1), .k (.int 3)], .tup [.k (.int 1), .k (.int 4)], .tup [.k (.int 2), .k (.int 1)], .tup [.k (.int 2), .k (.int 2)]]) ::
      .set (.nm 3) (.call "_law_draw" [.var 1, .k (.int 10)]) :: bd11.drop 3) _ _ = _
    rw [exB_cons]
    simp only [ex_sub, ex_iff, ex_nm, ex_rt, ex_ex, ex_par, ex_tp, ex_star, ev_bin, ev_ix, ev_var, ev_k, ev_gl, ev_neg, ev_not, ev_and, ev_or, ev_cmp, ev_ifx, ev_tup, ev_lst, ev_dict, ev_sl, ev_call, ev_b, ev_m, tv_cmp, tv_and, tv_or, tv_not, bind_ok', lift_some, evs_nil, evs_cons, evo_none, evo_some, ofR_ok, then_nx, then_rt, s_nm, o_add, o_sub, List.map_cons, List.map_nil, List.length_cons, List.length_nil, List.replicate, List.cons_append, List.nil_append, List.getElem?_cons_zero, List.getElem?_cons_succ, List.set_cons_succ, List.set_cons_zero, Nat.reduceAdd, Nat.reduceLT, Nat.reduceSub, c1]
    rw [exB_cons]
    have e2 : X 24 (.set (.nm 2) (.lst false [.tup [.k (.int 0), .k (.int 3)], .tup [.k (.int 0), .k (.int 4)], .tup [.k (.int 0), .k (.int 5)], .tup [.k (.int 0), .k (.int 6)], .tup [.k (.int 1), .k (.int 1)], .tup [.k (.int 1), .k (.int 2)], .tup [.k (.int 1), .k (.int 3)], .tup [.k (.int 1), .k (.int 4)], .tup [.k (.int 2), .k (.int 1)], .tup [.k (.int 2), .k (.int 2)]])) [some (.r 0), some (.r 1), none, none, none, none, none, none] [.ro (ns.map .int), feedC (ns.take 63) 0 0 0] =
      .nx [some (.r 0), some (.r 1), some (.d (.list lotsL)), none, none, none, none, none] [.ro (ns.map .int), feedC (ns.take 63) 0 0 0] := by kernel_rfl
    rw [show X 24 = exN Ge Gt 1000000 24 from rfl] at e2 ⊢
    rw [e2, then_nx, exB_cons]
    simp only [ex_sub, ex_iff, ex_nm, ex_rt, ex_ex, ex_par, ex_tp, ex_star, ev_bin, ev_ix, ev_var, ev_k, ev_gl, ev_neg, ev_not, ev_and, ev_or, ev_cmp, ev_ifx, ev_tup, ev_lst, ev_dict, ev_sl, ev_call, ev_b, ev_m, tv_cmp, tv_and, tv_or, tv_not, bind_ok', lift_some, evs_nil, evs_cons, evo_none, evo_some, ofR_ok, then_nx, then_rt, s_nm, o_add, o_sub, List.map_cons, List.map_nil, List.length_cons, List.length_nil, List.replicate, List.cons_append, List.nil_append, List.getElem?_cons_zero, List.getElem?_cons_succ, List.set_cons_succ, List.set_cons_zero, Nat.reduceAdd, Nat.reduceLT, Nat.reduceSub, c2]
    rfl
  obtain ⟨items, hit, ei⟩ := items0 h0 h1 none none [.ro (ns.map .int), feedC (ns.take 63) i' r' (0 + 1)]
  obtain ⟨a, b, et⟩ := turns items hit j none none [.ro (ns.map .int), feedC (ns.take 63) i' r' (0 + 1)]
  have s2 : exB (X 24) (bd11.drop 3) (sl j none none) [.ro (ns.map .int), feedC (ns.take 63) i' r' (0 + 1)] = exB (X 24) (bd11.drop 4) (sl j a b) [.ro (ns.map .int), feedC (ns.take 63) i' r' (0 + 1)] := by
    show exB (X 24) (.forr (.tp [.nm 6, .nm 7]) (.val (.bin false .add (.sl false (.var 2) (some (.var 3)) none) (.var 2))) bodyL :: bd11.drop 4) _ _ = _
    rw [exB_cons]
    show (ofR (itE Ge (.val (.bin false .add (.sl false (.var 2) (some (.var 3)) none) (.var 2))) (sl j none none) _) (sl j none none) fun p h => forE (asgD 8 (.tp [.nm 6, .nm 7])) (exB (X 23) bodyL) p.2 p.1 (sl j none none) h).then (exB (X 24) (bd11.drop 4)) = _
    rw [ei, ofR_ok]
    show (forE (asgD 8 (.tp [.nm 6, .nm 7])) (exB (X 23) bodyL) .no items (sl j none none) _).then _ = _
    rw [et, then_nx]
  rw [s1, s2, last]
  exact ⟨_, rfl⟩
end K04

namespace K04
open PySem PySem.Spec L2 EV
theorem known {K : PySem.W.Frag} {h : Heap} {mg : Str → Option Value} (X : K.In h) (G : h.Ns mainGlobals mg) (noL : noLists K = true)
    {od0 an0 : Option Addr} {sl0 : Array (Option Value)} {oc0 kV0 dc0 pm0 cd0 ct0 : Value} {f0 : Addr}
    (a0 : PySem.W.nsIn K mainGlobals "begun_with" = some (some (.ref f0))) (l0 : K.lookup f0 = some ⟨oc0, od0, .func (PySem.W.fnOf "begun_with" "begun_with" (C8.fnArgs (tx 1)) (C8.fnBody (tx 1)) (C8.fnScope (tx 1)) .none kV0 dc0 pm0 an0 cd0 ct0), sl0⟩)
    (c0 : PySem.W.codeIn K cd0 "begun_with" = true) (k0 : PySem.W.keepIn K (.ref f0) = true)
    {od1 an1 : Option Addr} {sl1 : Array (Option Value)} {oc1 kV1 dc1 pm1 cd1 ct1 : Value} {f1 : Addr}
    (a1 : PySem.W.nsIn K mainGlobals "told_piece" = some (some (.ref f1))) (l1 : K.lookup f1 = some ⟨oc1, od1, .func (PySem.W.fnOf "told_piece" "told_piece" (C8.fnArgs (tx 2)) (C8.fnBody (tx 2)) (C8.fnScope (tx 2)) .none kV1 dc1 pm1 an1 cd1 ct1), sl1⟩)
    (c1 : PySem.W.codeIn K cd1 "told_piece" = true) (k1 : PySem.W.keepIn K (.ref f1) = true)
    {od2 an2 : Option Addr} {sl2 : Array (Option Value)} {oc2 kV2 dc2 pm2 cd2 ct2 : Value} {f2 : Addr}
    (a2 : PySem.W.nsIn K mainGlobals "many_edges" = some (some (.ref f2))) (l2 : K.lookup f2 = some ⟨oc2, od2, .func (PySem.W.fnOf "many_edges" "many_edges" (C8.fnArgs (tx 3)) (C8.fnBody (tx 3)) (C8.fnScope (tx 3)) .none kV2 dc2 pm2 an2 cd2 ct2), sl2⟩)
    (c2 : PySem.W.codeIn K cd2 "many_edges" = true) (k2 : PySem.W.keepIn K (.ref f2) = true)
    {od3 an3 : Option Addr} {sl3 : Array (Option Value)} {oc3 kV3 dc3 pm3 cd3 ct3 : Value} {f3 : Addr}
    (a3 : PySem.W.nsIn K mainGlobals "room_sides" = some (some (.ref f3))) (l3 : K.lookup f3 = some ⟨oc3, od3, .func (PySem.W.fnOf "room_sides" "room_sides" (C8.fnArgs (tx 6)) (C8.fnBody (tx 6)) (C8.fnScope (tx 6)) .none kV3 dc3 pm3 an3 cd3 ct3), sl3⟩)
    (c3 : PySem.W.codeIn K cd3 "room_sides" = true) (k3 : PySem.W.keepIn K (.ref f3) = true)
    {od4 an4 : Option Addr} {sl4 : Array (Option Value)} {oc4 kV4 dc4 pm4 cd4 ct4 : Value} {f4 : Addr}
    (a4 : PySem.W.nsIn K mainGlobals "room_piece" = some (some (.ref f4))) (l4 : K.lookup f4 = some ⟨oc4, od4, .func (PySem.W.fnOf "room_piece" "room_piece" (C8.fnArgs (tx 7)) (C8.fnBody (tx 7)) (C8.fnScope (tx 7)) .none kV4 dc4 pm4 an4 cd4 ct4), sl4⟩)
    (c4 : PySem.W.codeIn K cd4 "room_piece" = true) (k4 : PySem.W.keepIn K (.ref f4) = true)
    {od5 an5 : Option Addr} {sl5 : Array (Option Value)} {oc5 kV5 dc5 pm5 cd5 ct5 : Value} {f5 : Addr}
    (a5 : PySem.W.nsIn K mainGlobals "with_puncture" = some (some (.ref f5))) (l5 : K.lookup f5 = some ⟨oc5, od5, .func (PySem.W.fnOf "with_puncture" "with_puncture" (C8.fnArgs (tx 8)) (C8.fnBody (tx 8)) (C8.fnScope (tx 8)) .none kV5 dc5 pm5 an5 cd5 ct5), sl5⟩)
    (c5 : PySem.W.codeIn K cd5 "with_puncture" = true) (k5 : PySem.W.keepIn K (.ref f5) = true)
    {od6 an6 : Option Addr} {sl6 : Array (Option Value)} {oc6 kV6 dc6 pm6 cd6 ct6 : Value} {f6 : Addr}
    (a6 : PySem.W.nsIn K mainGlobals "piece_of" = some (some (.ref f6))) (l6 : K.lookup f6 = some ⟨oc6, od6, .func (PySem.W.fnOf "piece_of" "piece_of" (C8.fnArgs (tx 9)) (C8.fnBody (tx 9)) (C8.fnScope (tx 9)) .none kV6 dc6 pm6 an6 cd6 ct6), sl6⟩)
    (c6 : PySem.W.codeIn K cd6 "piece_of" = true) (k6 : PySem.W.keepIn K (.ref f6) = true)
    {od7 an7 : Option Addr} {sl7 : Array (Option Value)} {oc7 kV7 dc7 pm7 cd7 ct7 : Value} {f7 : Addr}
    (a7 : PySem.W.nsIn K mainGlobals "_law_feed" = some (some (.ref f7))) (l7 : K.lookup f7 = some ⟨oc7, od7, .func (PySem.W.fnOf "_law_feed" "_law_feed" (C8.fnArgs (tx 12)) (C8.fnBody (tx 12)) (C8.fnScope (tx 12)) .none kV7 dc7 pm7 an7 cd7 ct7), sl7⟩)
    (c7 : PySem.W.codeIn K cd7 "_law_feed" = true) (k7 : PySem.W.keepIn K (.ref f7) = true)
    {od8 an8 : Option Addr} {sl8 : Array (Option Value)} {oc8 kV8 dc8 pm8 cd8 ct8 : Value} {f8 : Addr}
    (a8 : PySem.W.nsIn K mainGlobals "_law_draw" = some (some (.ref f8))) (l8 : K.lookup f8 = some ⟨oc8, od8, .func (PySem.W.fnOf "_law_draw" "_law_draw" (C8.fnArgs (tx 13)) (C8.fnBody (tx 13)) (C8.fnScope (tx 13)) .none kV8 dc8 pm8 an8 cd8 ct8), sl8⟩)
    (c8 : PySem.W.codeIn K cd8 "_law_draw" = true) (k8 : PySem.W.keepIn K (.ref f8) = true)
    {od9 an9 : Option Addr} {sl9 : Array (Option Value)} {oc9 kV9 dc9 pm9 cd9 ct9 : Value} {f9 : Addr}
    (a9 : PySem.W.nsIn K mainGlobals "_law_made" = some (some (.ref f9))) (l9 : K.lookup f9 = some ⟨oc9, od9, .func (PySem.W.fnOf "_law_made" "_law_made" (C8.fnArgs (tx 14)) (C8.fnBody (tx 14)) (C8.fnScope (tx 14)) .none kV9 dc9 pm9 an9 cd9 ct9), sl9⟩)
    (c9 : PySem.W.codeIn K cd9 "_law_made" = true) (k9 : PySem.W.keepIn K (.ref f9) = true)
    {od10 an10 : Option Addr} {sl10 : Array (Option Value)} {oc10 kV10 dc10 pm10 cd10 ct10 : Value} {f10 : Addr}
    (a10 : PySem.W.nsIn K mainGlobals "_law_standard" = some (some (.ref f10))) (l10 : K.lookup f10 = some ⟨oc10, od10, .func (PySem.W.fnOf "_law_standard" "_law_standard" (C8.fnArgs (tx 15)) (C8.fnBody (tx 15)) (C8.fnScope (tx 15)) .none kV10 dc10 pm10 an10 cd10 ct10), sl10⟩)
    (c10 : PySem.W.codeIn K cd10 "_law_standard" = true) (k10 : PySem.W.keepIn K (.ref f10) = true)
    {od11 an11 : Option Addr} {sl11 : Array (Option Value)} {oc11 kV11 dc11 pm11 cd11 ct11 : Value} {f11 : Addr}
    (a11 : PySem.W.nsIn K mainGlobals "law" = some (some (.ref f11))) (l11 : K.lookup f11 = some ⟨oc11, od11, .func (PySem.W.fnOf "law" "law" (C8.fnArgs (tx 16)) (C8.fnBody (tx 16)) (C8.fnScope (tx 16)) .none kV11 dc11 pm11 an11 cd11 ct11), sl11⟩)
    (c11 : PySem.W.codeIn K cd11 "law" = true) (k11 : PySem.W.keepIn K (.ref f11) = true)
    (z0 : PySem.W.nsIn K mainGlobals "len" = some none)
    (z1 : PySem.W.nsIn K mainGlobals "tuple" = some none)
    (z2 : PySem.W.nsIn K mainGlobals "list" = some none)
    (z3 : PySem.W.nsIn K mainGlobals "sorted" = some none)
    (z4 : PySem.W.nsIn K mainGlobals "repr" = some none)
    (z5 : PySem.W.nsIn K mainGlobals "min" = some none)
    (z6 : PySem.W.nsIn K mainGlobals "max" = some none)
    (z7 : PySem.W.nsIn K mainGlobals "sum" = some none)
    (z8 : PySem.W.nsIn K mainGlobals "all" = some none)
    (z9 : PySem.W.nsIn K mainGlobals "any" = some none)
    (z10 : PySem.W.nsIn K mainGlobals "abs" = some none)
    (z11 : PySem.W.nsIn K mainGlobals "range" = some none)
    (z12 : PySem.W.nsIn K mainGlobals "enumerate" = some none)
    (z13 : PySem.W.nsIn K mainGlobals "zip" = some none)
    (z14 : PySem.W.nsIn K mainGlobals "reversed" = some none)
    {u0 : Value} (kon0 : PySem.W.nsIn K mainGlobals "BALL" = some (some u0)) (kor0 : rdK K 8 u0 (.tuple [.tuple [.int 0, .int 2, .int 4], .tuple [.int 1, .int 5, .int 3]]) = true)
    {u1 : Value} (kon1 : PySem.W.nsIn K mainGlobals "LEAST" = some (some u1)) (kor1 : rdK K 8 u1 (.tuple [.tuple [.int 0, .int 2, .int 4], .tuple [.int 1, .int 3, .int 5]]) = true) :
    Glo K mg glo ∧ noLists K = true ∧ ∀ e ∈ ents, ∃ f, Known K mg e f := by
  refine ⟨⟨fun x d hd => ?_, fun x hx => ?_⟩, noL, fun e he => ?_⟩
  · unfold glo at hd
    by_cases h0 : x = "BALL"
    · rw [if_pos h0] at hd; cases hd; subst h0
      obtain ⟨v, e1, e2⟩ := rdK_ok 8 _ _ kor0
      exact ⟨by decide +kernel, _, v, PySem.W.mg_of X G kon0, e1, e2⟩
    rw [if_neg h0] at hd
    by_cases h1 : x = "LEAST"
    · rw [if_pos h1] at hd; cases hd; subst h1
      obtain ⟨v, e1, e2⟩ := rdK_ok 8 _ _ kor1
      exact ⟨by decide +kernel, _, v, PySem.W.mg_of X G kon1, e1, e2⟩
    rw [if_neg h1] at hd
    cases hd
  · simp only [blts, List.mem_cons, List.not_mem_nil, or_false] at hx
    rcases hx with rfl | rfl | rfl | rfl | rfl | rfl | rfl | rfl | rfl | rfl | rfl | rfl | rfl | rfl | rfl
    · exact PySem.W.mg_none_of X G z0
    · exact PySem.W.mg_none_of X G z1
    · exact PySem.W.mg_none_of X G z2
    · exact PySem.W.mg_none_of X G z3
    · exact PySem.W.mg_none_of X G z4
    · exact PySem.W.mg_none_of X G z5
    · exact PySem.W.mg_none_of X G z6
    · exact PySem.W.mg_none_of X G z7
    · exact PySem.W.mg_none_of X G z8
    · exact PySem.W.mg_none_of X G z9
    · exact PySem.W.mg_none_of X G z10
    · exact PySem.W.mg_none_of X G z11
    · exact PySem.W.mg_none_of X G z12
    · exact PySem.W.mg_none_of X G z13
    · exact PySem.W.mg_none_of X G z14
  · simp only [ents, List.mem_cons, List.not_mem_nil, or_false] at he
    rcases he with rfl | rfl | rfl | rfl | rfl | rfl | rfl | rfl | rfl | rfl | rfl | rfl
    · exact ⟨_, PySem.W.mg_of X G a0, k0, _, _, _, _, _, _, _, _, _, _, l0, c0, fun us hl => match us, hl with | [_, _], _ => rfl⟩
    · exact ⟨_, PySem.W.mg_of X G a1, k1, _, _, _, _, _, _, _, _, _, _, l1, c1, fun us hl => match us, hl with | [_], _ => rfl⟩
    · exact ⟨_, PySem.W.mg_of X G a2, k2, _, _, _, _, _, _, _, _, _, _, l2, c2, fun us hl => match us, hl with | [_], _ => rfl⟩
    · exact ⟨_, PySem.W.mg_of X G a3, k3, _, _, _, _, _, _, _, _, _, _, l3, c3, fun us hl => match us, hl with | [_], _ => rfl⟩
    · exact ⟨_, PySem.W.mg_of X G a4, k4, _, _, _, _, _, _, _, _, _, _, l4, c4, fun us hl => match us, hl with | [_], _ => rfl⟩
    · exact ⟨_, PySem.W.mg_of X G a5, k5, _, _, _, _, _, _, _, _, _, _, l5, c5, fun us hl => match us, hl with | [_], _ => rfl⟩
    · exact ⟨_, PySem.W.mg_of X G a6, k6, _, _, _, _, _, _, _, _, _, _, l6, c6, fun us hl => match us, hl with | [_, _], _ => rfl⟩
    · exact ⟨_, PySem.W.mg_of X G a7, k7, _, _, _, _, _, _, _, _, _, _, l7, c7, fun us hl => match us, hl with | [_], _ => rfl⟩
    · exact ⟨_, PySem.W.mg_of X G a8, k8, _, _, _, _, _, _, _, _, _, _, l8, c8, fun us hl => match us, hl with | [_, _], _ => rfl⟩
    · exact ⟨_, PySem.W.mg_of X G a9, k9, _, _, _, _, _, _, _, _, _, _, l9, c9, fun us hl => match us, hl with | [_], _ => rfl⟩
    · exact ⟨_, PySem.W.mg_of X G a10, k10, _, _, _, _, _, _, _, _, _, _, l10, c10, fun us hl => match us, hl with | [_, _], _ => rfl⟩
    · exact ⟨_, PySem.W.mg_of X G a11, k11, _, _, _, _, _, _, _, _, _, _, l11, c11, fun us hl => match us, hl with | [_], _ => rfl⟩
end K04
open PySem PySem.W PyProof.Rows
set_option maxRecDepth 100000 in
set_option maxHeartbeats 0 in
theorem PySem.Challenge.cw_surfacetwists_k04_told_pieces_holds : PySem.Challenge.rw_surfacetwists_k04_told_pieces.Holds := by
  w_on; o_law; k_head; (case hw => w_witness2)
  k_fill
  refine EV.walk_ev (l := PySem.Challenge.rw_surfacetwists_k04_told_pieces) (n := 63) (k := 12) (ents := K04.ents) (gl := K04.glo) (fu := K04.fu) (e := K04.en11) rfl (by decide) rfl ⟨rfl, by decide, by decide⟩ (fun w h Y => PySem.W.kIn_of Y) (by simp [K04.ents]) rfl K04.nd K04.chk ?F (fun ns hl hb => K04.out ns)
  case F =>
    intro w mg h KX G
    refine' K04.known KX G ?noL ?a0 ?l0 ?c0 ?k0 ?a1 ?l1 ?c1 ?k1 ?a2 ?l2 ?c2 ?k2 ?a3 ?l3 ?c3 ?k3 ?a4 ?l4 ?c4 ?k4 ?a5 ?l5 ?c5 ?k5 ?a6 ?l6 ?c6 ?k6 ?a7 ?l7 ?c7 ?k7 ?a8 ?l8 ?c8 ?k8 ?a9 ?l9 ?c9 ?k9 ?a10 ?l10 ?c10 ?k10 ?a11 ?l11 ?c11 ?k11 ?z0 ?z1 ?z2 ?z3 ?z4 ?z5 ?z6 ?z7 ?z8 ?z9 ?z10 ?z11 ?z12 ?z13 ?z14 ?kon0 ?kor0 ?kon1 ?kor1
    (case noL => kernel_rfl)
    (case a0 => k_is)
    (case l0 => k_is)
    (case c0 => k_is)
    (case k0 => k_is)
    (case a1 => k_is)
    (case l1 => k_is)
    (case c1 => k_is)
    (case k1 => k_is)
    (case a2 => k_is)
    (case l2 => k_is)
    (case c2 => k_is)
    (case k2 => k_is)
    (case a3 => k_is)
    (case l3 => k_is)
    (case c3 => k_is)
    (case k3 => k_is)
    (case a4 => k_is)
    (case l4 => k_is)
    (case c4 => k_is)
    (case k4 => k_is)
    (case a5 => k_is)
    (case l5 => k_is)
    (case c5 => k_is)
    (case k5 => k_is)
    (case a6 => k_is)
    (case l6 => k_is)
    (case c6 => k_is)
    (case k6 => k_is)
    (case a7 => k_is)
    (case l7 => k_is)
    (case c7 => k_is)
    (case k7 => k_is)
    (case a8 => k_is)
    (case l8 => k_is)
    (case c8 => k_is)
    (case k8 => k_is)
    (case a9 => k_is)
    (case l9 => k_is)
    (case c9 => k_is)
    (case k9 => k_is)
    (case a10 => k_is)
    (case l10 => k_is)
    (case c10 => k_is)
    (case k10 => k_is)
    (case a11 => k_is)
    (case l11 => k_is)
    (case c11 => k_is)
    (case k11 => k_is)
    (case z0 => k_is)
    (case z1 => k_is)
    (case z2 => k_is)
    (case z3 => k_is)
    (case z4 => k_is)
    (case z5 => k_is)
    (case z6 => k_is)
    (case z7 => k_is)
    (case z8 => k_is)
    (case z9 => k_is)
    (case z10 => k_is)
    (case z11 => k_is)
    (case z12 => k_is)
    (case z13 => k_is)
    (case z14 => k_is)
    (case kon0 => k_is)
    (case kor0 => kernel_rfl)
    (case kon1 => k_is)
    (case kor1 => kernel_rfl)


