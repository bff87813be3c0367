import PyProof.Rows.All
import Wide.All
import OpenK.AllK
import Wide.FinOn
import HandS.EndTab
import HandS.ForMost
import HandS.ForExc
import HandS.Wide
import HandS.IsInst
import HandS.Deep
import HandS.SortInts
import HandS.TupAny
import HandS.Lambda
import HandS.Small
import HandS.Style
import HandS.ExcIs
import HandS.TupLe
import HandS.TupMul
import HandS.Conv
import HandS.SortRule
import HandS.ExcField
import HandS.SetFor
import KE.GoesEnum
import KE.KDflt
import KE.KDictDisplayH
import HandS.TupSets
import KE.SortData
import HandS.ExcInit
import HandS.Nested
import KE.KExcSuper
import HandS.Strs
import HandS.Iter
import HandS.Text
import HandS.DictComp
import KE.SortKeyHeap
import HandS.SortKw
import PySem.Challenge.RW_threemoods_k16_whole_other_webs
set_option Elab.async false
set_option linter.all false
set_option maxHeartbeats 4000000
set_option maxRecDepth 100000
set_option autoImplicit true
namespace MP
open PySem PySem.Spec PyProof.Rows L2
abbrev D := PyData
def keyD : Key → D
  | .inl i => .int i
  | .inr x => .str x
mutual
def Rp (K : PySem.W.Frag) (G : Hp) : D → V → Prop
  | .none, v => v = .non
  | .bool b, v => v = .bl b
  | .int i, v => v = .int i
  | .str x, v => v = .str x
  | .list ds, v => ∃ a xs, v = .ref a ∧ G a = some (.lst xs) ∧ RpL K G ds xs
  | .tuple ds, v => ∃ a xs, v = .ref a ∧ G a = some (.tup xs) ∧ RpL K G ds xs
  | .dict kvs, v => ∃ a, v = .ref a ∧ ((∃ es, G a = some (.dK es) ∧ RpK K G kvs es) ∨ (∃ es, G a = some (.dT es) ∧ RpT K G kvs es) ∨ (∃ ns : List Int, kvs = [(.none, .list (ns.map PyData.int))] ∧ SqL K G a (ns.map V.int)) ∨ ∃ (ns : List Int) (o : Obj), kvs = [(.none, .tuple (ns.map PyData.int))] ∧ G a = some (.frz o (.tup (ns.map V.int))) ∧ o.dict = none)
def RpL (K : PySem.W.Frag) (G : Hp) : List D → List V → Prop
  | [], vs => vs = []
  | d :: ds, vs => ∃ v r, vs = v :: r ∧ Rp K G d v ∧ RpL K G ds r
def RpK (K : PySem.W.Frag) (G : Hp) : List (D × D) → List (Key × V) → Prop
  | [], es => es = []
  | (k, d) :: ds, es => ∃ x v r, es = (x, v) :: r ∧ k = keyD x ∧ Rp K G d v ∧ RpK K G ds r
def RpT (K : PySem.W.Frag) (G : Hp) : List (D × D) → List (List Key × V) → Prop
  | [], es => es = []
  | (k, d) :: ds, es => ∃ xs v r, es = (xs, v) :: r ∧ k = .tuple (xs.map keyD) ∧ Rp K G d v ∧ RpT K G ds r
end
def isD : HO → Bool
  | .dK es => !es.isEmpty
  | .dT es => !es.isEmpty
  | _ => false
/-- what G tells, H tells; a dict may be locked -/
def Sub (G H : Hp) : Prop := (∀ a u, G a = some u → H a = some u ∨ (isD u = true ∧ ∃ o, H a = some (.frz o u))) ∧ ∀ a ps, G a ≠ some (.tbl ps)
theorem NoT.upd {G : Hp} {p : Addr} {o : HO} (n : ∀ a ps, G a ≠ some (.tbl ps)) (h : ∀ ps, o ≠ .tbl ps) : ∀ a ps, L2.upd G p o a ≠ some (.tbl ps) := fun a ps e => by
  by_cases z : a = p
  · rw [z, upd_same] at e
    exact h ps (Option.some.inj e)
  · rw [upd_ne z] at e
    exact n a ps e
def GLe (G G' : Hp) : Prop := ∀ a u, G a = some u → G' a = some u
theorem GLe.refl (G : Hp) : GLe G G := fun _ _ h => h
theorem GLe.trans {G H J : Hp} (a : GLe G H) (b : GLe H J) : GLe G J := fun x u h => b x u (a x u h)
theorem Sub.rd {G H : Hp} (s : Sub G H) {a : Addr} {u : HO} (h : G a = some u) : Rd H a u := by
  rcases s.1 a u h with h | ⟨_, o, h⟩
  · exact .inl h
  · exact .inr ⟨o, h⟩
theorem Sub.lst {G H : Hp} (s : Sub G H) {a : Addr} {xs : List V} (h : G a = some (.lst xs)) : H a = some (.lst xs) := by
  rcases s.1 a _ h with h | ⟨z, _⟩
  · exact h
  · cases z
theorem Sub.tup {G H : Hp} (s : Sub G H) {a : Addr} {xs : List V} (h : G a = some (.tup xs)) : H a = some (.tup xs) := by
  rcases s.1 a _ h with h | ⟨z, _⟩
  · exact h
  · cases z
theorem Sub.frz {G H : Hp} (s : Sub G H) {a : Addr} {o : Obj} {u : HO} (h : G a = some (.frz o u)) : H a = some (.frz o u) := by
  rcases s.1 a _ h with h | ⟨z, _⟩
  · exact h
  · cases z
theorem GLe.upd {G : Hp} {p : Addr} {o : HO} (h : G p = none) : GLe G (upd G p o) := fun a u e => by
  rw [upd_ne (ne_of_none e h)]
  exact e
theorem Sub.sqL {K : PySem.W.Frag} {G H : Hp} {a : Addr} {xs : List V} (s : Sub G H) (h : SqL K G a xs) : SqL K H a xs := by
  rcases h with (h | ⟨o, h⟩) | h
  · exact .inl (.inl (s.lst h))
  · exact .inl (.inr ⟨o, s.frz h⟩)
  · exact .inr h
theorem GLe.sqL {K : PySem.W.Frag} {G H : Hp} {a : Addr} {xs : List V} (s : GLe G H) (h : SqL K G a xs) : SqL K H a xs := by
  rcases h with (h | ⟨o, h⟩) | h
  · exact .inl (.inl (s _ _ h))
  · exact .inl (.inr ⟨o, s _ _ h⟩)
  · exact .inr h
mutual
theorem Rp.mono {K : PySem.W.Frag} {G H : Hp} (s : GLe G H) : ∀ (d : D) (v : V), Rp K G d v → Rp K H d v
  | .none, _, h => h
  | .bool _, _, h => h
  | .int _, _, h => h
  | .str _, _, h => h
  | .list ds, v, h => by
    obtain ⟨a, xs, e, q, r⟩ := h
    exact ⟨a, xs, e, s _ _ q, RpL.mono s ds xs r⟩
  | .tuple ds, v, h => by
    obtain ⟨a, xs, e, q, r⟩ := h
    exact ⟨a, xs, e, s _ _ q, RpL.mono s ds xs r⟩
  | .dict kvs, v, h => by
    obtain ⟨a, e, ⟨es, q, r⟩ | ⟨es, q, r⟩ | ⟨ns, q, r⟩ | ⟨ns, o, q, r, z⟩⟩ := h
    · exact ⟨a, e, .inl ⟨es, s _ _ q, RpK.mono s kvs es r⟩⟩
    · exact ⟨a, e, .inr (.inl ⟨es, s _ _ q, RpT.mono s kvs es r⟩)⟩
    · exact ⟨a, e, .inr (.inr (.inl ⟨ns, q, s.sqL r⟩))⟩
    · exact ⟨a, e, .inr (.inr (.inr ⟨ns, o, q, s _ _ r, z⟩))⟩
theorem RpL.mono {K : PySem.W.Frag} {G H : Hp} (s : GLe G H) : ∀ (ds : List D) (vs : List V), RpL K G ds vs → RpL K H ds vs
  | [], _, h => h
  | d :: ds, _, ⟨v, r, e, h, t⟩ => ⟨v, r, e, Rp.mono s d v h, RpL.mono s ds r t⟩
theorem RpK.mono {K : PySem.W.Frag} {G H : Hp} (s : GLe G H) : ∀ (ds : List (D × D)) (vs : List (Key × V)), RpK K G ds vs → RpK K H ds vs
  | [], _, h => h
  | (_, d) :: ds, _, ⟨x, v, r, e, k, h, t⟩ => ⟨x, v, r, e, k, Rp.mono s d v h, RpK.mono s ds r t⟩
theorem RpT.mono {K : PySem.W.Frag} {G H : Hp} (s : GLe G H) : ∀ (ds : List (D × D)) (vs : List (List Key × V)), RpT K G ds vs → RpT K H ds vs
  | [], _, h => h
  | (_, d) :: ds, _, ⟨x, v, r, e, k, h, t⟩ => ⟨x, v, r, e, k, Rp.mono s d v h, RpT.mono s ds r t⟩
end
section
variable {K : PySem.W.Frag} {G H : Hp}
theorem RpL.length : ∀ {ds : List D} {vs : List V}, RpL K G ds vs → vs.length = ds.length
  | [], _, h => by cases h; rfl
  | d :: ds, _, ⟨v, r, e, _, t⟩ => by rw [e, List.length_cons, List.length_cons, RpL.length t]
theorem RpL.get : ∀ {ds : List D} {vs : List V} {i : Nat} {d : D}, RpL K G ds vs → ds[i]? = some d → ∃ v, vs[i]? = some v ∧ Rp K G d v
  | [], _, _, _, _, e => by simp at e
  | x :: ds, _, 0, d, ⟨v, r, e, h, _⟩, q => by
    have q' : x = d := Option.some.inj q
    exact ⟨v, by rw [e]; rfl, by rw [← q']; exact h⟩
  | x :: ds, _, i + 1, d, ⟨v, r, e, _, t⟩, q => by
    obtain ⟨u, h1, h2⟩ := RpL.get t (i := i) q
    exact ⟨u, by rw [e]; exact h1, h2⟩
theorem RpL.append : ∀ {ds es : List D} {vs us : List V}, RpL K G ds vs → RpL K G es us → RpL K G (ds ++ es) (vs ++ us)
  | [], _, _, _, h, h' => by cases h; exact h'
  | d :: ds, es, _, us, ⟨v, r, e, h, t⟩, h' => ⟨v, r ++ us, by rw [e]; rfl, h, RpL.append t h'⟩
theorem RpL.one {d : D} {v : V} (h : Rp K G d v) : RpL K G [d] [v] := ⟨v, [], rfl, h, rfl⟩
theorem RpL.take : ∀ {ds : List D} {vs : List V} (n : Nat), RpL K G ds vs → RpL K G (ds.take n) (vs.take n)
  | _, _, 0, _ => by rw [List.take_zero, List.take_zero]; rfl
  | [], _, n + 1, h => by cases h; rfl
  | d :: ds, _, n + 1, ⟨v, r, e, h, t⟩ => ⟨v, r.take n, by rw [e]; rfl, h, RpL.take n t⟩
theorem RpL.drop : ∀ {ds : List D} {vs : List V} (n : Nat), RpL K G ds vs → RpL K G (ds.drop n) (vs.drop n)
  | _, _, 0, h => h
  | [], _, n + 1, h => by cases h; rfl
  | d :: ds, _, n + 1, ⟨v, r, e, h, t⟩ => by rw [e]; exact RpL.drop n t
theorem RpL.set : ∀ {ds : List D} {vs : List V} {d : D} {v : V} (n : Nat), RpL K G ds vs → Rp K G d v → RpL K G (ds.set n d) (vs.set n v)
  | [], _, _, _, _, h, _ => by cases h; rfl
  | x :: ds, _, d, v, 0, ⟨u, r, e, _, t⟩, q => by rw [e]; exact ⟨v, r, rfl, q, t⟩
  | x :: ds, _, d, v, n + 1, ⟨u, r, e, h, t⟩, q => by rw [e]; exact ⟨u, r.set n v, rfl, h, RpL.set n t q⟩
theorem RpL.ints : ∀ {is : List Int} {vs : List V}, RpL K G (is.map PyData.int) vs → vs = is.map V.int
  | [], _, h => h
  | i :: is, _, ⟨v, r, e, h, t⟩ => by
    have h' : v = .int i := h
    rw [e, h', RpL.ints t]; rfl
theorem RpL.of_ints : ∀ (is : List Int), RpL K G (is.map PyData.int) (is.map V.int)
  | [] => rfl
  | i :: is => ⟨.int i, is.map V.int, rfl, rfl, RpL.of_ints is⟩
end
/-- a tuple of numbers that stands exactly, and has no dict -/
theorem Rp.fl {K : PySem.W.Frag} {G : Hp} {ds : List D} {v : V} (h : Rp K G (.dict [(.none, .tuple ds)]) v) : ∃ (ns : List Int) (o : Obj) (a : Addr), ds = ns.map PyData.int ∧ v = .ref a ∧ G a = some (.frz o (.tup (ns.map V.int))) ∧ o.dict = none := by
  obtain ⟨a, e, ⟨es, _, r⟩ | ⟨es, _, r⟩ | ⟨ns, e1, _⟩ | ⟨ns, o, e1, h1, h2⟩⟩ := h
  · obtain ⟨x, u, r2, _, ek, _⟩ := r
    cases x <;> cases ek
  · obtain ⟨x, u, r2, _, ek, _⟩ := r
    cases ek
  · cases e1
  · cases e1
    exact ⟨ns, o, a, rfl, e, h1, h2⟩
theorem RpL.of_int {K : PySem.W.Frag} {G : Hp} : ∀ ns : List Int, RpL K G (ns.map PyData.int) (ns.map V.int)
  | [] => rfl
  | n :: ns => ⟨.int n, _, rfl, rfl, RpL.of_int ns⟩

set_option autoImplicit true
open PySem PySem.Spec PyProof.Rows L2 LamX
inductive Sl where
  | no | fz (d : D) | own (d : D)
abbrev Env := List Sl
def Sl.val : Sl → Option D
  | .no => none
  | .fz d => some d
  | .own d => some d
def at_ (ρ : Env) (i : Nat) : Option D := (ρ[i]?).bind Sl.val
/-- a container's object, its parts frozen in G -/
inductive ObjD (K : PySem.W.Frag) (G : Hp) : D → HO → Prop
  | lst {ds : List D} {xs : List V} : RpL K G ds xs → ObjD K G (.list ds) (.lst xs)
  | tup {ds : List D} {xs : List V} : RpL K G ds xs → ObjD K G (.tuple ds) (.tup xs)
  | dK {kvs : List (D × D)} {es : List (Key × V)} : RpK K G kvs es → ObjD K G (.dict kvs) (.dK es)
  | dT {kvs : List (D × D)} {es : List (List Key × V)} : RpT K G kvs es → ObjD K G (.dict kvs) (.dT es)
def Own (K : PySem.W.Frag) (G H : Hp) (d : D) (p : Addr) : Prop := G p = none ∧ ∃ o, H p = some o ∧ ObjD K G d o ∧ Mut (some o)
/-- read only: frozen, or owned -/
def Vw (K : PySem.W.Frag) (G H : Hp) (d : D) (v : V) : Prop := Rp K G d v ∨ ∃ p, v = .ref p ∧ Own K G H d p
theorem ObjD.mono {K : PySem.W.Frag} {G G' : Hp} (s : GLe G G') {d : D} {o : HO} (h : ObjD K G d o) : ObjD K G' d o := by
  cases h with
  | lst h => exact .lst (RpL.mono s _ _ h)
  | tup h => exact .tup (RpL.mono s _ _ h)
  | dK h => exact .dK (RpK.mono s _ _ h)
  | dT h => exact .dT (RpT.mono s _ _ h)
/-- an object that stands is its value -/
theorem ObjD.rp {K : PySem.W.Frag} {G : Hp} {p : Addr} {d : D} {o : HO} (h : ObjD K G d o) (e : G p = some o) : Rp K G d (.ref p) := by
  cases h with
  | lst h => exact ⟨p, _, rfl, e, h⟩
  | tup h => exact ⟨p, _, rfl, e, h⟩
  | dK h => exact ⟨p, rfl, .inl ⟨_, e, h⟩⟩
  | dT h => exact ⟨p, rfl, .inr (.inl ⟨_, e, h⟩)⟩
theorem ObjD.notTbl {K : PySem.W.Frag} {G : Hp} {d : D} {o : HO} (h : ObjD K G d o) : (∀ ps, o ≠ .tbl ps) ∧ ∀ q u, o ≠ .frz q u := by
  cases h <;> exact ⟨fun _ e => (nomatch e), fun _ _ e => (nomatch e)⟩
/-- the frame's ghost: what is foreign, what stood at the entry, the slots whose objects go back -/
structure Fr where
  fg : Hp
  dom : Addr → Prop
  io : List (Nat × Addr)
def SlOk (K : PySem.W.Frag) (G H : Hp) (F : Fr) (σ : L2.St) (i : Nat) : Sl → Prop
  | .no => True
  | .fz d => ∃ v, σ[i]? = some (some v) ∧ Rp K G d v
  | .own d => ∃ p, σ[i]? = some (some (.ref p)) ∧ Own K G H d p ∧ (¬ F.dom p ∨ (i, p) ∈ F.io)
/-- what is fixed for a def's body: the written part, the tables, the names, what is wanted of an exception, the slots that go back -/
structure Ct where
  K : PySem.W.Frag
  T : List (Addr × Str)
  mg : Str → Option Value
  W : WX
  ios : List Nat
/-- something stands there, no table -/
def Dm (H : Hp) (a : Addr) : Prop := ∃ u, H a = some u ∧ ∀ ps, u ≠ .tbl ps
/-- foreign: not frozen by us, or locked -/
def FgG (G : Hp) (a : Addr) (u : HO) : Prop := G a = none ∨ ∃ o w, u = .frz o w
theorem FgG.upd {G : Hp} {a p : Addr} {u o : HO} (h : FgG G a u) (ne : a ≠ p) : FgG (upd G p o) a u := h.imp (fun h => by rw [upd_ne ne]; exact h) id
theorem FgG.none {G : Hp} {a : Addr} {u : HO} (h : FgG G a u) (hn : ∀ q w, u ≠ .frz q w) : G a = none := h.resolve_right fun ⟨q, w, e⟩ => hn q w e
structure State (c : Ct) (F : Fr) (ρ : Env) (σ : L2.St) (G H : Hp) : Prop where
  sub : Sub G H
  fg : ∀ a u, F.fg a = some u → H a = some u ∧ FgG G a u
  wf : ∀ a u, F.fg a = some u → F.dom a ∧ (∀ i, (i, a) ∉ F.io) ∧ ∀ ps, u ≠ .tbl ps
  dom : ∀ a, F.dom a → Dm H a
  tab : Tabs c.T H
  tabG : ∀ p ∈ c.T, G p.1 = none
  len : ρ.length = σ.length
  sl : ∀ (i : Nat) (s : Sl), ρ[i]? = some s → SlOk c.K G H F σ i s
  apart : ∀ (i j : Nat) (p : Addr) (d e : D), ρ[i]? = some (.own d) → ρ[j]? = some (.own e) → σ[i]? = some (some (.ref p)) → σ[j]? = some (some (.ref p)) → i = j
  io : ∀ q ∈ F.io, σ[q.1]? = some (some (.ref q.2))
  ios : F.io.map (·.1) = c.ios
  ioD : ∀ q ∈ F.io, F.dom q.2
  tupG : ∀ (q : Addr) (ks : List Key), H q = some (.tup (ks.map kV)) → G q = some (.tup (ks.map kV))
section
variable {c : Ct} {F : Fr} {ρ : Env} {σ : L2.St} {G H : Hp}
theorem State.gnone (S : State c F ρ σ G H) {p : Addr} (h : H p = none) : G p = none := by
  cases e : G p with
  | none => rfl
  | some u =>
    rcases S.sub.1 p u e with q | ⟨_, o, q⟩ <;> (rw [h] at q; cases q)
theorem SlOk.mono {K : PySem.W.Frag} {G G' H H' : Hp} (s : GLe G G') {i : Nat} {sl : Sl} (hk : ∀ p d, sl = .own d → σ[i]? = some (some (.ref p)) → Own K G H d p → G' p = none ∧ H' p = H p) (h : SlOk K G H F σ i sl) : SlOk K G' H' F σ i sl := by
  cases sl with
  | no => trivial
  | fz d =>
    obtain ⟨v, e, r⟩ := h
    exact ⟨v, e, Rp.mono s d v r⟩
  | own d =>
    obtain ⟨p, e, ow, q⟩ := h
    obtain ⟨h1, h2⟩ := hk p d rfl e ow
    obtain ⟨_, o, ho, hd, hm⟩ := ow
    exact ⟨p, e, ⟨h1, o, by rw [h2]; exact ho, hd.mono s, hm⟩, q⟩
/-- a new object -/
theorem State.alloc0 (S : State c F ρ σ G H) {p : Addr} {o : HO} (h : H p = none) (tg : ∀ (q : Addr) (ks : List Key), upd H p o q = some (.tup (ks.map kV)) → G q = some (.tup (ks.map kV)) ∨ q = p) :
    Sub G (upd H p o) ∧ (∀ a u, F.fg a = some u → upd H p o a = some u ∧ FgG G a u) ∧ (∀ a, F.dom a → Dm (upd H p o) a) ∧ Tabs c.T (upd H p o) ∧ (∀ (i : Nat) (s : Sl), ρ[i]? = some s → SlOk c.K G (upd H p o) F σ i s) := by
  refine ⟨⟨fun a u r => ?_, S.sub.2⟩, fun a u e => ?_, fun a e => ?_, ?_, fun i s e => ?_⟩
  · have ne : a ≠ p := by
      rcases S.sub.1 a u r with q | ⟨_, _, q⟩
      · exact ne_of_none q h
      · exact ne_of_none q h
    rcases S.sub.1 a u r with q | ⟨id, ob, q⟩
    · exact .inl (by rw [upd_ne ne]; exact q)
    · exact .inr ⟨id, ob, by rw [upd_ne ne]; exact q⟩
  · exact ⟨by rw [upd_ne (ne_of_none (S.fg a u e).1 h)]; exact (S.fg a u e).1, (S.fg a u e).2⟩
  · obtain ⟨u, hu, hn⟩ := S.dom a e
    exact ⟨u, by rw [upd_ne (ne_of_none hu h)]; exact hu, hn⟩
  · exact S.tab.ext fun b u e => by rw [upd_ne (ne_of_none e h)]; exact e
  · refine (S.sl i s e).mono (GLe.refl G) fun q d _ _ ow => ⟨ow.1, ?_⟩
    obtain ⟨_, ob, ho, _⟩ := ow
    exact upd_ne (ne_of_none ho h)
theorem State.alloc (S : State c F ρ σ G H) {p : Addr} {o : HO} (h : H p = none) (hm : Mut (some o)) : State c F ρ σ G (upd H p o) := by
  have tg : ∀ (q : Addr) (ks : List Key), upd H p o q = some (.tup (ks.map kV)) → G q = some (.tup (ks.map kV)) := fun q ks e => by
    by_cases z : q = p
    · rw [z, upd_same] at e
      cases e
      exact hm.elim
    · rw [upd_ne z] at e
      exact S.tupG q ks e
  obtain ⟨h1, h2, h3, h4, h5⟩ := S.alloc0 (o := o) h fun q ks e => .inl (tg q ks e)
  exact ⟨h1, h2, S.wf, h3, h4, S.tabG, S.len, h5, S.apart, S.io, S.ios, S.ioD, tg⟩
theorem tab_none {T : List (Addr × Str)} {H : Hp} (t : Tabs T H) {p : Addr × Str} (hp : p ∈ T) : ∃ ps, H p.1 = some (.tbl ps) := by
  obtain ⟨ps, e, _⟩ := t p hp
  exact ⟨ps, e⟩
/-- a new object, frozen -/
theorem State.add (S : State c F ρ σ G H) {p : Addr} {o : HO} (h : H p = none) (hnt : ∀ ps, o ≠ .tbl ps := by exact fun _ z => nomatch z) : State c F ρ σ (upd G p o) (upd H p o) := by
  have gn := S.gnone h
  have tg : ∀ (q : Addr) (ks : List Key), upd H p o q = some (.tup (ks.map kV)) → G q = some (.tup (ks.map kV)) ∨ q = p := fun q ks e => by
    by_cases z : q = p
    · exact .inr z
    · rw [upd_ne z] at e
      exact .inl (S.tupG q ks e)
  obtain ⟨h1, h2, h3, h4, h5⟩ := S.alloc0 (o := o) h tg
  refine ⟨⟨fun a u r => ?_, NoT.upd S.sub.2 hnt⟩, fun a u e => ?_, S.wf, h3, h4, fun q hq => ?_, S.len, fun i s e => ?_, S.apart, S.io, S.ios, S.ioD, fun q ks e => ?_⟩
  · by_cases q : a = p
    · subst q
      exact .inl (by rw [upd_same] at r ⊢; exact r)
    · exact h1.1 a u (by rw [upd_ne q] at r; exact r)
  · obtain ⟨e1, e2⟩ := S.fg a u e
    have ne := ne_of_none e1 h
    exact ⟨(h2 a u e).1, e2.upd ne⟩
  · obtain ⟨ps, e⟩ := tab_none S.tab hq
    rw [upd_ne (ne_of_none e h)]
    exact S.tabG q hq
  · refine (S.sl i s e).mono (GLe.upd gn) fun q d _ _ ow => ?_
    obtain ⟨hg, ob, ho, _⟩ := ow
    have ne := ne_of_none ho h
    exact ⟨by rw [upd_ne ne]; exact hg, upd_ne ne⟩
  · by_cases z : q = p
    · rw [z, upd_same] at e ⊢
      exact e
    · rw [upd_ne z]
      exact (tg q ks e).resolve_right z
theorem State.own_at (S : State c F ρ σ G H) {i : Nat} {d : D} (e : ρ[i]? = some (.own d)) : ∃ p, σ[i]? = some (some (.ref p)) ∧ Own c.K G H d p ∧ (¬ F.dom p ∨ (i, p) ∈ F.io) := S.sl i _ e
theorem State.own_fg (S : State c F ρ σ G H) {i : Nat} {p : Addr} (q : ¬ F.dom p ∨ (i, p) ∈ F.io) : F.fg p = none := by
  cases e : F.fg p with
  | none => rfl
  | some u =>
    obtain ⟨h1, h2, _⟩ := S.wf p u e
    rcases q with q | q
    · exact (q h1).elim
    · exact (h2 i q).elim
theorem State.own_tab (S : State c F ρ σ G H) {d : D} {p : Addr} (ow : Own c.K G H d p) : ∀ q ∈ c.T, q.1 ≠ p := fun q hq z => by
  obtain ⟨ps, e⟩ := tab_none S.tab hq
  obtain ⟨_, o, ho, hd, _⟩ := ow
  rw [z, ho] at e
  exact hd.notTbl.1 ps (Option.some.inj e)
theorem get_set {α : Type} {l : List α} {i j : Nat} {a b : α} (h : (l.set i a)[j]? = some b) : (i = j ∧ a = b) ∨ (i ≠ j ∧ l[j]? = some b) := by
  by_cases e : i = j
  · subst e
    by_cases hi : i < l.length
    · rw [List.getElem?_set_self hi] at h
      exact .inl ⟨rfl, Option.some.inj h⟩
    · rw [List.getElem?_eq_none (by rw [List.length_set]; omega)] at h
      cases h
  · rw [List.getElem?_set_ne e] at h
    exact .inr ⟨e, h⟩
/-- an owned slot is frozen -/
theorem State.freeze (S : State c F ρ σ G H) {i : Nat} {d : D} {p : Addr} (e : ρ[i]? = some (.own d)) (es : σ[i]? = some (some (.ref p))) :
    ∃ G', State c F (ρ.set i (.fz d)) σ G' H ∧ GLe G G' ∧ Rp c.K G' d (.ref p) := by
  obtain ⟨p', e1, ow, q⟩ := S.own_at e
  rw [es] at e1
  cases e1
  obtain ⟨hg, o, ho, hd, hm⟩ := id ow
  have gl : GLe G (upd G p o) := GLe.upd hg
  have rp : Rp c.K (upd G p o) d (.ref p) := (hd.mono gl).rp upd_same
  refine ⟨upd G p o, ⟨⟨fun a u r => ?_, NoT.upd S.sub.2 hd.notTbl.1⟩, fun a u ea => ?_, S.wf, S.dom, S.tab, fun t ht => ?_, by rw [List.length_set]; exact S.len, fun j s ej => ?_, fun j k a x y h1 h2 h3 h4 => ?_, S.io, S.ios, S.ioD, fun q ks e => gl _ _ (S.tupG q ks e)⟩, gl, rp⟩
  · by_cases z : a = p
    · subst z
      rw [upd_same] at r
      exact .inl (by rw [ho]; exact r)
    · exact S.sub.1 a u (by rw [upd_ne z] at r; exact r)
  · obtain ⟨e1, e2⟩ := S.fg a u ea
    refine ⟨e1, ?_⟩
    have ne : a ≠ p := fun z => by
      rw [z, S.own_fg q] at ea
      cases ea
    exact e2.upd ne
  · rw [upd_ne (S.own_tab ow t ht)]
    exact S.tabG t ht
  · rcases get_set ej with ⟨rfl, rfl⟩ | ⟨ne, ej⟩
    · exact ⟨.ref p, es, rp⟩
    · refine (S.sl j s ej).mono gl fun b x ex eb owb => ?_
      have nb : b ≠ p := fun z => by
        rw [z] at eb
        exact ne (S.apart i j p d x e (by rw [ej, ex]) es eb)
      exact ⟨by rw [upd_ne nb]; exact owb.1, rfl⟩
  · rcases get_set h1 with ⟨_, z⟩ | ⟨_, h1⟩
    · cases z
    · rcases get_set h2 with ⟨_, z⟩ | ⟨_, h2⟩
      · cases z
      · exact S.apart j k a x y h1 h2 h3 h4
end

set_option autoImplicit true
structure Exn where
  cls : Str
  arg : Option (Str × D)
inductive Rs (α : Type) where
  | ok (a : α) (ρ : Env) | ex (e : Exn) (ρ : Env) | stuck
abbrev ME := Env → Rs D
abbrev MB := Env → Rs Bool
def Rs.then {α β : Type} : Rs α → (α → Env → Rs β) → Rs β
  | .ok a ρ, f => f a ρ
  | .ex e ρ, _ => .ex e ρ
  | .stuck, _ => .stuck
/-- an exception as it flies -/
def ExOk (c : Ct) (G : Hp) (e : Exn) (cls : Value) (dx : Option Addr) (H : Hp) : Prop :=
  ∃ C : Addr, c.mg e.cls = some (.ref C) ∧ cls = .ref C ∧
    match e.arg with
    | none => dx = none
    | some (f, d) => ∃ dd v, dx = some dd ∧ H dd = some (.xd [(f, v)]) ∧ Rp c.K G d v
/-- what is asked so that M-function's outcome is handed on -/
def Ask (c : Ct) (F : Fr) (σ : L2.St) (G : Hp) {α : Type} (k : α → Env → Prop) : Rs α → Prop
  | .ok a ρ => k a ρ
  | .ex e ρ => ∀ cls dx H' G', State c F ρ σ G' H' → GLe G G' → ExOk c G' e cls dx H' → c.W cls dx σ H'
  | .stuck => False
theorem Ask.imp {c : Ct} {F : Fr} {σ : L2.St} {G G1 : Hp} {α : Type} {k k' : α → Env → Prop} {r : Rs α} (h : Ask c F σ G k r) (g : GLe G G1) (hk : ∀ a ρ, k a ρ → k' a ρ) : Ask c F σ G1 k' r := by
  cases r with
  | ok a ρ => exact hk a ρ h
  | ex e ρ => exact fun cls dx H' G' S gl x => h cls dx H' G' S (g.trans gl) x
  | stuck => exact h
theorem Ask.then {c : Ct} {F : Fr} {σ : L2.St} {G : Hp} {α β : Type} {k : β → Env → Prop} {r : Rs α} {f : α → Env → Rs β} (h : Ask c F σ G k (r.then f)) : Ask c F σ G (fun a ρ => Ask c F σ G k (f a ρ)) r := by
  cases r with
  | ok a ρ => exact h
  | ex e ρ => exact h
  | stuck => exact h
/-- a value's reading -/
def tE (c : Ct) (m : ME) : TE := fun σ H Q => ∃ F ρ G, State c F ρ σ G H ∧ Ask c F σ G (fun d ρ' => ∀ v H' G', State c F ρ' σ G' H' → GLe G G' → Rp c.K G' d v → Q v H') (m ρ)
/-- a new container's -/
def NewAt (c : Ct) (F : Fr) (ρ : Env) (σ : L2.St) (G H : Hp) (d : D) (p : Addr) : Prop := Own c.K G H d p ∧ ¬ F.dom p ∧ ∀ (i : Nat) (e : D), ρ[i]? = some (.own e) → σ[i]? ≠ some (some (V.ref p))
def tF (c : Ct) (m : ME) : TE := fun σ H Q => ∃ F ρ G, State c F ρ σ G H ∧ Ask c F σ G (fun d ρ' => ∀ p H' G', State c F ρ' σ G' H' → GLe G G' → NewAt c F ρ' σ G' H' d p → Q (.ref p) H') (m ρ)
def tT (c : Ct) (m : MB) : TT := fun σ H Q => ∃ F ρ G, State c F ρ σ G H ∧ Ask c F σ G (fun b ρ' => ∀ H' G', State c F ρ' σ G' H' → GLe G G' → Q b H') (m ρ)
section
variable {X : Cx} {c : Ct} {F : Fr} {ρ : Env} {σ : L2.St} {G H : Hp} {e : Expr} {t t' : TE}
theorem pe_conseq (h : PE X e t) (hi : ∀ σ H Q, t' σ H Q → t σ H Q) : PE X e t' := ⟨fun pins s σ H Q I q => h.run pins s σ H Q I (hi _ _ _ q)⟩
theorem pt_conseq {t t' : TT} (h : PT X e t) (hi : ∀ σ H Q, t' σ H Q → t σ H Q) : PT X e t' := ⟨fun pins s σ H Q I q => h.run pins s σ H Q I (hi _ _ _ q)⟩
/-- a new container is frozen -/
theorem NewAt.freezeAt {d : D} {p : Addr} {o : HO} (S : State c F ρ σ G H) (n : NewAt c F ρ σ G H d p) (hq : H p = some o) : State c F ρ σ (upd G p o) H ∧ GLe G (upd G p o) ∧ Rp c.K (upd G p o) d (.ref p) := by
  obtain ⟨ow, nd, na⟩ := n
  obtain ⟨hg, o', ho, hd, hm⟩ := id ow
  rw [hq] at ho
  cases ho
  have ho := hq
  have gl : GLe G (upd G p o) := GLe.upd hg
  have rp : Rp c.K (upd G p o) d (.ref p) := (hd.mono gl).rp upd_same
  refine ⟨⟨⟨fun a u r => ?_, NoT.upd S.sub.2 hd.notTbl.1⟩, fun a u ea => ?_, S.wf, S.dom, S.tab, fun t ht => ?_, S.len, fun j s ej => ?_, S.apart, S.io, S.ios, S.ioD, fun q ks e => gl _ _ (S.tupG q ks e)⟩, gl, rp⟩
  · by_cases z : a = p
    · subst z
      rw [upd_same] at r
      exact .inl (by rw [ho]; exact r)
    · exact S.sub.1 a u (by rw [upd_ne z] at r; exact r)
  · obtain ⟨e1, e2⟩ := S.fg a u ea
    have ne : a ≠ p := fun z => nd (by rw [← z]; exact (S.wf a u ea).1)
    exact ⟨e1, e2.upd ne⟩
  · rw [upd_ne (S.own_tab ow t ht)]
    exact S.tabG t ht
  · refine (S.sl j s ej).mono gl fun b x ex eb owb => ?_
    have nb : b ≠ p := fun z => by
      rw [z] at eb
      exact na j x (by rw [ej, ex]) eb
    exact ⟨by rw [upd_ne nb]; exact owb.1, rfl⟩
theorem NewAt.freeze {d : D} {p : Addr} (S : State c F ρ σ G H) (n : NewAt c F ρ σ G H d p) : ∃ G', State c F ρ σ G' H ∧ GLe G G' ∧ Rp c.K G' d (.ref p) := by
  obtain ⟨_, o, ho, _, _⟩ := id n.1
  exact ⟨_, n.freezeAt S ho⟩
theorem NewAt.of (S : State c F ρ σ G H) {d : D} {p : Addr} {o : HO} (h : H p = none) (hd : ObjD c.K G d o) (hm : Mut (some o)) : NewAt c F ρ σ G (upd H p o) d p :=
  ⟨⟨S.gnone h, o, upd_same, hd, hm⟩, (fun q => by obtain ⟨u, hu, _⟩ := S.dom p q; rw [h] at hu; cases hu), fun i x e es => by
    obtain ⟨p', e1, ow, _⟩ := S.own_at e
    rw [es] at e1
    cases e1
    obtain ⟨_, ob, ho, _⟩ := ow
    rw [h] at ho
    cases ho⟩
/-- a new container as a value -/
theorem me_of {m : ME} (h : PE X e (tF c m)) : PE X e (tE c m) := pe_conseq h fun σ H Q ⟨F, ρ, G, S, a⟩ => ⟨F, ρ, G, S, a.imp (GLe.refl G) fun d ρ' k p H' G' S' gl n => by
  obtain ⟨G2, S2, gl2, r⟩ := n.freeze S'
  exact k _ _ _ S2 (gl.trans gl2) r⟩
def mLit (d : D) : ME := fun ρ => .ok d ρ
theorem tE_lit {d : D} {v : V} {Q : VK} (hr : ∀ G, Rp c.K G d v) (h : tE c (mLit d) σ H Q) : Q v H := by
  obtain ⟨F, ρ, G, S, a⟩ := h
  exact a v H G S (GLe.refl G) (hr G)
theorem me_int {i : Int} {j : Nat} {pos : Pos} : PE X (.Constant (.int i) j pos) (tE c (mLit (.int i))) := pe_conseq pe_int fun _ _ _ h => tE_lit (d := .int i) (fun _ => rfl) h
theorem me_bl {b : Bool} {j : Nat} {pos : Pos} : PE X (.Constant (.bool b) j pos) (tE c (mLit (.bool b))) := pe_conseq pe_bl fun _ _ _ h => tE_lit (d := .bool b) (fun _ => rfl) h
theorem me_non {j : Nat} {pos : Pos} : PE X (.Constant .none j pos) (tE c (mLit .none)) := pe_conseq pe_non fun _ _ _ h => tE_lit (d := .none) (fun _ => rfl) h
theorem me_str {x : Str} {j : Nat} {pos : Pos} : PE X (.Constant (.str x) j pos) (tE c (mLit (.str x))) := pe_conseq pe_str fun _ _ _ h => tE_lit (d := .str x) (fun _ => rfl) h
theorem me_gint {x : Str} {i : Int} {pos : Pos} (hg : Gl X x) (hm : ∃ t, X.mg x = some (.int i t)) (hd : (x == ("__debug__" : Str)) = false := by decide) : PE X (.Name x pos) (tE c (mLit (.int i))) := by
  obtain ⟨t, hm⟩ := hm
  exact pe_conseq (pe_glob (v := .int i) hg hm ⟨t, rfl⟩ hd) fun _ _ _ h => tE_lit (d := .int i) (fun _ => rfl) h
def mVar (i : Nat) : ME := fun ρ => match ρ[i]? with
  | some (.fz d) => .ok d ρ
  | some (.own d) => .ok d (ρ.set i (.fz d))
  | _ => .stuck
theorem me_var {i : Nat} (h : PE X e (tVar i)) : PE X e (tE c (mVar i)) := pe_conseq h fun σ H Q ⟨F, ρ, G, S, a⟩ => by
  unfold mVar at a
  split at a
  · rename_i d e
    obtain ⟨v, e1, r⟩ := S.sl i _ e
    exact ⟨v, e1, a v H G S (GLe.refl G) r⟩
  · rename_i d e
    obtain ⟨p, e1, ow, q⟩ := S.own_at e
    obtain ⟨G', S', gl, r⟩ := S.freeze e e1
    exact ⟨_, e1, a _ H G' S' gl r⟩
  · exact a.elim
inductive Opd where
  | sl (i : Nat) | ex (m : ME)
def Opd.ev : Opd → Env → Rs (Option D)
  | .sl i, ρ => match at_ ρ i with
    | some _ => .ok none ρ
    | none => .stuck
  | .ex m, ρ => (m ρ).then fun d ρ' => .ok (some d) ρ'
def Opd.fin : Opd → Option D → Env → Option D
  | .sl i, _, ρ => at_ ρ i
  | .ex _, x, _ => x
def tO (c : Ct) : Opd → TE
  | .sl i => tVar i
  | .ex m => tE c m
/-- what an operand's value is, behind its evaluation -/
def OpV (c : Ct) (σ : L2.St) (G : Hp) : Opd → Option D → V → Prop
  | .sl i, _, v => σ[i]? = some (some v)
  | .ex _, x, v => ∃ d, x = some d ∧ Rp c.K G d v
theorem OpV.mono {o : Opd} {x : Option D} {v : V} {G G' : Hp} (g : GLe G G') (h : OpV c σ G o x v) : OpV c σ G' o x v := by
  cases o with
  | sl i => exact h
  | ex m =>
    obtain ⟨d, e, r⟩ := h
    exact ⟨d, e, Rp.mono g d v r⟩
theorem at_some {i : Nat} {d : D} (h : at_ ρ i = some d) : ρ[i]? = some (.fz d) ∨ ρ[i]? = some (.own d) := by
  unfold at_ at h
  cases e : ρ[i]? with
  | none => rw [e] at h; cases h
  | some s =>
    rw [e] at h
    cases s with
    | no => cases h
    | fz x => cases h; exact .inl rfl
    | own x => cases h; exact .inr rfl
theorem State.vw (S : State c F ρ σ G H) {i : Nat} {d : D} (h : at_ ρ i = some d) : ∃ v, σ[i]? = some (some v) ∧ Vw c.K G H d v := by
  rcases at_some h with e | e
  · obtain ⟨v, e1, r⟩ := S.sl i _ e
    exact ⟨v, e1, .inl r⟩
  · obtain ⟨p, e1, ow, _⟩ := S.own_at e
    exact ⟨_, e1, .inr ⟨p, rfl, ow⟩⟩
theorem OpV.vw {o : Opd} {x : Option D} {v : V} {d : D} (S : State c F ρ σ G H) (h : OpV c σ G o x v) (hf : o.fin x ρ = some d) : Vw c.K G H d v := by
  cases o with
  | sl i =>
    obtain ⟨u, e, w⟩ := S.vw hf
    rw [h] at e
    cases e
    exact w
  | ex m =>
    obtain ⟨y, e, r⟩ := h
    have hf' : x = some d := hf
    rw [e] at hf'
    cases hf'
    exact .inl r
/-- the evaluation of one operand -/
theorem tO_ev {o : Opd} {R : V → Hp → Prop} (S : State c F ρ σ G H)
    (a : Ask c F σ G (fun x ρ' => ∀ v H' G', State c F ρ' σ G' H' → GLe G G' → OpV c σ G' o x v → R v H') (o.ev ρ)) : tO c o σ H R := by
  cases o with
  | sl i =>
    simp only [Opd.ev] at a
    cases e : at_ ρ i with
    | none =>
      rw [e] at a
      exact False.elim a
    | some d =>
      rw [e] at a
      obtain ⟨v, e1, _⟩ := S.vw e
      exact ⟨v, e1, a v H G S (GLe.refl G) e1⟩
  | ex m =>
    refine ⟨F, ρ, G, S, (Ask.then a).imp (GLe.refl G) fun d ρ' k v H' G' S' gl r => ?_⟩
    exact k v H' G' S' gl ⟨d, rfl, r⟩
/-- a primitive's outcome: a value that stands, or a new object -/
def POut (K : PySem.W.Frag) (G H : Hp) (d : D) (v : V) (H' : Hp) : Prop := (H' = H ∧ Rp K G d v) ∨ ∃ p o, v = .ref p ∧ H p = none ∧ H' = upd H p o ∧ ObjD K G d o
def PNew (K : PySem.W.Frag) (G H : Hp) (d : D) (v : V) (H' : Hp) : Prop := ∃ p o, v = .ref p ∧ H p = none ∧ H' = upd H p o ∧ ObjD K G d o ∧ Mut (some o)
theorem PNew.out {K : PySem.W.Frag} {d : D} {v : V} {H' : Hp} (h : PNew K G H d v H') : POut K G H d v H' := let ⟨p, o, e, n, q, x, _⟩ := h; .inr ⟨p, o, e, n, q, x⟩
theorem POut.state {d : D} {v : V} {H' : Hp} (S : State c F ρ σ G H) (h : POut c.K G H d v H') : ∃ G', State c F ρ σ G' H' ∧ GLe G G' ∧ Rp c.K G' d v := by
  rcases h with ⟨rfl, r⟩ | ⟨p, o, rfl, n, rfl, x⟩
  · exact ⟨G, S, GLe.refl G, r⟩
  · have gl : GLe G (upd G p o) := GLe.upd (S.gnone n)
    exact ⟨upd G p o, S.add n x.notTbl.1, gl, (x.mono gl).rp upd_same⟩
/-- a reading of an operator does what g says -/
def Prim2 (K : PySem.W.Frag) (g : D → D → Option D) (r : R2) : Prop := ∀ (G H : Hp) (x y : V) (d1 d2 d : D) (Q : VK), Sub G H → Vw K G H d1 x → Vw K G H d2 y → g d1 d2 = some d → (∀ v H', POut K G H d v H' → Q v H') → r x y H Q
def PrimN2 (K : PySem.W.Frag) (g : D → D → Option D) (r : R2) : Prop := ∀ (G H : Hp) (x y : V) (d1 d2 d : D) (Q : VK), Sub G H → Vw K G H d1 x → Vw K G H d2 y → g d1 d2 = some d → (∀ v H', PNew K G H d v H' → Q v H') → r x y H Q
def mOp2 (g : D → D → Option D) (o1 o2 : Opd) : ME := fun ρ => (o1.ev ρ).then fun x1 ρ1 => (o2.ev ρ1).then fun x2 ρ2 =>
  match o1.fin x1 ρ2, o2.fin x2 ρ2 with
  | some d1, some d2 => (match g d1 d2 with
    | some d => .ok d ρ2
    | none => .stuck)
  | _, _ => .stuck
/-- two operands and what is done with them -/
theorem tO2 {o1 o2 : Opd} {g : D → D → Option D} {R : V → V → Hp → Prop} {k : D → Env → Prop} (S : State c F ρ σ G H) (a : Ask c F σ G k (mOp2 g o1 o2 ρ))
    (hR : ∀ (ρ2 : Env) (G2 H2 : Hp) (x y : V) (d1 d2 d : D), State c F ρ2 σ G2 H2 → GLe G G2 → Vw c.K G2 H2 d1 x → Vw c.K G2 H2 d2 y → g d1 d2 = some d → k d ρ2 → R x y H2) :
    tO c o1 σ H fun x H1 => tO c o2 σ H1 fun y H2 => R x y H2 := by
  refine tO_ev S ((Ask.then a).imp (GLe.refl G) fun x1 ρ1 a1 v H1 G1 S1 g1 p1 => ?_)
  refine tO_ev S1 ((Ask.then a1).imp g1 fun x2 ρ2 a2 u H2 G2 S2 g2 p2 => ?_)
  cases e1 : o1.fin x1 ρ2 with
  | none => rw [e1] at a2; exact a2.elim
  | some d1 =>
    rw [e1] at a2
    cases e2 : o2.fin x2 ρ2 with
    | none => rw [e2] at a2; exact a2.elim
    | some d2 =>
      rw [e2] at a2
      cases e3 : g d1 d2 with
      | none => simp only [e3] at a2; exact a2.elim
      | some d =>
        simp only [e3] at a2
        exact hR ρ2 G2 H2 v u d1 d2 d S2 (g1.trans g2) ((p1.mono g2).vw S2 e1) (p2.vw S2 e2) e3 a2
theorem tOp_e {o1 o2 : Opd} {g : D → D → Option D} {r : R2} (hp : Prim2 c.K g r) {Q : VK} (h : tE c (mOp2 g o1 o2) σ H Q) : tOp r (tO c o1) (tO c o2) σ H Q := by
  obtain ⟨F, ρ, G, S, a⟩ := h
  refine tO2 S a fun ρ2 G2 H2 x y d1 d2 d S2 gl v1 v2 e k => ?_
  refine hp G2 H2 x y d1 d2 d Q S2.sub v1 v2 e fun v H' po => ?_
  obtain ⟨G', S', gl', r⟩ := po.state S2
  exact k v H' G' S' (gl.trans gl') r
theorem tOp_f {o1 o2 : Opd} {g : D → D → Option D} {r : R2} (hp : PrimN2 c.K g r) {Q : VK} (h : tF c (mOp2 g o1 o2) σ H Q) : tOp r (tO c o1) (tO c o2) σ H Q := by
  obtain ⟨F, ρ, G, S, a⟩ := h
  refine tO2 S a fun ρ2 G2 H2 x y d1 d2 d S2 gl v1 v2 e k => ?_
  refine hp G2 H2 x y d1 d2 d Q S2.sub v1 v2 e fun v H' ⟨p, o, ev, n, eH, x, hm⟩ => ?_
  rw [ev, eH]
  exact k p _ G2 (S2.alloc n hm) gl (NewAt.of S2 n x hm)
variable {a b : Expr} {pos : Pos} {o1 o2 : Opd} {g : D → D → Option D} {r : R2}
theorem me_op {op : Operator} (ho : OpR X (binaryOp op) r) (hp : Prim2 c.K g r) (ha : PE X a (tO c o1)) (hb : PE X b (tO c o2)) : PE X (.BinOp a op b pos) (tE c (mOp2 g o1 o2)) :=
  pe_conseq (pe_op ho ha hb) fun _ _ _ h => tOp_e hp h
theorem fe_op {op : Operator} (ho : OpR X (binaryOp op) r) (hp : PrimN2 c.K g r) (ha : PE X a (tO c o1)) (hb : PE X b (tO c o2)) : PE X (.BinOp a op b pos) (tF c (mOp2 g o1 o2)) :=
  pe_conseq (pe_op ho ha hb) fun _ _ _ h => tOp_f hp h
theorem me_cmp {op : CmpOp} (ho : OpR X (compareOp op) r) (hp : Prim2 c.K g r) (ha : PE X a (tO c o1)) (hb : PE X b (tO c o2)) (hm : behindInMarks op b = false) : PE X (.Compare a [op] [b] pos) (tE c (mOp2 g o1 o2)) :=
  pe_conseq (pe_cmpR ho ha hb hm) fun _ _ _ h => tOp_e hp h
/-- a bool as a test -/
def mB (m : ME) : MB := fun ρ => (m ρ).then fun d ρ' => match d with
  | .bool b => .ok b ρ'
  | _ => .stuck
theorem tB_e {m : ME} {Q : Bool → Hp → Prop} (h : tT c (mB m) σ H Q) : tE c m σ H (fun x H' => ∃ k, x = .bl k ∧ Q k H') := by
  obtain ⟨F, ρ, G, S, a⟩ := h
  refine ⟨F, ρ, G, S, (Ask.then a).imp (GLe.refl G) fun d ρ' a1 v H' G' S' gl r => ?_⟩
  split at a1
  · rename_i b
    exact ⟨b, r, a1 H' G' S' gl⟩
  · exact a1.elim
theorem mt_cmp {op : CmpOp} (ho : OpR X (compareOp op) r) (hp : Prim2 c.K g r) (ha : PE X a (tO c o1)) (hb : PE X b (tO c o2)) (hm : behindInMarks op b = false) : PT X (.Compare a [op] [b] pos) (tT c (mB (mOp2 g o1 o2))) :=
  pt_conseq (pt_cmpR ho ha hb hm) fun _ _ _ h => tOp_e hp (tB_e h)
theorem mt_val {m : ME} (h : PE X e (tE c m)) (he : ∀ whole, isTrue e X.env whole = (do let v ← whole; standAt e.pos; holding [v] (truthy v)) := by intro _; rfl) : PT X e (tT c (mB m)) :=
  pt_conseq (pt_val h he) fun _ _ _ h => tB_e h
end

set_option autoImplicit true
def mAnd (m n : ME) : ME := fun ρ => (m ρ).then fun d ρ' => match d with
  | .bool b => if b = true then n ρ' else .ok (.bool false) ρ'
  | _ => .stuck
def mOr (m n : ME) : ME := fun ρ => (m ρ).then fun d ρ' => match d with
  | .bool b => if b = true then .ok (.bool true) ρ' else n ρ'
  | _ => .stuck
def mNot (m : ME) : ME := fun ρ => (m ρ).then fun d ρ' => match d with
  | .bool b => .ok (.bool (!b)) ρ'
  | _ => .stuck
def bAnd (m n : MB) : MB := fun ρ => (m ρ).then fun b ρ' => if b = true then n ρ' else .ok false ρ'
def bOr (m n : MB) : MB := fun ρ => (m ρ).then fun b ρ' => if b = true then .ok true ρ' else n ρ'
def bNot (m : MB) : MB := fun ρ => (m ρ).then fun b ρ' => .ok (!b) ρ'
def mIf (t : MB) (m n : ME) : ME := fun ρ => (t ρ).then fun b ρ' => if b = true then m ρ' else n ρ'
section
variable {X : Cx} {c : Ct} {F : Fr} {ρ : Env} {σ : L2.St} {G H : Hp} {a b e : Expr} {rest : List Expr} {pos : Pos} {m n : ME} {s t : MB}
theorem me_and (ha : PE X a (tE c m)) (hb : PE X (.BoolOp .And (b :: rest) pos) (tE c n)) : PE X (.BoolOp .And (a :: b :: rest) pos) (tE c (mAnd m n)) := pe_conseq (pe_and ha hb) fun σ H Q ⟨F, ρ, G, S, q⟩ =>
  ⟨F, ρ, G, S, (Ask.then q).imp (GLe.refl G) fun d ρ' k v H' G' S' gl r => by
    cases d <;> first | exact False.elim k | skip
    rename_i x
    refine ⟨x, r, ?_⟩
    cases x with
    | true => exact ⟨F, ρ', G', S', Ask.imp k gl fun d ρ2 k2 u H2 G2 S2 gl2 r2 => k2 u H2 G2 S2 (gl.trans gl2) r2⟩
    | false => exact k _ H' G' S' gl rfl⟩
theorem me_one {op : BoolOp} (h : PE X a (tE c m)) : PE X (.BoolOp op [a] pos) (tE c m) := pe_one h
theorem me_not (ha : PE X a (tE c m)) : PE X (.UnaryOp .Not a pos) (tE c (mNot m)) := pe_conseq (pe_not ha) fun σ H Q ⟨F, ρ, G, S, q⟩ =>
  ⟨F, ρ, G, S, (Ask.then q).imp (GLe.refl G) fun d ρ' k v H' G' S' gl r => by
    cases d <;> first | exact False.elim k | skip
    rename_i x
    exact ⟨x, r, k _ H' G' S' gl rfl⟩⟩
theorem me_if {ct : Expr} (ht : PT X ct (tT c t)) (ha : PE X a (tE c m)) (hb : PE X b (tE c n)) : PE X (.IfExp ct a b pos) (tE c (mIf t m n)) := pe_conseq (pe_ifExp ht ha hb) fun σ H Q ⟨F, ρ, G, S, q⟩ =>
  ⟨F, ρ, G, S, (Ask.then q).imp (GLe.refl G) fun x ρ' k H' G' S' gl => by
    have k' : tE c (if x = true then m else n) σ H' Q := by
      cases x <;> exact ⟨F, ρ', G', S', Ask.imp k gl fun d ρ2 k2 u H2 G2 S2 gl2 r2 => k2 u H2 G2 S2 (gl.trans gl2) r2⟩
    cases x <;> exact k'⟩
/-- .. as tests -/
theorem mw_and1 (ha : PT X a (tT c t)) : PW X (.BoolOp .And [a] pos) (tT c t) := pw_and1 ha
theorem mw_or1 (ha : PT X a (tT c t)) : PW X (.BoolOp .Or [a] pos) (tT c t) := pw_or1 ha
theorem pw_conseq {t t' : TT} (h : PW X e t) (hi : ∀ σ H Q, t' σ H Q → t σ H Q) : PW X e t' := ⟨fun w pins s σ H Q I q => h.run w pins s σ H Q I (hi _ _ _ q)⟩
theorem mw_and (ha : PT X a (tT c s)) (hb : PW X (.BoolOp .And (b :: rest) pos) (tT c t)) : PW X (.BoolOp .And (a :: b :: rest) pos) (tT c (bAnd s t)) := pw_conseq (pw_and ha hb) fun σ H Q ⟨F, ρ, G, S, q⟩ =>
  ⟨F, ρ, G, S, (Ask.then q).imp (GLe.refl G) fun x ρ' k H' G' S' gl => by
    cases x with
    | true => exact ⟨F, ρ', G', S', Ask.imp k gl fun d ρ2 k2 H2 G2 S2 gl2 => k2 H2 G2 S2 (gl.trans gl2)⟩
    | false => exact k H' G' S' gl⟩
theorem mw_or (ha : PT X a (tT c s)) (hb : PW X (.BoolOp .Or (b :: rest) pos) (tT c t)) : PW X (.BoolOp .Or (a :: b :: rest) pos) (tT c (bOr s t)) := pw_conseq (pw_or ha hb) fun σ H Q ⟨F, ρ, G, S, q⟩ =>
  ⟨F, ρ, G, S, (Ask.then q).imp (GLe.refl G) fun x ρ' k H' G' S' gl => by
    cases x with
    | false => exact ⟨F, ρ', G', S', Ask.imp k gl fun d ρ2 k2 H2 G2 S2 gl2 => k2 H2 G2 S2 (gl.trans gl2)⟩
    | true => exact k H' G' S' gl⟩
theorem mt_bool (h : PW X e (tT c t)) : PT X e (tT c t) := h.pt
theorem mt_not (ha : PT X a (tT c t)) : PT X (.UnaryOp .Not a pos) (tT c (bNot t)) := pt_conseq (pt_not ha) fun σ H Q ⟨F, ρ, G, S, q⟩ =>
  ⟨F, ρ, G, S, (Ask.then q).imp (GLe.refl G) fun x ρ' k H' G' S' gl => k H' G' S' gl⟩
end
def evm : List ME → Env → Rs (List D)
  | [], ρ => .ok [] ρ
  | m :: ms, ρ => (m ρ).then fun d ρ1 => (evm ms ρ1).then fun ds ρ2 => .ok (d :: ds) ρ2
def tMs (c : Ct) : List ME → TA
  | [] => tNil
  | m :: ms => tCons (tE c m) (tMs c ms)
def evo : List Opd → Env → Rs (List (Option D))
  | [], ρ => .ok [] ρ
  | o :: os, ρ => (o.ev ρ).then fun x ρ1 => (evo os ρ1).then fun xs ρ2 => .ok (x :: xs) ρ2
def fino : List Opd → List (Option D) → Env → Option (List D)
  | [], [], _ => some []
  | o :: os, x :: xs, ρ => (o.fin x ρ).bind fun d => (fino os xs ρ).map fun ds => d :: ds
  | _, _, _ => none
def tOs (c : Ct) : List Opd → TA
  | [] => tNil
  | o :: os => tCons (tO c o) (tOs c os)
def OpVs (c : Ct) (σ : L2.St) (G : Hp) : List Opd → List (Option D) → List V → Prop
  | [], [], [] => True
  | o :: os, x :: xs, v :: vs => OpV c σ G o x v ∧ OpVs c σ G os xs vs
  | _, _, _ => False
def VwL (K : PySem.W.Frag) (G H : Hp) : List D → List V → Prop
  | [], [] => True
  | d :: ds, v :: vs => Vw K G H d v ∧ VwL K G H ds vs
  | _, _ => False
section
variable {X : Cx} {c : Ct} {F : Fr} {ρ : Env} {σ : L2.St} {G H : Hp} {e : Expr} {es : List Expr} {pos : Pos}
theorem ms_nil : PA X [] (tMs c []) := pa_nil
theorem ms_cons {m : ME} {ms : List ME} (h : PE X e (tE c m)) (hr : PA X es (tMs c ms)) (hs : starEach (e :: es) X.env = (false, eval e X.env) :: starEach es X.env := by rfl) : PA X (e :: es) (tMs c (m :: ms)) := pa_cons h hr hs
theorem mo_nil : PA X [] (tOs c []) := pa_nil
theorem mo_cons {o : Opd} {os : List Opd} (h : PE X e (tO c o)) (hr : PA X es (tOs c os)) (hs : starEach (e :: es) X.env = (false, eval e X.env) :: starEach es X.env := by rfl) : PA X (e :: es) (tOs c (o :: os)) := pa_cons h hr hs
theorem tMs_ev : ∀ {ms : List ME} {ρ : Env} {G H : Hp} {R : List V → Hp → Prop}, State c F ρ σ G H →
    Ask c F σ G (fun ds ρ' => ∀ vs H' G', State c F ρ' σ G' H' → GLe G G' → RpL c.K G' ds vs → vs.length = ms.length → R vs H') (evm ms ρ) → tMs c ms σ H R
  | [], ρ, G, H, R, S, a => a [] H G S (GLe.refl G) rfl rfl
  | m :: ms, ρ, G, H, R, S, a => by
    refine ⟨F, ρ, G, S, (Ask.then a).imp (GLe.refl G) fun d ρ1 a1 v H1 G1 S1 g1 r1 => ?_⟩
    refine tMs_ev S1 ((Ask.then a1).imp g1 fun ds ρ2 k vs H2 G2 S2 g2 r2 hl => ?_)
    exact k (v :: vs) H2 G2 S2 (g1.trans g2) ⟨v, vs, rfl, Rp.mono g2 d v r1, r2⟩ (by rw [List.length_cons, List.length_cons, hl])
theorem OpVs.mono {G G' : Hp} (g : GLe G G') : ∀ {os : List Opd} {xs : List (Option D)} {vs : List V}, OpVs c σ G os xs vs → OpVs c σ G' os xs vs
  | [], [], [], _ => trivial
  | _ :: _, _ :: _, _ :: _, h => ⟨h.1.mono g, OpVs.mono g h.2⟩
theorem OpVs.vw (S : State c F ρ σ G H) : ∀ {os : List Opd} {xs : List (Option D)} {vs : List V} {ds : List D}, OpVs c σ G os xs vs → fino os xs ρ = some ds → VwL c.K G H ds vs
  | [], [], [], ds, _, h => by
    cases h
    trivial
  | o :: os, x :: xs, v :: vs, ds, hv, h => by
    unfold fino at h
    cases e1 : o.fin x ρ with
    | none => rw [e1] at h; cases h
    | some d =>
      rw [e1] at h
      cases e2 : fino os xs ρ with
      | none => rw [e2] at h; cases h
      | some r =>
        rw [e2] at h
        cases h
        exact ⟨hv.1.vw S e1, OpVs.vw S hv.2 e2⟩
theorem tOs_ev : ∀ {os : List Opd} {ρ : Env} {G H : Hp} {R : List V → Hp → Prop}, State c F ρ σ G H →
    Ask c F σ G (fun xs ρ' => ∀ vs H' G', State c F ρ' σ G' H' → GLe G G' → OpVs c σ G' os xs vs → R vs H') (evo os ρ) → tOs c os σ H R
  | [], ρ, G, H, R, S, a => a [] H G S (GLe.refl G) trivial
  | o :: os, ρ, G, H, R, S, a => by
    refine tO_ev (R := fun v H1 => tOs c os σ H1 fun vs H2 => R (v :: vs) H2) S ((Ask.then a).imp (GLe.refl G) fun x ρ1 a1 v H1 G1 S1 g1 r1 => ?_)
    refine tOs_ev S1 ((Ask.then a1).imp g1 fun xs ρ2 k vs H2 G2 S2 g2 r2 => ?_)
    exact k (v :: vs) H2 G2 S2 (g1.trans g2) ⟨r1.mono g2, r2⟩
def mTup (ms : List ME) : ME := fun ρ => (evm ms ρ).then fun ds ρ' => .ok (.tuple ds) ρ'
def mLst (ms : List ME) : ME := fun ρ => (evm ms ρ).then fun ds ρ' => .ok (.list ds) ρ'
theorem me_tup {ms : List ME} {x1 : Nat} (h : PA X es (tMs c ms)) (hz : ms.length ≤ sizeLine := by decide) : PE X (.Tuple es x1 pos) (tE c (mTup ms)) := pe_conseq (pe_tup h) fun σ H Q ⟨F, ρ, G, S, a⟩ => by
  refine tMs_ev S ((Ask.then a).imp (GLe.refl G) fun ds ρ' k vs H' G' S' gl r hl => ⟨by rw [hl]; exact hz, fun p hp => ?_⟩)
  have gl2 : GLe G' (upd G' p (.tup vs)) := GLe.upd (S'.gnone hp)
  exact k _ _ _ (S'.add hp) (gl.trans gl2) ((ObjD.tup (RpL.mono gl2 _ _ r)).rp upd_same)
theorem fe_lst {ms : List ME} (h : PA X es (tMs c ms)) (hz : ms.length ≤ sizeLine := by decide) : PE X (.List es pos) (tF c (mLst ms)) := pe_conseq (pe_lst h) fun σ H Q ⟨F, ρ, G, S, a⟩ => by
  refine tMs_ev S ((Ask.then a).imp (GLe.refl G) fun ds ρ' k vs H' G' S' gl r hl => ⟨by rw [hl]; exact hz, fun p hp => ?_⟩)
  exact k p _ G' (S'.alloc hp trivial) gl (NewAt.of S' hp (.lst r) trivial)
def PrimL (K : PySem.W.Frag) (g : List D → Option D) (r : List V → Hp → VK → Prop) : Prop := ∀ (G H : Hp) (xs : List V) (ds : List D) (d : D) (Q : VK), Sub G H → VwL K G H ds xs → g ds = some d → (∀ v H', POut K G H d v H' → Q v H') → r xs H Q
def PrimNL (K : PySem.W.Frag) (g : List D → Option D) (r : List V → Hp → VK → Prop) : Prop := ∀ (G H : Hp) (xs : List V) (ds : List D) (d : D) (Q : VK), Sub G H → VwL K G H ds xs → g ds = some d → (∀ v H', PNew K G H d v H' → Q v H') → r xs H Q
def mFn (g : List D → Option D) (os : List Opd) : ME := fun ρ => (evo os ρ).then fun xs ρ' => match fino os xs ρ' with
  | some ds => (match g ds with
    | some d => .ok d ρ'
    | none => .stuck)
  | none => .stuck
theorem tOs_fn {os : List Opd} {g : List D → Option D} {R : List V → Hp → Prop} {k : D → Env → Prop} (S : State c F ρ σ G H) (a : Ask c F σ G k (mFn g os ρ))
    (hR : ∀ (ρ2 : Env) (G2 H2 : Hp) (xs : List V) (ds : List D) (d : D), State c F ρ2 σ G2 H2 → GLe G G2 → VwL c.K G2 H2 ds xs → g ds = some d → k d ρ2 → R xs H2) : tOs c os σ H R := by
  refine tOs_ev S ((Ask.then a).imp (GLe.refl G) fun xs ρ2 a1 vs H2 G2 S2 g2 r2 => ?_)
  cases e1 : fino os xs ρ2 with
  | none => rw [e1] at a1; exact a1.elim
  | some ds =>
    rw [e1] at a1
    cases e2 : g ds with
    | none => simp only [e2] at a1; exact a1.elim
    | some d =>
      simp only [e2] at a1
      exact hR ρ2 G2 H2 vs ds d S2 g2 (r2.vw S2 e1) e2 a1
theorem tCB_e {os : List Opd} {g : List D → Option D} {r : List V → Hp → VK → Prop} (hp : PrimL c.K g r) {Q : VK} (h : tE c (mFn g os) σ H Q) : tCB r (tOs c os) σ H Q := by
  obtain ⟨F, ρ, G, S, a⟩ := h
  refine tOs_fn S a fun ρ2 G2 H2 xs ds d S2 gl v e k => ?_
  refine hp G2 H2 xs ds d Q S2.sub v e fun v H' po => ?_
  obtain ⟨G', S', gl', r⟩ := po.state S2
  exact k v H' G' S' (gl.trans gl') r
theorem tCB_f {os : List Opd} {g : List D → Option D} {r : List V → Hp → VK → Prop} (hp : PrimNL c.K g r) {Q : VK} (h : tF c (mFn g os) σ H Q) : tCB r (tOs c os) σ H Q := by
  obtain ⟨F, ρ, G, S, a⟩ := h
  refine tOs_fn S a fun ρ2 G2 H2 xs ds d S2 gl v e k => ?_
  refine hp G2 H2 xs ds d Q S2.sub v e fun v H' ⟨p, o, ev, n, eH, x, hm⟩ => ?_
  rw [ev, eH]
  exact k p _ G2 (S2.alloc n hm) gl (NewAt.of S2 n x hm)
end

set_option autoImplicit true
inductive FR where
  | ok (d : D) (back : List D) | ex (e : Exn) | stuck
abbrev FM := List Sl → FR
/-- the arguments as they lie -/
def ArgsOk (K : PySem.W.Frag) (G H : Hp) : List Sl → List V → Prop
  | [], [] => True
  | .fz d :: ss, v :: vs => Rp K G d v ∧ ArgsOk K G H ss vs
  | .own d :: ss, v :: vs => (∃ p, v = .ref p ∧ Own K G H d p) ∧ ArgsOk K G H ss vs
  | _, _ => False
/-- the owned arguments' objects -/
def owns : List Sl → List V → List Addr
  | .own _ :: ss, .ref p :: vs => p :: owns ss vs
  | _ :: ss, _ :: vs => owns ss vs
  | _, _ => []
def BackOk (K : PySem.W.Frag) (G H : Hp) : List D → List Addr → Prop
  | [], [] => True
  | d :: ds, p :: ps => Own K G H d p ∧ BackOk K G H ds ps
  | _, _ => False
/-- what a call leaves: all but the owned arguments (and the tables) stands -/
structure Post (T : List (Addr × Str)) (G H G' H' : Hp) (os : List Addr) : Prop where
  gl : GLe G G'
  sub : Sub G' H'
  tab : Tabs T H'
  tabG : ∀ p ∈ T, G' p.1 = none
  fg : ∀ a u, H a = some u → FgG G a u → a ∉ os → (∀ ps, u ≠ .tbl ps) → H' a = some u ∧ FgG G' a u
  dom : ∀ a, Dm H a → Dm H' a
  tupG : ∀ (q : Addr) (ks : List Key), H' q = some (.tup (ks.map kV)) → G' q = some (.tup (ks.map kV))
def spM (K : PySem.W.Frag) (T : List (Addr × Str)) (mg : Str → Option Value) (n : Nat) (f : FM) : Sp := fun vs H Q E => vs.length = n ∧ ∃ (G : Hp) (ss : List Sl), Sub G H ∧ Tabs T H ∧ (∀ p ∈ T, G p.1 = none) ∧ (∀ (q : Addr) (ks : List Key), H q = some (.tup (ks.map kV)) → G q = some (.tup (ks.map kV))) ∧ ArgsOk K G H ss vs ∧ (owns ss vs).Nodup ∧
  match f ss with
  | .ok d back => ∀ v H' G', Post T G H G' H' (owns ss vs) → Rp K G' d v → BackOk K G' H' back (owns ss vs) → Q v H'
  | .ex e => ∀ cls dx H' G', Post T G H G' H' (owns ss vs) → ExOk ⟨K, T, mg, fun _ _ _ _ => False, []⟩ G' e cls dx H' → E cls dx H'
  | .stuck => False
inductive Arg where
  | v (m : ME) | io (i : Nat)
def Arg.opd : Arg → Opd
  | .v m => .ex m
  | .io i => .sl i
def eva : List Arg → Env → Rs (List (Option D))
  | [], ρ => .ok [] ρ
  | a :: as, ρ => (a.opd.ev ρ).then fun x ρ1 => (eva as ρ1).then fun xs ρ2 => .ok (x :: xs) ρ2
/-- the slots that are handed over -/
def sls : List Arg → List (Option D) → Env → Option (List Sl)
  | [], [], _ => some []
  | .v _ :: as, some d :: xs, ρ => (sls as xs ρ).map fun r => .fz d :: r
  | .io i :: as, _ :: xs, ρ => match ρ[i]? with
    | some (.own d) => (sls as xs ρ).map fun r => .own d :: r
    | _ => none
  | _, _, _ => none
def ioIx : List Arg → List Nat
  | [] => []
  | .v _ :: as => ioIx as
  | .io i :: as => i :: ioIx as
def putBack : List Nat → List D → Env → Env
  | i :: is, d :: ds, ρ => putBack is ds (ρ.set i (.own d))
  | _, _, ρ => ρ
def mCall (f : FM) (as : List Arg) : ME := fun ρ => (eva as ρ).then fun xs ρ' => match sls as xs ρ' with
  | some ss => (match f ss with
    | .ok d back => .ok d (putBack (ioIx as) back ρ')
    | .ex e => if ioIx as = [] then .ex e ρ' else .stuck
    | .stuck => .stuck)
  | none => .stuck
def tAs (c : Ct) : List Arg → TA
  | [] => tNil
  | a :: as => tCons (tO c a.opd) (tAs c as)
section
variable {X : Cx} {c : Ct} {F : Fr} {ρ : Env} {σ : L2.St} {G H : Hp} {e : Expr} {es : List Expr} {pos : Pos}
theorem ma_nil : PA X [] (tAs c []) := pa_nil
theorem ma_v {m : ME} {as : List Arg} (h : PE X e (tE c m)) (hr : PA X es (tAs c as)) (hs : starEach (e :: es) X.env = (false, eval e X.env) :: starEach es X.env := by rfl) : PA X (e :: es) (tAs c (.v m :: as)) := pa_cons h hr hs
theorem ma_io {i : Nat} {as : List Arg} (h : PE X e (tVar i)) (hr : PA X es (tAs c as)) (hs : starEach (e :: es) X.env = (false, eval e X.env) :: starEach es X.env := by rfl) : PA X (e :: es) (tAs c (.io i :: as)) := pa_cons h hr hs
theorem tAs_eq : ∀ as : List Arg, tAs c as = tOs c (as.map Arg.opd)
  | [] => rfl
  | a :: as => by show tCons _ _ = tCons _ _; rw [tAs_eq as]
theorem eva_eq : ∀ (as : List Arg) (ρ : Env), eva as ρ = evo (as.map Arg.opd) ρ
  | [], _ => rfl
  | a :: as, ρ => by
    show Rs.then _ _ = Rs.then _ _
    congr 1
    funext x ρ1
    rw [eva_eq as ρ1]
theorem sls_args (S : State c F ρ σ G H) : ∀ {as : List Arg} {xs : List (Option D)} {vs : List V} {ss : List Sl}, OpVs c σ G (as.map Arg.opd) xs vs → sls as xs ρ = some ss →
    ArgsOk c.K G H ss vs ∧ vs.length = as.length ∧ (∃ qs : List (Nat × Addr), qs.map (·.1) = ioIx as ∧ qs.map (·.2) = owns ss vs ∧ ∀ q ∈ qs, σ[q.1]? = some (some (V.ref q.2)) ∧ ∃ d, ρ[q.1]? = some (.own d))
  | [], [], [], ss, _, h => by
    cases h
    exact ⟨trivial, rfl, [], rfl, rfl, fun _ z => (nomatch z)⟩
  | .v m :: as, x :: xs, v :: vs, ss, hv, h => by
    obtain ⟨⟨d, e, r⟩, hr⟩ := hv
    subst e
    simp only [sls] at h
    cases e2 : sls as xs ρ with
    | none => rw [e2] at h; cases h
    | some r2 =>
      rw [e2] at h
      cases h
      obtain ⟨h1, h2, qs, h3, h4, h5⟩ := sls_args S hr e2
      refine ⟨⟨r, h1⟩, by rw [List.length_cons, List.length_cons, h2], qs, h3, ?_, h5⟩
      rw [h4]
      cases v <;> rfl
  | .io i :: as, x :: xs, v :: vs, ss, hv, h => by
    obtain ⟨hv1, hr⟩ := hv
    have hv1 : σ[i]? = some (some v) := hv1
    simp only [sls] at h
    split at h
    · rename_i d e1
      cases e2 : sls as xs ρ with
      | none => rw [e2] at h; cases h
      | some r2 =>
        rw [e2] at h
        cases h
        obtain ⟨h1, h2, qs, h3, h4, h5⟩ := sls_args S hr e2
        obtain ⟨p, ep, ow, _⟩ := S.own_at e1
        rw [hv1] at ep
        cases ep
        refine ⟨⟨⟨p, rfl, ow⟩, h1⟩, by rw [List.length_cons, List.length_cons, h2], (i, p) :: qs, ?_, ?_, fun q hq => ?_⟩
        · rw [List.map_cons, h3]; rfl
        · rw [List.map_cons, h4]; rfl
        · rcases List.mem_cons.mp hq with e | e
          · subst e
            exact ⟨hv1, d, e1⟩
          · exact h5 q e
    · cases h
theorem nodup_of {qs : List (Nat × Addr)} (hn : (qs.map (·.1)).Nodup) (S : State c F ρ σ G H) (hq : ∀ q ∈ qs, σ[q.1]? = some (some (V.ref q.2)) ∧ ∃ d, ρ[q.1]? = some (.own d)) : (qs.map (·.2)).Nodup := by
  induction qs with
  | nil => exact List.nodup_nil
  | cons q r ih =>
    rw [List.map_cons, List.nodup_cons] at hn ⊢
    refine ⟨fun hm => ?_, ih hn.2 fun z hz => hq z (List.mem_cons_of_mem _ hz)⟩
    obtain ⟨z, hz, e⟩ := List.mem_map.mp hm
    obtain ⟨a1, d1, a2⟩ := hq q List.mem_cons_self
    obtain ⟨b1, d2, b2⟩ := hq z (List.mem_cons_of_mem _ hz)
    rw [e] at b1
    have := S.apart _ _ _ _ _ a2 b2 a1 b1
    exact hn.1 (by rw [this]; exact List.mem_map.mpr ⟨z, hz, rfl⟩)
/-- behind the callee, ahead of its own slots' being put back: the owned slots of the call are empty -/
theorem State.back (S : State c F ρ σ G H) {G' H' : Hp} {os : List Addr} (P : Post c.T G H G' H' os) : ∀ (qs : List (Nat × Addr)) (ds : List D), (qs.map (·.1)).Nodup → (∀ q ∈ qs, σ[q.1]? = some (some (V.ref q.2)) ∧ ∃ d, ρ[q.1]? = some (.own d)) →
    qs.map (·.2) = os → BackOk c.K G' H' ds os → State c F (putBack (qs.map (·.1)) ds ρ) σ G' H' := by
  intro qs ds hn hq ho hb
  have key : ∀ (qs : List (Nat × Addr)) (ds : List D) (ρ1 : Env), (qs.map (·.1)).Nodup → (∀ q ∈ qs, σ[q.1]? = some (some (V.ref q.2)) ∧ (∃ d, ρ1[q.1]? = some (.own d)) ∧ (¬ F.dom q.2 ∨ (q.1, q.2) ∈ F.io)) → BackOk c.K G' H' ds (qs.map (·.2)) →
      ρ1.length = σ.length → (∀ (i j : Nat) (p : Addr) (d e : D), ρ1[i]? = some (.own d) → ρ1[j]? = some (.own e) → σ[i]? = some (some (.ref p)) → σ[j]? = some (some (.ref p)) → i = j) →
      (∀ (i : Nat) (s : Sl), ρ1[i]? = some s → i ∉ qs.map (·.1) → SlOk c.K G' H' F σ i s) → State c F (putBack (qs.map (·.1)) ds ρ1) σ G' H' := by
    intro qs
    induction qs with
    | nil =>
      intro ds ρ1 _ _ _ hl ha hs
      have e : putBack (([] : List (Nat × Addr)).map (·.1)) ds ρ1 = ρ1 := by cases ds <;> rfl
      rw [e]
      refine ⟨P.sub, fun a u ea => ?_, S.wf, fun a ea => P.dom a (S.dom a ea), P.tab, P.tabG, hl, fun i s ei => hs i s ei (by simp), ha, S.io, S.ios, S.ioD, P.tupG⟩
      obtain ⟨e1, e2⟩ := S.fg a u ea
      refine P.fg a u e1 e2 (fun hm => ?_) (fun ps z => ?_)
      · rw [← ho] at hm
        obtain ⟨q, hqm, eq⟩ := List.mem_map.mp hm
        obtain ⟨s1, d, s2⟩ := hq q hqm
        obtain ⟨p, e3, _, e4⟩ := S.own_at s2
        rw [s1] at e3
        cases e3
        have := S.own_fg e4
        rw [eq] at this
        rw [this] at ea
        cases ea
      · exact (S.wf a u ea).2.2 ps z
    | cons q r ih =>
      intro ds ρ1 hn hq hb hl ha hs
      cases ds with
      | nil => exact (show False from hb).elim
      | cons d ds =>
        obtain ⟨hb1, hb2⟩ := hb
        rw [List.map_cons, List.nodup_cons] at hn
        obtain ⟨h1, ⟨d0, h2⟩, h3⟩ := hq q List.mem_cons_self
        show State c F (putBack (r.map (·.1)) ds (ρ1.set q.1 (.own d))) σ G' H'
        refine ih ds (ρ1.set q.1 (.own d)) hn.2 (fun z hz => ?_) hb2 (by rw [List.length_set]; exact hl) (fun i j p x y e1 e2 e3 e4 => ?_) (fun i s ei hi => ?_)
        · obtain ⟨z1, ⟨dz, z2⟩, z3⟩ := hq z (List.mem_cons_of_mem _ hz)
          have ne : q.1 ≠ z.1 := fun e => hn.1 (by rw [e]; exact List.mem_map.mpr ⟨z, hz, rfl⟩)
          exact ⟨z1, ⟨dz, by rw [List.getElem?_set_ne ne]; exact z2⟩, z3⟩
        · have ex : ∀ (k : Nat) (w : D), (ρ1.set q.1 (.own d))[k]? = some (.own w) → ∃ w', ρ1[k]? = some (.own w') := fun k w ek => by
            rcases get_set ek with ⟨rfl, _⟩ | ⟨_, ek⟩
            · exact ⟨d0, h2⟩
            · exact ⟨w, ek⟩
          obtain ⟨x', ex1⟩ := ex i x e1
          obtain ⟨y', ey1⟩ := ex j y e2
          exact ha i j p x' y' ex1 ey1 e3 e4
        · rcases get_set ei with ⟨rfl, rfl⟩ | ⟨ne, ei⟩
          · exact ⟨q.2, h1, hb1, h3⟩
          · exact hs i s ei (by rw [List.map_cons, List.mem_cons, not_or]; exact ⟨fun e => ne e.symm, hi⟩)
  refine key qs ds ρ hn (fun q hqm => ?_) (by rw [ho]; exact hb) S.len S.apart (fun i s ei hi => ?_)
  · obtain ⟨s1, d, s2⟩ := hq q hqm
    obtain ⟨p, e3, _, e4⟩ := S.own_at s2
    rw [s1] at e3
    cases e3
    exact ⟨s1, ⟨d, s2⟩, e4⟩
  · refine (S.sl i s ei).mono P.gl fun p d es ep ow => ?_
    obtain ⟨hg, o, hoo, hd, _⟩ := ow
    have hno : p ∉ os := fun hm => by
      rw [← ho] at hm
      obtain ⟨q, hqm, eq⟩ := List.mem_map.mp hm
      obtain ⟨s1, d', s2⟩ := hq q hqm
      rw [eq] at s1
      have := S.apart i q.1 p d d' (by rw [ei, es]) s2 ep s1
      exact hi (by rw [this]; exact List.mem_map.mpr ⟨q, hqm, rfl⟩)
    obtain ⟨z1, z2⟩ := P.fg p o hoo (.inl hg) hno hd.notTbl.1
    exact ⟨z2.none hd.notTbl.2, by rw [z1, hoo]⟩
theorem me_call {k : Nat} {f : Addr} {fd : FuncData} {ps : List Str} {x : Str} {p : Pos} {n : Nat} {m : FM} {as : List Arg} (Fn : FnOk X.prog X.w X.K X.mg X.base (L2.CX X.prog X.w) k f fd ps (spM c.K c.T c.mg n m)) (hr : Room k X.A) (tk : Takes X c.W)
    (hg : Gl X x) (hm : X.mg x = some (.ref f)) (hk : PySem.W.keepIn X.K (.ref f) = true) (hb : Binds X.K fd ps []) (ha : PA X (e :: es) (tAs c as)) (hl : as.length = n := by rfl) (hnd : (ioIx as).Nodup := by decide)
    (hdb : (x == ("__debug__" : Str)) = false := by decide) (he : starEach (e :: es) X.env = (false, eval e X.env) :: starEach es X.env := by rfl) (hpl : (backTo pos (starEach es X.env)).any (·.1) = false := by rfl) :
    PE X (.Call (.Name x p) (e :: es) [] pos) (tE c (mCall m as)) := pe_conseq (pe_callS Fn hr hg hm hk hb (fun σ => passAt tk σ) ha hdb he hpl) fun σ H Q ⟨F, ρ, G, S, a⟩ => by
  show tAs c as σ H fun vs H1 => spM c.K c.T c.mg n m vs H1 Q (WE c.W σ)
  rw [tAs_eq]
  refine tOs_ev S ?_
  rw [← eva_eq]
  refine (Ask.then a).imp (GLe.refl G) fun xs ρ1 a1 vs H1 G1 S1 g1 hv => ?_
  cases es : sls as xs ρ1 with
  | none => rw [es] at a1; exact a1.elim
  | some ss =>
    rw [es] at a1
    simp only at a1
    obtain ⟨h1, h2, qs, h3, h4, h5⟩ := sls_args S1 hv es
    have hn : (qs.map (·.1)).Nodup := by rw [h3]; exact hnd
    refine ⟨by rw [h2, hl], G1, ss, S1.sub, S1.tab, S1.tabG, S1.tupG, h1, by rw [← h4]; exact nodup_of hn S1 h5, ?_⟩
    cases em : m ss with
    | ok d back =>
      rw [em] at a1
      simp only at a1 ⊢
      intro v H' G' P r hbk
      have S' := S1.back P qs back hn h5 h4 hbk
      rw [h3] at S'
      exact a1 v H' G' S' (g1.trans P.gl) r
    | ex e =>
      rw [em] at a1
      simp only at a1 ⊢
      by_cases e0 : ioIx as = []
      · rw [if_pos e0] at a1
        intro cls dx H' G' P x
        have q0 : qs = [] := by
          rw [e0] at h3
          exact List.map_eq_nil_iff.mp h3
        have o0 : owns ss vs = [] := by rw [← h4, q0]; rfl
        rw [o0] at P
        have S' := S1.back P [] [] List.nodup_nil (fun _ z => (nomatch z)) rfl trivial
        exact a1 cls dx H' G' S' (g1.trans P.gl) x
      · rw [if_neg e0] at a1
        exact a1.elim
    | stuck => rw [em] at a1; exact False.elim a1
end

set_option autoImplicit true
def Fr.plus (F : Fr) (p : Addr) (o : HO) : Fr := ⟨upd F.fg p o, fun a => F.dom a ∨ a = p, F.io⟩
section
variable {c : Ct} {F : Fr} {ρ : Env} {σ : L2.St} {G H : Hp}
theorem State.plus (S : State c F ρ σ G H) {d : D} {p : Addr} {o : HO} (n : NewAt c F ρ σ G H d p) (ho : H p = some o) : State c (F.plus p o) ρ σ G H := by
  obtain ⟨ow, nd, na⟩ := n
  obtain ⟨hg, o', ho', hd, hm⟩ := id ow
  rw [ho] at ho'
  cases ho'
  refine ⟨S.sub, fun a u e => ?_, fun a u e => ?_, fun a e => ?_, S.tab, S.tabG, S.len, fun i s e => ?_, S.apart, S.io, S.ios, fun q hq => .inl (S.ioD q hq), S.tupG⟩
  · by_cases z : a = p
    · subst z
      have e' : upd F.fg a o a = some u := e
      rw [upd_same] at e'
      cases e'
      exact ⟨ho, .inl hg⟩
    · have e' : upd F.fg p o a = some u := e
      rw [upd_ne z] at e'
      exact S.fg a u e'
  · by_cases z : a = p
    · subst z
      have e' : upd F.fg a o a = some u := e
      rw [upd_same] at e'
      cases e'
      exact ⟨.inr rfl, fun i hi => nd (S.ioD _ hi), hd.notTbl.1⟩
    · have e' : upd F.fg p o a = some u := e
      rw [upd_ne z] at e'
      obtain ⟨h1, h2, h3⟩ := S.wf a u e'
      exact ⟨.inl h1, h2, h3⟩
  · rcases e with e | e
    · exact S.dom a e
    · subst e
      exact ⟨o, ho, hd.notTbl.1⟩
  · cases s with
    | no => trivial
    | fz d => exact S.sl i _ e
    | own d =>
      obtain ⟨q, e1, e2, e3⟩ := S.own_at e
      refine ⟨q, e1, e2, ?_⟩
      rcases e3 with e3 | e3
      · refine .inl fun z => z.elim e3 fun z => ?_
        rw [z] at e1
        exact na i d e e1
      · exact .inr e3
/-- .. and may be let go -/
theorem State.minus {p : Addr} {o : HO} (nd : ¬ F.dom p) (hf : F.fg p = none) (S : State c (F.plus p o) ρ σ G H) : State c F ρ σ G H where
  sub := S.sub
  fg := fun a u e => S.fg a u (by show upd F.fg p o a = some u; rw [upd_ne (ne_of_none e hf)]; exact e)
  wf := fun a u e => by
    obtain ⟨h1, h2, h3⟩ := S.wf a u (by show upd F.fg p o a = some u; rw [upd_ne (ne_of_none e hf)]; exact e)
    refine ⟨h1.elim id fun z => ?_, h2, h3⟩
    rw [z, hf] at e
    cases e
  dom := fun a e => S.dom a (.inl e)
  tab := S.tab
  tabG := S.tabG
  len := S.len
  sl := fun i s e => by
    cases s with
    | no => trivial
    | fz d => exact S.sl i _ e
    | own d =>
      obtain ⟨q, e1, e2, e3⟩ := S.own_at e
      exact ⟨q, e1, e2, e3.imp (fun z y => z (.inl y)) id⟩
  apart := S.apart
  io := S.io
  ios := S.ios
  ioD := fun q hq => (S.ioD q hq).elim id fun z => by
    -- p itself is none of them
    exfalso
    have : (q.1, q.2) ∈ (F.plus p o).io := hq
    have h2 := (S.wf p o (by show upd F.fg p o p = some o; exact upd_same)).2.1 q.1
    rw [← z] at h2
    exact h2 hq
  tupG := S.tupG
/-- what stood beside is a new container still -/
theorem NewAt.still {d : D} {p : Addr} {o : HO} (nd : ¬ F.dom p) (hd : ObjD c.K G d o) (hm : Mut (some o)) (S : State c (F.plus p o) ρ σ G H) : NewAt c F ρ σ G H d p := by
  obtain ⟨h1, h2⟩ := S.fg p o (by show upd F.fg p o p = some o; exact upd_same)
  refine ⟨⟨h2.none hd.notTbl.2, o, h1, hd, hm⟩, nd, fun i e ei es => ?_⟩
  obtain ⟨q, e1, _, e3⟩ := S.own_at ei
  rw [es] at e1
  cases e1
  rcases e3 with e3 | e3
  · exact e3 (.inr rfl)
  · exact (S.wf p o (by show upd F.fg p o p = some o; exact upd_same)).2.1 i e3
theorem NewAt.fgn {d : D} {p : Addr} (S : State c F ρ σ G H) (n : NewAt c F ρ σ G H d p) : F.fg p = none := by
  cases e : F.fg p with
  | none => rfl
  | some u => exact (n.2.1 (S.wf p u e).1).elim
theorem Ask.minus {p : Addr} {o : HO} {α : Type} {k : α → Env → Prop} {r : Rs α} (nd : ¬ F.dom p) (hf : F.fg p = none) (h : Ask c F σ G k r) : Ask c (F.plus p o) σ G k r := by
  cases r with
  | ok a ρ => exact h
  | ex e ρ => exact fun cls dx H' G' S gl x => h cls dx H' G' (S.minus nd hf) gl x
  | stuck => exact h
theorem mem_ios {i : Nat} (S : State c F ρ σ G H) (hi : i ∉ c.ios) : ∀ q ∈ F.io, q.1 ≠ i := fun q hq e => hi (by rw [← S.ios, ← e]; exact List.mem_map.mpr ⟨q, hq, rfl⟩)
theorem State.setFz (S : State c F ρ σ G H) {i : Nat} {d : D} {v : V} (r : Rp c.K G d v) (hi : i ∉ c.ios) : State c F (ρ.set i (.fz d)) (σ.set i (some v)) G H := by
  refine ⟨S.sub, S.fg, S.wf, S.dom, S.tab, S.tabG, by rw [List.length_set, List.length_set]; exact S.len, fun j s e => ?_, fun j k p x y h1 h2 h3 h4 => ?_, fun q hq => ?_, S.ios, S.ioD, S.tupG⟩
  · rcases get_set e with ⟨rfl, rfl⟩ | ⟨ne, e⟩
    · have hl : i < σ.length := by
        have h1 := (List.getElem?_eq_some_iff.mp e).1
        rw [List.length_set, S.len] at h1
        exact h1
      exact ⟨v, by rw [List.getElem?_set_self hl], r⟩
    · have q := S.sl j s e
      cases s with
      | no => trivial
      | fz x =>
        obtain ⟨u, e1, e2⟩ := q
        exact ⟨u, by rw [List.getElem?_set_ne ne]; exact e1, e2⟩
      | own x =>
        obtain ⟨p, e1, e2⟩ := q
        exact ⟨p, by rw [List.getElem?_set_ne ne]; exact e1, e2⟩
  · rcases get_set h1 with ⟨_, z⟩ | ⟨n1, h1⟩
    · cases z
    · rcases get_set h2 with ⟨_, z⟩ | ⟨n2, h2⟩
      · cases z
      · rw [List.getElem?_set_ne n1] at h3
        rw [List.getElem?_set_ne n2] at h4
        exact S.apart j k p x y h1 h2 h3 h4
  · rw [List.getElem?_set_ne (fun e => mem_ios S hi q hq e.symm)]
    exact S.io q hq
theorem State.setOwn (S : State c F ρ σ G H) {i : Nat} {d : D} {p : Addr} (n : NewAt c F ρ σ G H d p) (hi : i ∉ c.ios) : State c F (ρ.set i (.own d)) (σ.set i (some (.ref p))) G H := by
  obtain ⟨ow, nd, na⟩ := n
  refine ⟨S.sub, S.fg, S.wf, S.dom, S.tab, S.tabG, by rw [List.length_set, List.length_set]; exact S.len, fun j s e => ?_, fun j k q x y h1 h2 h3 h4 => ?_, fun q hq => ?_, S.ios, S.ioD, S.tupG⟩
  · rcases get_set e with ⟨rfl, rfl⟩ | ⟨ne, e⟩
    · have hl : i < σ.length := by
        have h1 := (List.getElem?_eq_some_iff.mp e).1
        rw [List.length_set, S.len] at h1
        exact h1
      exact ⟨p, by rw [List.getElem?_set_self hl], ow, .inl nd⟩
    · have q := S.sl j s e
      cases s with
      | no => trivial
      | fz x =>
        obtain ⟨u, e1, e2⟩ := q
        exact ⟨u, by rw [List.getElem?_set_ne ne]; exact e1, e2⟩
      | own x =>
        obtain ⟨p, e1, e2⟩ := q
        exact ⟨p, by rw [List.getElem?_set_ne ne]; exact e1, e2⟩
  · rcases get_set h1 with ⟨rfl, _⟩ | ⟨n1, h1⟩
    · rcases get_set h2 with ⟨rfl, _⟩ | ⟨n2, h2⟩
      · rfl
      · rw [List.getElem?_set_ne n2] at h4
        have hl : i < σ.length := by
          by_cases hl : i < σ.length
          · exact hl
          · rw [List.getElem?_eq_none (by rw [List.length_set]; omega)] at h3
            cases h3
        rw [List.getElem?_set_self hl] at h3
        cases h3
        exact (na k y h2 h4).elim
    · rw [List.getElem?_set_ne n1] at h3
      rcases get_set h2 with ⟨rfl, _⟩ | ⟨n2, h2⟩
      · have hl : i < σ.length := by
          by_cases hl : i < σ.length
          · exact hl
          · rw [List.getElem?_eq_none (by rw [List.length_set]; omega)] at h4
            cases h4
        rw [List.getElem?_set_self hl] at h4
        cases h4
        exact (na j x h1 h3).elim
      · rw [List.getElem?_set_ne n2] at h4
        exact S.apart j k q x y h1 h2 h3 h4
  · rw [List.getElem?_set_ne (fun e => mem_ios S hi q hq e.symm)]
    exact S.io q hq
/-- an owned object changes -/
theorem State.change (S : State c F ρ σ G H) {i : Nat} {d d' : D} {p : Addr} {o : HO} (e : ρ[i]? = some (.own d)) (es : σ[i]? = some (some (.ref p))) (hd : ObjD c.K G d' o) (hm : Mut (some o)) : State c F (ρ.set i (.own d')) σ G (upd H p o) := by
  obtain ⟨p', e1, ow, q⟩ := S.own_at e
  rw [es] at e1
  cases e1
  obtain ⟨hg, o0, ho, hd0, hm0⟩ := id ow
  have nfg := S.own_fg q
  refine ⟨⟨fun a u r => ?_, S.sub.2⟩, fun a u ea => ?_, S.wf, fun a ea => ?_, fun t ht => ?_, S.tabG, by rw [List.length_set]; exact S.len, fun j s ej => ?_, fun j k b x y h1 h2 h3 h4 => ?_, S.io, S.ios, S.ioD, fun q ks eq => ?_⟩
  · have ne : a ≠ p := fun z => by
      rw [z, hg] at r
      cases r
    rcases S.sub.1 a u r with h | ⟨id, ob, h⟩
    · exact .inl (by rw [upd_ne ne]; exact h)
    · exact .inr ⟨id, ob, by rw [upd_ne ne]; exact h⟩
  · obtain ⟨h1, h2⟩ := S.fg a u ea
    exact ⟨by rw [upd_ne (ne_of_none ea nfg)]; exact h1, h2⟩
  · by_cases ne : a = p
    · exact ⟨o, by rw [ne]; exact upd_same, hd.notTbl.1⟩
    · obtain ⟨u, hu, hn⟩ := S.dom a ea
      exact ⟨u, by rw [upd_ne ne]; exact hu, hn⟩
  · obtain ⟨ps, t1, t2, t3⟩ := S.tab t ht
    refine ⟨ps, by rw [upd_ne (S.own_tab ow t ht)]; exact t1, t2, fun pos cv hc => ?_⟩
    obtain ⟨k, k1, k2⟩ := t3 pos cv hc
    have ne : k ≠ p := fun z => by
      rw [z, ho] at k2
      have h := Option.some.inj k2
      unfold CodeO at h
      cases hd0 <;> cases h
    exact ⟨k, k1, by rw [upd_ne ne]; exact k2⟩
  · rcases get_set ej with ⟨rfl, rfl⟩ | ⟨ne, ej⟩
    · exact ⟨p, es, ⟨hg, o, upd_same, hd, hm⟩, q⟩
    · refine (S.sl j s ej).mono (GLe.refl G) fun b x ex eb owb => ?_
      have nb : b ≠ p := fun z => by
        rw [z] at eb
        exact ne (S.apart i j p d x e (by rw [ej, ex]) es eb)
      exact ⟨owb.1, upd_ne nb⟩
  · have ex : ∀ (k : Nat) (w : D), (ρ.set i (.own d'))[k]? = some (.own w) → ∃ w', ρ[k]? = some (.own w') := fun k w ek => by
      rcases get_set ek with ⟨rfl, _⟩ | ⟨_, ek⟩
      · exact ⟨d, e⟩
      · exact ⟨w, ek⟩
    obtain ⟨x', ex1⟩ := ex j x h1
    obtain ⟨y', ey1⟩ := ex k y h2
    exact S.apart j k b x' y' ex1 ey1 h3 h4
  · by_cases z : q = p
    · rw [z, upd_same] at eq
      cases eq
      exact hm.elim
    · rw [upd_ne z] at eq
      exact S.tupG q ks eq
end

set_option autoImplicit true
inductive SR where
  | nx (ρ : Env) | rt (d : D) (ρ : Env) | ex (e : Exn) (ρ : Env) | stuck
abbrev SM := Env → SR
def Rs.sr {α : Type} : Rs α → (α → Env → SR) → SR
  | .ok a ρ, f => f a ρ
  | .ex e ρ, _ => .ex e ρ
  | .stuck, _ => .stuck
def SAsk (c : Ct) (F : Fr) (G : Hp) (D : Ends) : SR → Prop
  | .nx ρ => ∀ σ' H' G', State c F ρ σ' G' H' → GLe G G' → D.nx σ' H'
  | .rt d ρ => ∀ v σ' H' G', State c F ρ σ' G' H' → GLe G G' → Rp c.K G' d v → D.rt v H'
  | .ex e ρ => ∀ cls dx σ' H' G', State c F ρ σ' G' H' → GLe G G' → ExOk c G' e cls dx H' → c.W cls dx σ' H'
  | .stuck => False
def tS (c : Ct) (m : SM) : TS := fun D σ H => ∃ F ρ G, State c F ρ σ G H ∧ SAsk c F G D (m ρ)
theorem SAsk.mono {c : Ct} {F : Fr} {G G1 : Hp} {D : Ends} {r : SR} (g : GLe G G1) (h : SAsk c F G D r) : SAsk c F G1 D r := by
  cases r with
  | nx ρ => exact fun σ' H' G' S gl => h σ' H' G' S (g.trans gl)
  | rt d ρ => exact fun v σ' H' G' S gl => h v σ' H' G' S (g.trans gl)
  | ex e ρ => exact fun cls dx σ' H' G' S gl => h cls dx σ' H' G' S (g.trans gl)
  | stuck => exact h
theorem SAsk.sr {c : Ct} {F : Fr} {σ : L2.St} {G : Hp} {D : Ends} {α : Type} {r : Rs α} {f : α → Env → SR} (h : SAsk c F G D (r.sr f)) : Ask c F σ G (fun a ρ => SAsk c F G D (f a ρ)) r := by
  cases r with
  | ok a ρ => exact h
  | ex e ρ => exact fun cls dx H' G' S gl x => h cls dx σ H' G' S gl x
  | stuck => exact h
section
variable {X : Cx} {c : Ct} {F : Fr} {ρ : Env} {σ : L2.St} {G H : Hp} {e : Expr} {es : List Expr} {pos : Pos} {st : Stmt} {rest : List Stmt}
theorem ps_conseq {t t' : TS} (h : PS X st t) (hi : ∀ D σ H, t' D σ H → t D σ H) : PS X st t' := ⟨fun pins s σ H D I q => h.run pins s σ H D I (hi _ _ _ q)⟩
theorem pss_conseq {t t' : TS} (h : PSs X rest t) (hi : ∀ D σ H, t' D σ H → t D σ H) : PSs X rest t' := ⟨fun pins s σ H D I q => h.run pins s σ H D I (hi _ _ _ q)⟩
def sNil : SM := fun ρ => .nx ρ
def sSeq (a b : SM) : SM := fun ρ => match a ρ with
  | .nx ρ' => b ρ'
  | r => r
theorem ss_nil : PSs X [] (tS c sNil) := pss_conseq pss_nil fun D σ H ⟨F, ρ, G, S, a⟩ => a σ H G S (GLe.refl G)
theorem ss_cons {a b : SM} (h : PS X st (tS c a)) (h2 : PSs X rest (tS c b)) : PSs X (st :: rest) (tS c (sSeq a b)) := pss_conseq (pss_cons h h2) fun D σ H ⟨F, ρ, G, S, q⟩ => by
  refine ⟨F, ρ, G, S, ?_⟩
  unfold sSeq at q
  cases e : a ρ with
  | nx ρ' =>
    rw [e] at q
    exact fun σ' H' G' S' gl => ⟨F, ρ', G', S', SAsk.mono gl q⟩
  | rt d ρ' => rw [e] at q; exact q
  | ex x ρ' => rw [e] at q; exact q
  | stuck => rw [e] at q; exact q
theorem ss_one {a : SM} (h : PS X st (tS c a)) : PSs X [st] (tS c a) := pss_one h
def sRet (m : ME) : SM := fun ρ => (m ρ).sr fun d ρ' => .rt d ρ'
theorem st_ret {m : ME} (h : PE X e (tE c m)) : PS X (.Return (some e) pos) (tS c (sRet m)) := ps_conseq (ps_ret h) fun D σ H ⟨F, ρ, G, S, a⟩ =>
  ⟨F, ρ, G, S, (SAsk.sr a).imp (GLe.refl G) fun d ρ' k v H' G' S' gl r => k v σ H' G' S' gl r⟩
def sDo (m : ME) : SM := fun ρ => (m ρ).sr fun _ ρ' => .nx ρ'
theorem st_expr {m : ME} (h : PE X e (tE c m)) (hs : swapsWith e none pos.line X.env = pure false := by rfl) : PS X (.Expr e pos) (tS c (sDo m)) := ps_conseq (ps_expr h hs) fun D σ H ⟨F, ρ, G, S, a⟩ =>
  ⟨F, ρ, G, S, (SAsk.sr a).imp (GLe.refl G) fun d ρ' k v H' G' S' gl r => k σ H' G' S' gl⟩
def sIf (t : MB) (a b : SM) : SM := fun ρ => (t ρ).sr fun x ρ' => if x = true then a ρ' else b ρ'
theorem st_if {cd : Expr} {a b : List Stmt} {t : MB} {m n : SM} (ht : PT X cd (tT c t)) (ha : PSs X a (tS c m)) (hb : PSs X b (tS c n)) : PS X (.If cd a b pos) (tS c (sIf t m n)) := ps_conseq (ps_if ht ha hb) fun D σ H ⟨F, ρ, G, S, q⟩ =>
  ⟨F, ρ, G, S, (SAsk.sr q).imp (GLe.refl G) fun x ρ' k H' G' S' gl => by
    cases x with
    | true => exact ⟨F, ρ', G', S', SAsk.mono gl k⟩
    | false => exact ⟨F, ρ', G', S', SAsk.mono gl k⟩⟩
def sSet (i : Nat) (m : ME) : SM := fun ρ => (m ρ).sr fun d ρ' => .nx (ρ'.set i (.fz d))
def sOwn (i : Nat) (m : ME) : SM := fun ρ => (m ρ).sr fun d ρ' => .nx (ρ'.set i (.own d))
theorem st_set {i : Nat} {x : Str} {m : ME} {pos' : Pos} (hN : X.N.Nodup) (hi : X.N[i]? = some x) (hx : Loc X.env.scope x) (he : PE X e (tE c m)) (hio : i ∉ c.ios) (hs : swapsWith e (some (.Name x pos')) pos.line X.env = pure false := by rfl)
    (hf : X.fn x = true ∨ X.env.scope.names.lookup x = some .local := by first | exact .inl rfl | exact .inr rfl | assumption) : PS X (.Assign [.Name x pos'] e pos) (tS c (sSet i m)) := ps_conseq (ps_set hN hi hx he hs hf) fun D σ H ⟨F, ρ, G, S, a⟩ =>
  ⟨F, ρ, G, S, (SAsk.sr a).imp (GLe.refl G) fun d ρ' k v H' G' S' gl r => k _ H' G' (S'.setFz r hio) gl⟩
theorem st_own {i : Nat} {x : Str} {m : ME} {pos' : Pos} (hN : X.N.Nodup) (hi : X.N[i]? = some x) (hx : Loc X.env.scope x) (he : PE X e (tF c m)) (hio : i ∉ c.ios) (hs : swapsWith e (some (.Name x pos')) pos.line X.env = pure false := by rfl)
    (hf : X.fn x = true ∨ X.env.scope.names.lookup x = some .local := by first | exact .inl rfl | exact .inr rfl | assumption) : PS X (.Assign [.Name x pos'] e pos) (tS c (sOwn i m)) := ps_conseq (ps_set hN hi hx he hs hf) fun D σ H ⟨F, ρ, G, S, a⟩ =>
  ⟨F, ρ, G, S, (SAsk.sr a).imp (GLe.refl G) fun d ρ' k p H' G' S' gl n => k _ H' G' (S'.setOwn n hio) gl⟩
abbrev TM := D → Env → Rs Unit
/-- the target's slots ts; what it stores is frozen -/
def tG (c : Ct) (ts : List Nat) (tm : TM) : TG := fun v σ H Q => ∃ F ρ G d, State c F ρ σ G H ∧ Rp c.K G d v ∧ match tm d ρ with
  | .ok _ ρ' => ∀ σ' H' G', State c F ρ' σ' G' H' → GLe G G' → σ'.length = σ.length ∧ (∀ i, i ∉ ts → σ'[i]? = σ[i]?) → Q σ' H'
  | .ex e ρ' => ∀ cls dx σ' H' G', State c F ρ' σ' G' H' → GLe G G' → ExOk c G' e cls dx H' → c.W cls dx σ' H'
  | .stuck => False
theorem pg_conseq {tg : Expr} {t t' : TG} (h : PG X tg t) (hi : ∀ v σ H Q, t' v σ H Q → t v σ H Q) : PG X tg t' := ⟨fun pins s σ H v u Q I r q => h.run pins s σ H v u Q I r (hi _ _ _ _ q)⟩
def tmName (i : Nat) : TM := fun d ρ => .ok () (ρ.set i (.fz d))
theorem tg_name {i : Nat} {x : Str} (hN : X.N.Nodup) (hi : X.N[i]? = some x) (hx : Loc X.env.scope x) (hio : i ∉ c.ios) (hf : X.fn x = true ∨ X.env.scope.names.lookup x = some .local := by first | exact .inl rfl | exact .inr rfl | assumption) : PG X (.Name x pos) (tG c [i] (tmName i)) :=
  pg_conseq (pg_name hN hi hx hf) fun v σ H Q ⟨F, ρ, G, d, S, r, k⟩ => k _ H G (S.setFz r hio) (GLe.refl G) ⟨List.length_set, fun j hj => List.getElem?_set_ne (fun e => hj (by simp [e]))⟩
/-- several targets, one behind the other -/
def tmSeq : List TM → List D → Env → Rs Unit
  | [], [], ρ => .ok () ρ
  | t :: ts, d :: ds, ρ => (t d ρ).then fun _ ρ' => tmSeq ts ds ρ'
  | _, _, _ => .stuck
def tGs (c : Ct) : List (List Nat × TM) → TGs
  | [] => gNil
  | t :: ts => gCons (tG c t.1 t.2) (tGs c ts)
theorem gs_nil : PGs X [] (tGs c []) := pgs_nil
theorem gs_cons {tg : Expr} {tgs : List Expr} {ts : List Nat} {tm : TM} {r : List (List Nat × TM)} (h : PG X tg (tG c ts tm)) (hr : PGs X tgs (tGs c r)) (ha : (assignEach (tg :: tgs) X.env).map (·.2) = assign tg X.env :: (assignEach tgs X.env).map (·.2) := by rfl) : PGs X (tg :: tgs) (tGs c ((ts, tm) :: r)) := pgs_cons h hr ha
def tmTup (ts : List (List Nat × TM)) : TM := fun d ρ => match d with
  | .tuple ds => if ds.length = ts.length then tmSeq (ts.map (·.2)) ds ρ else .stuck
  | _ => .stuck
theorem tGs_ev : ∀ {ts : List (List Nat × TM)} {ds : List D} {vs : List V} {ρ : Env} {σ : L2.St} {G H : Hp} {Q : L2.St → Hp → Prop}, State c F ρ σ G H → RpL c.K G ds vs →
    (match tmSeq (ts.map (·.2)) ds ρ with
      | .ok _ ρ' => ∀ σ' H' G', State c F ρ' σ' G' H' → GLe G G' → σ'.length = σ.length ∧ (∀ i, i ∉ (ts.map (·.1)).flatten → σ'[i]? = σ[i]?) → Q σ' H'
      | .ex e ρ' => ∀ cls dx σ' H' G', State c F ρ' σ' G' H' → GLe G G' → ExOk c G' e cls dx H' → c.W cls dx σ' H'
      | .stuck => False) → tGs c ts vs σ H Q
  | [], [], vs, ρ, σ, G, H, Q, S, r, a => ⟨r, a σ H G S (GLe.refl G) ⟨rfl, fun _ _ => rfl⟩⟩
  | [], d :: ds, vs, ρ, σ, G, H, Q, S, r, a => a.elim
  | t :: ts, [], vs, ρ, σ, G, H, Q, S, r, a => a.elim
  | t :: ts, d :: ds, vs, ρ, σ, G, H, Q, S, r, a => by
    obtain ⟨v, us, e, rv, rs⟩ := r
    refine ⟨v, us, e, F, ρ, G, d, S, rv, ?_⟩
    have a' : (match (t.2 d ρ).then fun _ ρ' => tmSeq (ts.map (·.2)) ds ρ' with
      | .ok _ ρ' => ∀ σ' H' G', State c F ρ' σ' G' H' → GLe G G' → σ'.length = σ.length ∧ (∀ i, i ∉ ((t :: ts).map (·.1)).flatten → σ'[i]? = σ[i]?) → Q σ' H'
      | .ex e ρ' => ∀ cls dx σ' H' G', State c F ρ' σ' G' H' → GLe G G' → ExOk c G' e cls dx H' → c.W cls dx σ' H'
      | .stuck => False) := a
    cases ez : t.2 d ρ with
    | stuck => rw [ez] at a'; exact a'
    | ex x ρ1 => rw [ez] at a'; exact a'
    | ok u ρ1 =>
      rw [ez] at a'
      intro σ1 H1 G1 S1 gl hk
      refine tGs_ev S1 (RpL.mono gl _ _ rs) ?_
      have a2 : (match tmSeq (ts.map (·.2)) ds ρ1 with
        | .ok _ ρ' => ∀ σ' H' G', State c F ρ' σ' G' H' → GLe G G' → σ'.length = σ.length ∧ (∀ i, i ∉ ((t :: ts).map (·.1)).flatten → σ'[i]? = σ[i]?) → Q σ' H'
        | .ex e ρ' => ∀ cls dx σ' H' G', State c F ρ' σ' G' H' → GLe G G' → ExOk c G' e cls dx H' → c.W cls dx σ' H'
        | .stuck => False) := a'
      cases ey : tmSeq (ts.map (·.2)) ds ρ1 with
      | stuck => rw [ey] at a2; exact a2
      | ex x ρ2 =>
        rw [ey] at a2
        exact fun cls dx σ' H' G' S' gl' x => a2 cls dx σ' H' G' S' (gl.trans gl') x
      | ok u2 ρ2 =>
        rw [ey] at a2
        refine fun σ' H' G' S' gl' hk' => a2 σ' H' G' S' (gl.trans gl') ⟨hk'.1.trans hk.1, fun i hi => ?_⟩
        rw [List.map_cons, List.flatten_cons, List.mem_append, not_or] at hi
        rw [hk'.2 i hi.2, hk.2 i hi.1]
theorem tg_tup {elts : List Expr} {kk : Nat} {ts : List (List Nat × TM)} (hc : X.calm = true) (h : PGs X elts (tGs c ts)) (hK : X.K = c.K) (hn : (assignEach elts X.env).length = ts.length := by rfl)
    (hst : (assignEach elts X.env).findIdx? (·.1) = none := by rfl) : PG X (.Tuple elts kk pos) (tG c (ts.map (·.1)).flatten (tmTup ts)) :=
  pg_conseq (pg_tup hc h hn hst) fun v σ H Q ⟨F, ρ, G, d, S, r, k⟩ => by
    cases d <;> first | exact k.elim | skip
    rename_i ds
    obtain ⟨a, xs, ev, hq, hr⟩ := r
    unfold tmTup at k
    by_cases hl : ds.length = ts.length
    · simp only [if_pos hl] at k
      exact ⟨a, xs, ev, SqT.of (S.sub.tup hq), by rw [hr.length]; exact hl, tGs_ev S hr k⟩
    · simp only [if_neg hl] at k
end

set_option autoImplicit true
abbrev MI := Env → Rs (List D)
/-- an iterator J gives ds -/
def ItOk (K : PySem.W.Frag) (J : It) (G : Hp) (ds : List D) : Prop := ∀ (i : Nat) (H G' : Hp), GLe G G' → Sub G' H → (∀ d, ds[i]? = some d → J.go i H ∧ ∀ x H', J.yld i H x H' → POut K G' H d x H') ∧ (ds.length = i → J.stop i H)
def tI (c : Ct) (it : MI) : TI := fun σ H R => ∃ F ρ G, State c F ρ σ G H ∧ Ask c F σ G (fun ds ρ' => ∀ J H' G', State c F ρ' σ G' H' → GLe G G' → ItOk c.K J G' ds → R J H') (it ρ)
section
variable {X : Cx} {c : Ct} {F : Fr} {ρ : Env} {σ : L2.St} {G H : Hp} {e tg iter : Expr} {es : List Expr} {pos : Pos} {st : Stmt} {rest body : List Stmt}
theorem pi_conseq {w w' : TI} (h : PI X tg iter w) (hi : ∀ σ H R, w' σ H R → w σ H R) : PI X tg iter w' := ⟨fun pins s σ H R I q => h.run pins s σ H R I (hi _ _ _ q)⟩
theorem pi_either {w w' : TI} (h : PI X tg iter w) (h' : PI X tg iter w') : PI X tg iter (fun σ H R => w σ H R ∨ w' σ H R) := ⟨fun pins s σ H R I q => q.elim (h.run pins s σ H R I) (h'.run pins s σ H R I)⟩
/-- a list's, a tuple's items -/
def iSeq (m : ME) : MI := fun ρ => (m ρ).then fun d ρ' => match d with
  | .list ds => .ok ds ρ'
  | .tuple ds => .ok ds ρ'
  | .dict [(.none, .tuple ds)] => .ok ds ρ'
  | _ => .stuck
theorem it_tupF {K : PySem.W.Frag} {a : Addr} {xs : List V} {ds : List D} {o : Obj} (h : G a = some (.frz o (.tup xs))) (r : RpL K G ds xs) : ItOk K (Itt K a) G ds := fun i H G' gl sb => by
  have h' : SqT K H a xs := .inl (.inr ⟨o, sb.frz (gl _ _ h)⟩)
  refine ⟨fun d e => ?_, fun e => ⟨xs, h', by rw [r.length]; exact Nat.le_of_eq e⟩⟩
  obtain ⟨v, e1, e2⟩ := r.get e
  refine ⟨⟨xs, v, h', e1⟩, fun x H' y => .inl ⟨y.1, ?_⟩⟩
  have e3 := y.2 xs h'
  rw [e1] at e3
  cases e3
  exact Rp.mono gl d _ e2
theorem it_list {K : PySem.W.Frag} {a : Addr} {xs : List V} {ds : List D} (h : G a = some (.lst xs)) (r : RpL K G ds xs) : ItOk K (Itl K a) G ds := fun i H G' gl sb => by
  have h' : SqL K H a xs := .of (sb.lst (gl _ _ h))
  refine ⟨fun d e => ?_, fun e => ⟨xs, h', by rw [r.length]; exact Nat.le_of_eq e⟩⟩
  obtain ⟨v, e1, e2⟩ := r.get e
  refine ⟨⟨xs, v, h', e1⟩, fun x H' y => .inl ⟨y.1, ?_⟩⟩
  have e3 := y.2 xs h'
  rw [e1] at e3
  cases e3
  exact Rp.mono gl d _ e2
theorem it_tup {K : PySem.W.Frag} {a : Addr} {xs : List V} {ds : List D} (h : G a = some (.tup xs)) (r : RpL K G ds xs) : ItOk K (Itt K a) G ds := fun i H G' gl sb => by
  have h' : SqT K H a xs := .of (sb.tup (gl _ _ h))
  refine ⟨fun d e => ?_, fun e => ⟨xs, h', by rw [r.length]; exact Nat.le_of_eq e⟩⟩
  obtain ⟨v, e1, e2⟩ := r.get e
  refine ⟨⟨xs, v, h', e1⟩, fun x H' y => .inl ⟨y.1, ?_⟩⟩
  have e3 := y.2 xs h'
  rw [e1] at e3
  cases e3
  exact Rp.mono gl d _ e2
theorem mi_seq {m : ME} (hK : X.K = c.K) (h : PE X iter (tE c m)) : PI X tg iter (tI c (iSeq m)) := pi_conseq (pi_either (pi_list h) (pi_tup h)) fun σ H R ⟨F, ρ, G, S, a⟩ => by
  have a1 := Ask.then a
  cases em : m ρ with
  | stuck => rw [em] at a1; exact a1.elim
  | ex x ρ' => exact .inl ⟨F, ρ, G, S, by rw [em] at a1 ⊢; exact a1⟩
  | ok d ρ' =>
    rw [em] at a1
    cases d <;> first | exact False.elim a1 | skip
    · refine .inl ⟨F, ρ, G, S, ?_⟩
      rw [em]
      intro v H' G' S' gl r
      obtain ⟨b, xs, e, hq, hr⟩ := r
      exact ⟨b, e, ⟨xs, .of (S'.sub.lst hq)⟩, by rw [hK]; exact a1 _ H' G' S' gl (it_list hq hr)⟩
    · refine .inr ⟨F, ρ, G, S, ?_⟩
      rw [em]
      intro v H' G' S' gl r
      obtain ⟨b, xs, e, hq, hr⟩ := r
      exact ⟨b, e, ⟨xs, .of (S'.sub.tup hq)⟩, by rw [hK]; exact a1 _ H' G' S' gl (it_tup hq hr)⟩
    · rename_i kvs
      rcases kvs with _ | ⟨⟨k, d⟩, _ | ⟨_, _⟩⟩
      · exact False.elim a1
      · cases k <;> first | exact False.elim a1 | skip
        cases d <;> first | exact False.elim a1 | skip
        refine .inr ⟨F, ρ, G, S, ?_⟩
        rw [em]
        intro v H' G' S' gl r
        obtain ⟨ns, o, b, ed, e, hq, _⟩ := Rp.fl r
        subst ed
        exact ⟨b, e, ⟨_, .inl (.inr ⟨o, S'.sub.frz hq⟩)⟩, by rw [hK]; exact a1 _ H' G' S' gl (it_tupF hq (RpL.of_int ns))⟩
      · cases k <;> first | exact False.elim a1 | skip
        cases d <;> exact False.elim a1
/-- ranges -/
def up (lo : Int) : Nat → List D
  | 0 => []
  | n + 1 => .int lo :: up (lo + 1) n
theorem up_len : ∀ (n : Nat) (lo : Int), (up lo n).length = n
  | 0, _ => rfl
  | n + 1, lo => by show (up (lo + 1) n).length + 1 = _; rw [up_len n]
theorem up_get : ∀ (n : Nat) (lo : Int) (i : Nat) (d : D), (up lo n)[i]? = some d → i < n ∧ d = .int (lo + i)
  | 0, _, _, _, h => by simp [up] at h
  | n + 1, lo, 0, d, h => by
    have h' : PyData.int lo = d := Option.some.inj h
    exact ⟨by omega, by rw [← h']; simp⟩
  | n + 1, lo, i + 1, d, h => by
    obtain ⟨h1, h2⟩ := up_get n (lo + 1) i d h
    refine ⟨by omega, ?_⟩
    rw [h2]
    congr 1
    omega
theorem it_up {K : PySem.W.Frag} (lo : Int) (n : Nat) : ItOk K (Itr lo n) G (up lo n) := fun i H G' gl sb => by
  refine ⟨fun d e => ?_, fun e => by rw [up_len] at e; exact Nat.le_of_eq e⟩
  obtain ⟨h1, h2⟩ := up_get n lo i d e
  refine ⟨h1, fun x H' y => .inl ⟨y.1, ?_⟩⟩
  rw [h2, y.2]
  exact rfl
def iRng (f : List D → Option (Int × Int)) (os : List Opd) : MI := fun ρ => (evo os ρ).then fun xs ρ' => match (fino os xs ρ').bind f with
  | some (i, j) => if -(2 ^ 62) ≤ i ∧ i < 2 ^ 62 ∧ -(2 ^ 62) ≤ j ∧ j < 2 ^ 62 then .ok (up i (j - i).toNat) ρ' else .stuck
  | none => .stuck
def fR1 : List D → Option (Int × Int)
  | [.int j] => some (0, j)
  | _ => none
def fR2 : List D → Option (Int × Int)
  | [.int i, .int j] => some (i, j)
  | _ => none
theorem Vw.int {K : PySem.W.Frag} {i : Int} {v : V} (h : Vw K G H (.int i) v) : v = .int i := by
  rcases h with h | ⟨p, _, _, o, _, hd, _⟩
  · exact h
  · cases hd
theorem Vw.bl {K : PySem.W.Frag} {b : Bool} {v : V} (h : Vw K G H (.bool b) v) : v = .bl b := by
  rcases h with h | ⟨p, _, _, o, _, hd, _⟩
  · exact h
  · cases hd
theorem Vw.str {K : PySem.W.Frag} {b : Str} {v : V} (h : Vw K G H (.str b) v) : v = .str b := by
  rcases h with h | ⟨p, _, _, o, _, hd, _⟩
  · exact h
  · cases hd
theorem Vw.non {K : PySem.W.Frag} {v : V} (h : Vw K G H .none v) : v = .non := by
  rcases h with h | ⟨p, _, _, o, _, hd, _⟩
  · exact h
  · cases hd
theorem tOs_rng {os : List Opd} {f : List D → Option (Int × Int)} {R : List V → Hp → Prop} {k : List D → Env → Prop} (S : State c F ρ σ G H) (a : Ask c F σ G k (iRng f os ρ))
    (hR : ∀ (ρ2 : Env) (G2 H2 : Hp) (xs : List V) (ds : List D) (i j : Int), State c F ρ2 σ G2 H2 → GLe G G2 → VwL c.K G2 H2 ds xs → f ds = some (i, j) → (-(2 ^ 62) ≤ i ∧ i < 2 ^ 62 ∧ -(2 ^ 62) ≤ j ∧ j < 2 ^ 62) → k (up i (j - i).toNat) ρ2 → R xs H2) : tOs c os σ H R := by
  refine tOs_ev S ((Ask.then a).imp (GLe.refl G) fun xs ρ2 a1 vs H2 G2 S2 g2 r2 => ?_)
  cases e1 : fino os xs ρ2 with
  | none => rw [e1] at a1; exact a1.elim
  | some ds =>
    rw [e1] at a1
    cases e2 : f ds with
    | none => simp only [Option.bind_some, e2] at a1; exact a1.elim
    | some q =>
      obtain ⟨i, j⟩ := q
      simp only [Option.bind_some, e2] at a1
      by_cases hb : -(2 ^ 62) ≤ i ∧ i < 2 ^ 62 ∧ -(2 ^ 62) ≤ j ∧ j < 2 ^ 62
      · rw [if_pos hb] at a1
        exact hR ρ2 G2 H2 vs ds i j S2 g2 (r2.vw S2 e1) e2 hb a1
      · rw [if_neg hb] at a1
        exact a1.elim
variable {a b : Expr} {p : Pos}
theorem mi_rng1 {o : Opd} (hg : Gl X "range") (hm : X.mg "range" = none) (ha : PA X [a] (tOs c [o])) (hs : starEach [a] X.env = [(false, eval a X.env)] := by rfl) : PI X tg (.Call (.Name "range" p) [a] [] pos) (tI c (iRng fR1 [o])) :=
  pi_conseq (pi_range1 hg hm ha hs) fun σ H R ⟨F, ρ, G, S, q⟩ => by
    refine tOs_rng S q fun ρ2 G2 H2 xs ds i j S2 gl vw ef hb k => ?_
    match ds, ef with
    | [.int z], ef =>
      cases ef
      match xs, vw with
      | [x], vw =>
        have ex := Vw.int vw.1
        subst ex
        exact ⟨j, rfl, hb.2.2.1, hb.2.2.2, by
          have := k (Itr 0 j.toNat) H2 G2 S2 gl
          rw [Int.sub_zero] at this
          exact this (it_up 0 j.toNat)⟩
theorem mi_rng2 {o1 o2 : Opd} (hg : Gl X "range") (hm : X.mg "range" = none) (ha : PA X [a, b] (tOs c [o1, o2])) (hs : starEach [a, b] X.env = [(false, eval a X.env), (false, eval b X.env)] := by rfl) (hs2 : starEach [b] X.env = [(false, eval b X.env)] := by rfl) : PI X tg (.Call (.Name "range" p) [a, b] [] pos) (tI c (iRng fR2 [o1, o2])) :=
  pi_conseq (pi_range2 hg hm ha hs hs2) fun σ H R ⟨F, ρ, G, S, q⟩ => by
    refine tOs_rng S q fun ρ2 G2 H2 xs ds i j S2 gl vw ef hb k => ?_
    match ds, ef with
    | [.int z, .int y], ef =>
      cases ef
      match xs, vw with
      | [x, u], vw =>
        have ex := Vw.int vw.1
        have eu := Vw.int vw.2.1
        subst ex
        subst eu
        exact ⟨i, j, rfl, hb, k _ H2 G2 S2 gl (it_up i _)⟩
def forM (tm : TM) (b : SM) : List D → SM
  | [], ρ => .nx ρ
  | d :: ds, ρ => (tm d ρ).sr fun _ ρ1 => match b ρ1 with
    | .nx ρ2 => forM tm b ds ρ2
    | r => r
def sFor (it : MI) (tm : TM) (b : SM) : SM := fun ρ => (it ρ).sr fun ds ρ' => forM tm b ds ρ'
theorem drop_at {α : Type} {l : List α} {i : Nat} (h : i < l.length) : ∃ d, l[i]? = some d ∧ l.drop i = d :: l.drop (i + 1) := ⟨l[i], List.getElem?_eq_getElem h, by rw [← List.getElem_cons_drop]⟩
theorem st_for {it : MI} {ts : List Nat} {tm : TM} {b : SM} (hp : PassesOwn (model X.prog X.w) X.A X.env X.xe) (hc : X.calm = true) (hK : X.K = c.K) (hi : PI X tg iter (tI c it)) (hg : PG X tg (tG c ts tm)) (hb : PSs X body (tS c b))
    (hs : ∀ x, foldedSetIterable iter X.env x = pure x := by intro _; rfl) : PS X (.For tg iter body [] pos) (tS c (sFor it tm b)) := ps_conseq (ps_for hp hc hi hg hb hs) fun D σ H ⟨F, ρ, G, S, a⟩ => by
  refine ⟨F, ρ, G, S, (SAsk.sr a).imp (GLe.refl G) fun ds ρ1 k J H1 G1 S1 gl1 ito => ?_⟩
  refine ⟨fun i m σ H => m = ds.length - i ∧ i ≤ ds.length ∧ ∃ ρ G, State c F ρ σ G H ∧ GLe G1 G ∧ SAsk c F G D (forM tm b (ds.drop i) ρ), ⟨ds.length, rfl, Nat.zero_le _, ρ1, G1, S1, GLe.refl _, SAsk.mono gl1 k⟩, ?_⟩
  rintro i m σ2 H2 ⟨rfl, hile, ρ2, G2, S2, gl2, a2⟩
  obtain ⟨h1, h2⟩ := ito i H2 G2 gl2 S2.sub
  by_cases hlt : i < ds.length
  · obtain ⟨d, ed, edr⟩ := drop_at hlt
    rw [edr] at a2
    obtain ⟨hgo, hy⟩ := h1 d ed
    refine .inr ⟨hgo, fun σ' H' => ∃ ρ' G', State c F ρ' σ' G' H' ∧ GLe G1 G' ∧ SAsk c F G' D (forM tm b (ds.drop (i + 1)) ρ'), fun σ' H' ⟨ρ', G', S', gl', a'⟩ => ⟨ds.length - (i + 1), by omega, rfl, hlt, ρ', G', S', gl', a'⟩, fun x H' y => ?_⟩
    obtain ⟨G3, S3, gl3, r3⟩ := (hy x H' y).state S2
    refine ⟨F, ρ2, G3, d, S3, r3, ?_⟩
    have a3 : SAsk c F G2 D ((tm d ρ2).sr fun _ ρ1 => match b ρ1 with
      | .nx ρ2 => forM tm b (ds.drop (i + 1)) ρ2
      | r => r) := a2
    cases et : tm d ρ2 with
    | stuck => rw [et] at a3; exact a3
    | ex e ρ' =>
      rw [et] at a3
      exact fun cls dx σ' H' G' S' gl x => a3 cls dx σ' H' G' S' (gl3.trans gl) x
    | ok u ρ' =>
      rw [et] at a3
      intro σ' H4 G4 S4 gl4 _
      refine ⟨F, ρ', G4, S4, ?_⟩
      have a4 : SAsk c F G2 D (match b ρ' with
        | .nx ρ2 => forM tm b (ds.drop (i + 1)) ρ2
        | r => r) := a3
      have g34 := gl3.trans gl4
      cases eb : b ρ' with
      | nx ρ5 =>
        rw [eb] at a4
        exact fun σ5 H5 G5 S5 gl5 => ⟨ρ5, G5, S5, gl2.trans (g34.trans gl5), SAsk.mono (g34.trans gl5) a4⟩
      | rt d' ρ5 =>
        rw [eb] at a4
        exact fun v σ5 H5 G5 S5 gl5 r => a4 v σ5 H5 G5 S5 (g34.trans gl5) r
      | ex e ρ5 =>
        rw [eb] at a4
        exact fun cls dx σ5 H5 G5 S5 gl5 x => a4 cls dx σ5 H5 G5 S5 (g34.trans gl5) x
      | stuck => rw [eb] at a4; exact a4
  · have e : i = ds.length := by omega
    subst e
    rw [List.drop_length] at a2
    exact .inl ⟨h2 rfl, a2 σ2 H2 G2 S2 (GLe.refl _)⟩
end

set_option autoImplicit true
def wipeE : Env → List Nat → Env
  | ρ, [] => ρ
  | ρ, v :: vs => (wipeE ρ vs).set v .no
def Sl.keep : Option Sl → Sl
  | some (.fz d) => .fz d
  | _ => .no
/-- behind a block: its own names are as they were ahead of it, if frozen -/
def unwipe (ρ0 : Env) : Env → List Nat → Env
  | ρ, [] => ρ
  | ρ, v :: vs => (unwipe ρ0 ρ vs).set v (Sl.keep ρ0[v]?)
abbrev Ct.nox (c : Ct) : Ct := { c with W := fun _ _ _ _ => False }
section
variable {X : Cx} {c : Ct} {F : Fr} {ρ ρ0 : Env} {σ : L2.St} {G G0 H H0 : Hp}
theorem State.nox (S : State c F ρ σ G H) : State c.nox F ρ σ G H := ⟨S.sub, S.fg, S.wf, S.dom, S.tab, S.tabG, S.len, S.sl, S.apart, S.io, S.ios, S.ioD, S.tupG⟩
theorem State.yesx (S : State c.nox F ρ σ G H) : State c F ρ σ G H := ⟨S.sub, S.fg, S.wf, S.dom, S.tab, S.tabG, S.len, S.sl, S.apart, S.io, S.ios, S.ioD, S.tupG⟩
theorem wipeE_length (ρ : Env) : ∀ vs : List Nat, (wipeE ρ vs).length = ρ.length
  | [] => rfl
  | v :: vs => by unfold wipeE; rw [List.length_set, wipeE_length ρ vs]
theorem wipeE_get {i : Nat} {s : Sl} : ∀ {vs : List Nat}, (wipeE ρ vs)[i]? = some s → (i ∈ vs ∧ s = .no) ∨ (i ∉ vs ∧ ρ[i]? = some s)
  | [], h => .inr ⟨by simp, h⟩
  | v :: vs, h => by
    unfold wipeE at h
    rcases get_set h with ⟨rfl, rfl⟩ | ⟨ne, h⟩
    · exact .inl ⟨List.mem_cons_self, rfl⟩
    · rcases wipeE_get h with ⟨h1, h2⟩ | ⟨h1, h2⟩
      · exact .inl ⟨List.mem_cons_of_mem _ h1, h2⟩
      · exact .inr ⟨fun z => (List.mem_cons.mp z).elim (fun e => ne e.symm) h1, h2⟩
theorem wipe_get {i : Nat} : ∀ {vs : List Nat}, i ∉ vs → (wipe σ vs)[i]? = σ[i]?
  | [], _ => rfl
  | v :: vs, h => by
    unfold wipe
    rw [List.getElem?_set_ne (fun e => h (by rw [e]; exact List.mem_cons_self))]
    exact wipe_get (fun z => h (List.mem_cons_of_mem _ z))
theorem wipe_in {i : Nat} : ∀ {vs : List Nat}, i ∈ vs → i < σ.length → (wipe σ vs)[i]? = some none
  | v :: vs, h, hl => by
    unfold wipe
    by_cases e : v = i
    · rw [e, List.getElem?_set_self (by rw [wipe_length]; exact hl)]
    · rw [List.getElem?_set_ne e]
      exact wipe_in ((List.mem_cons.mp h).resolve_left (fun z => e z.symm)) hl
theorem wipe_eq {σ σ2 : L2.St} {vs : List Nat} (hl : σ2.length = (wipe σ vs).length) (h : ∀ i, i ∉ vs → σ2[i]? = (wipe σ vs)[i]?) : wipe σ2 vs = wipe σ vs := by
  have hl2 : σ2.length = σ.length := by rw [hl, wipe_length]
  refine List.ext_getElem? fun i => ?_
  by_cases hi : i ∈ vs
  · by_cases hb : i < σ.length
    · rw [wipe_in hi hb, wipe_in hi (by rw [hl2]; exact hb)]
    · rw [List.getElem?_eq_none (by rw [wipe_length]; omega), List.getElem?_eq_none (by rw [wipe_length]; omega)]
  · rw [wipe_get hi, h i hi]
theorem State.wipe (S : State c F ρ σ G H) {vs : List Nat} (hv : ∀ v ∈ vs, v ∉ c.ios) : State c F (wipeE ρ vs) (L2.wipe σ vs) G H := by
  refine ⟨S.sub, S.fg, S.wf, S.dom, S.tab, S.tabG, by rw [wipeE_length, wipe_length]; exact S.len, fun i s e => ?_, fun i j p d e h1 h2 h3 h4 => ?_, fun q hq => ?_, S.ios, S.ioD, S.tupG⟩
  · rcases wipeE_get e with ⟨_, e⟩ | ⟨hi, e⟩
    · subst e
      trivial
    · have q := S.sl i s e
      cases s with
      | no => trivial
      | fz d =>
        obtain ⟨v, e1, e2⟩ := q
        exact ⟨v, by rw [wipe_get hi]; exact e1, e2⟩
      | own d =>
        obtain ⟨p, e1, e2⟩ := q
        exact ⟨p, by rw [wipe_get hi]; exact e1, e2⟩
  · rcases wipeE_get h1 with ⟨_, z⟩ | ⟨hi, h1⟩
    · cases z
    · rcases wipeE_get h2 with ⟨_, z⟩ | ⟨hj, h2⟩
      · cases z
      · rw [wipe_get hi] at h3
        rw [wipe_get hj] at h4
        exact S.apart i j p d e h1 h2 h3 h4
  · rw [wipe_get fun z => hv _ z (by rw [← S.ios]; exact List.mem_map.mpr ⟨q, hq, rfl⟩)]
    exact S.io q hq
theorem unwipe_length (ρ0 ρ : Env) : ∀ vs : List Nat, (unwipe ρ0 ρ vs).length = ρ.length
  | [] => rfl
  | v :: vs => by unfold unwipe; rw [List.length_set, unwipe_length ρ0 ρ vs]
theorem unwipe_get {i : Nat} {s : Sl} : ∀ {vs : List Nat}, (unwipe ρ0 ρ vs)[i]? = some s → (i ∈ vs ∧ s = Sl.keep ρ0[i]?) ∨ (i ∉ vs ∧ ρ[i]? = some s)
  | [], h => .inr ⟨by simp, h⟩
  | v :: vs, h => by
    unfold unwipe at h
    rcases get_set h with ⟨rfl, rfl⟩ | ⟨ne, h⟩
    · exact .inl ⟨List.mem_cons_self, rfl⟩
    · rcases unwipe_get h with ⟨h1, h2⟩ | ⟨h1, h2⟩
      · exact .inl ⟨List.mem_cons_of_mem _ h1, h2⟩
      · exact .inr ⟨fun z => (List.mem_cons.mp z).elim (fun e => ne e.symm) h1, h2⟩
theorem keep_own {x : Option Sl} {d : D} : Sl.keep x ≠ .own d := by
  cases x with
  | none => exact fun z => nomatch z
  | some s => cases s <;> exact fun z => nomatch z
theorem State.unwipe {F0 : Fr} (S0 : State c F0 ρ0 σ G0 H0) {vs : List Nat} (S : State c F ρ (L2.wipe σ vs) G H) (gl : GLe G0 G) (hv : ∀ v ∈ vs, v ∉ c.ios) (hF : F.io = F0.io := by rfl) : State c F (unwipe ρ0 ρ vs) σ G H := by
  refine ⟨S.sub, S.fg, S.wf, S.dom, S.tab, S.tabG, by rw [unwipe_length, S.len, wipe_length], fun i s e => ?_, fun i j p d e h1 h2 h3 h4 => ?_, fun q hq => S0.io q (by rw [← hF]; exact hq), S.ios, S.ioD, S.tupG⟩
  · rcases unwipe_get e with ⟨hi, e⟩ | ⟨hi, e⟩
    · subst e
      cases q : ρ0[i]? with
      | none => trivial
      | some s =>
        cases s with
        | no => trivial
        | own d => trivial
        | fz d =>
          obtain ⟨v, e1, e2⟩ := S0.sl i _ q
          exact ⟨v, e1, Rp.mono gl d v e2⟩
    · have q := S.sl i s e
      cases s with
      | no => trivial
      | fz d =>
        obtain ⟨v, e1, e2⟩ := q
        exact ⟨v, by rw [← wipe_get hi]; exact e1, e2⟩
      | own d =>
        obtain ⟨p, e1, e2⟩ := q
        exact ⟨p, by rw [← wipe_get hi]; exact e1, e2⟩
  · rcases unwipe_get h1 with ⟨_, z⟩ | ⟨hi, h1⟩
    · exact (keep_own z.symm).elim
    · rcases unwipe_get h2 with ⟨_, z⟩ | ⟨hj, h2⟩
      · exact (keep_own z.symm).elim
      · rw [← wipe_get hi] at h3
        rw [← wipe_get hj] at h4
        exact S.apart i j p d e h1 h2 h3 h4
/-- the thing that stands beside is another one now -/
theorem State.rePlus {p : Addr} {o o' : HO} (hm : Mut (some o)) (hm' : Mut (some o')) (ht : ∀ ps, o' ≠ .tbl ps) (hcd : ∀ k q, o ≠ CodeO k q) (S : State c (F.plus p o) ρ σ G H) : State c (F.plus p o') ρ σ G (upd H p o') := by
  have fgp : (F.plus p o).fg p = some o := by show upd F.fg p o p = some o; exact upd_same
  obtain ⟨h1, h2⟩ := S.fg p o fgp
  have h2 : G p = none := h2.none fun q w e => by rw [e] at hm; exact hm
  have fgo : ∀ {a : Addr} {u : HO}, a ≠ p → (F.plus p o').fg a = some u → (F.plus p o).fg a = some u := fun {a u} ne e => by
    have e' : upd F.fg p o' a = some u := e
    show upd F.fg p o a = some u
    rw [upd_ne ne] at e' ⊢
    exact e'
  refine ⟨⟨fun a u r => ?_, S.sub.2⟩, fun a u e => ?_, fun a u e => ?_, fun a e => ?_, fun t ht' => ?_, S.tabG, S.len, fun i s e => ?_, S.apart, S.io, S.ios, S.ioD, fun q ks e => ?_⟩
  · have ne : a ≠ p := fun z => by
      rw [z, h2] at r
      cases r
    rcases S.sub.1 a u r with h | ⟨id, ob, h⟩
    · exact .inl (by rw [upd_ne ne]; exact h)
    · exact .inr ⟨id, ob, by rw [upd_ne ne]; exact h⟩
  · by_cases z : a = p
    · subst z
      have e' : upd F.fg a o' a = some u := e
      rw [upd_same] at e'
      cases e'
      exact ⟨upd_same, .inl h2⟩
    · rw [upd_ne z]
      exact S.fg a u (fgo z e)
  · by_cases z : a = p
    · subst z
      have e' : upd F.fg a o' a = some u := e
      rw [upd_same] at e'
      cases e'
      exact ⟨.inr rfl, (S.wf a o fgp).2.1, ht⟩
    · exact S.wf a u (fgo z e)
  · by_cases ne : a = p
    · exact ⟨o', by rw [ne]; exact upd_same, ht⟩
    · obtain ⟨u, hu, hn⟩ := S.dom a e
      exact ⟨u, by rw [upd_ne ne]; exact hu, hn⟩
  · obtain ⟨ps, t1, t2, t3⟩ := S.tab t ht'
    have n1 : t.1 ≠ p := fun z => by
      rw [z, h1] at t1
      have q := Option.some.inj t1
      rw [q] at hm
      exact hm
    refine ⟨ps, by rw [upd_ne n1]; exact t1, t2, fun pos cv hc => ?_⟩
    obtain ⟨k, k1, k2⟩ := t3 pos cv hc
    refine ⟨k, k1, ?_⟩
    rw [upd_ne fun z => ?_]
    · exact k2
    · rw [z, h1] at k2
      exact hcd _ _ (Option.some.inj k2)
  · refine (S.sl i s e).mono (GLe.refl G) fun b x ex eb owb => ?_
    have nb : b ≠ p := fun z => by
      obtain ⟨q, e1, _, e3⟩ := S.own_at (by rw [e, ex])
      rw [eb] at e1
      cases e1
      rcases e3 with e3 | e3
      · exact e3 (.inr z)
      · rw [z] at e3
        exact (S.wf p o fgp).2.1 i e3
    exact ⟨owb.1, upd_ne nb⟩
  · by_cases z : q = p
    · rw [z, upd_same] at e
      cases e
      exact hm'.elim
    · rw [upd_ne z] at e
      exact S.tupG q ks e
end
def compM (tm : TM) (cd : MB) (elt : ME) (vs : List Nat) : List D → List D → Env → Rs (List D)
  | [], acc, ρ => .ok acc ρ
  | d :: ds, acc, ρ => (tm d ρ).then fun _ ρ1 => (cd ρ1).then fun b ρ2 => if b = true then (elt ρ2).then fun y ρ3 => compM tm cd elt vs ds (acc ++ [y]) (wipeE ρ3 vs) else compM tm cd elt vs ds acc (wipeE ρ2 vs)
def mComp (it : MI) (tm : TM) (cd : MB) (elt : ME) (vs : List Nat) : ME := fun ρ => (it ρ).then fun ds ρ1 => if ds.length ≤ sizeLine then (match compM tm cd elt vs ds [] (wipeE ρ1 vs) with
  | .ok ys ρ2 => .ok (.list ys) (unwipe ρ1 ρ2 vs)
  | _ => .stuck) else .stuck
def bYes : MB := fun ρ => .ok true ρ
section
variable {X : Cx} {c : Ct} {F : Fr} {ρ : Env} {σ : L2.St} {G H : Hp} {elt tg iter : Expr} {ifs : List Expr} {scope : Scope} {own : List (Str × Nat)} {pos : Pos} {it : MI} {ts : List Nat} {tm : TM} {cd : MB} {m : ME}
theorem tLc_f (hv : ∀ v ∈ own.map (·.2), v ∉ c.ios) (hts : ∀ v ∈ ts, v ∈ own.map (·.2)) {Q : VK} (h : tF c (mComp it tm cd m (own.map (·.2))) σ H Q) : tLc (tI c it) (tG c.nox ts tm) (tT c.nox cd) (tE c.nox m) (own.map (·.2)) σ H Q := by
  generalize own.map (·.2) = vs at *
  obtain ⟨F, ρ, G, S, a⟩ := h
  refine ⟨F, ρ, G, S, (Ask.then a).imp (GLe.refl G) fun ds ρ1 k J H1 G1 S1 gl1 ito D hD => ?_⟩
  by_cases hz : ds.length ≤ sizeLine
  · simp only [if_pos hz] at k
    cases er : compM tm cd m vs ds [] (wipeE ρ1 vs) with
    | stuck => rw [er] at k; exact False.elim k
    | ex e ρ' => rw [er] at k; exact False.elim k
    | ok ys ρe =>
      rw [er] at k
      simp only at k
      have n0 : NewAt c F ρ1 σ G1 (upd H1 D (.lst [])) (.list []) D := NewAt.of S1 hD (.lst rfl) trivial
      have S1' := S1.alloc (o := .lst []) hD trivial
      have nd := n0.2.1
      have fgn := NewAt.fgn S1' n0
      refine ⟨fun i m' H => m' = ds.length - i ∧ i ≤ ds.length ∧ ∃ ρ G acc xs, State c.nox (F.plus D (.lst xs)) ρ (wipe σ vs) G H ∧ GLe G1 G ∧ RpL c.K G acc xs ∧ acc.length ≤ i ∧ compM tm cd m vs (ds.drop i) acc ρ = .ok ys ρe,
        ⟨ds.length, rfl, Nat.zero_le _, wipeE ρ1 vs, G1, [], [], ((S1'.plus n0 upd_same).wipe hv).nox, GLe.refl _, rfl, Nat.le_refl _, er⟩, ?_⟩
      rintro i m' H2 ⟨rfl, hile, ρ2, G2, acc, xs, S2, gl2, racc, hacc, er2⟩
      obtain ⟨h1, h2⟩ := ito i H2 G2 gl2 S2.sub
      by_cases hlt : i < ds.length
      · obtain ⟨d, ed, edr⟩ := drop_at hlt
        rw [edr] at er2
        obtain ⟨hgo, hy⟩ := h1 d ed
        refine .inr ⟨hgo, fun H => ∃ ρ G acc xs, State c.nox (F.plus D (.lst xs)) ρ (wipe σ vs) G H ∧ GLe G1 G ∧ RpL c.K G acc xs ∧ acc.length ≤ i + 1 ∧ compM tm cd m vs (ds.drop (i + 1)) acc ρ = .ok ys ρe,
          fun H' ⟨ρ', G', acc', xs', q1, q2, q3, q4, q5⟩ => ⟨ds.length - (i + 1), by omega, rfl, hlt, ρ', G', acc', xs', q1, q2, q3, q4, q5⟩, fun x H' y => ?_⟩
        obtain ⟨G3, S3, gl3, r3⟩ := (hy x H' y).state S2
        have e3 : (tm d ρ2).then (fun _ ρ1 => (cd ρ1).then fun b ρ2 => if b = true then (m ρ2).then fun y ρ3 => compM tm cd m vs (ds.drop (i + 1)) (acc ++ [y]) (wipeE ρ3 vs) else compM tm cd m vs (ds.drop (i + 1)) acc (wipeE ρ2 vs)) = .ok ys ρe := er2
        refine ⟨_, ρ2, G3, d, S3, r3, ?_⟩
        cases et : tm d ρ2 with
        | stuck => rw [et] at e3; cases e3
        | ex e ρ' => rw [et] at e3; cases e3
        | ok u ρ4 =>
          rw [et] at e3
          intro σ4 H4 G4 S4 gl4 ⟨hl4, hk4⟩
          have ew : wipe σ4 vs = wipe σ vs := wipe_eq hl4 fun j hj => hk4 j fun z => hj (hts j z)
          refine ⟨ew, _, ρ4, G4, S4, ?_⟩
          have e4 : (cd ρ4).then (fun b ρ2 => if b = true then (m ρ2).then fun y ρ3 => compM tm cd m vs (ds.drop (i + 1)) (acc ++ [y]) (wipeE ρ3 vs) else compM tm cd m vs (ds.drop (i + 1)) acc (wipeE ρ2 vs)) = .ok ys ρe := e3
          have g24 := gl3.trans gl4
          cases ec : cd ρ4 with
          | stuck => rw [ec] at e4; cases e4
          | ex e ρ' => rw [ec] at e4; cases e4
          | ok b ρ5 =>
            rw [ec] at e4
            intro H5 G5 S5 gl5
            have g25 := g24.trans gl5
            cases b with
            | false =>
              refine ⟨wipeE ρ5 vs, G5, acc, xs, ?_, gl2.trans g25, RpL.mono g25 _ _ racc, by omega, e4⟩
              rw [← ew]
              exact S5.wipe hv
            | true =>
              have e5 : (m ρ5).then (fun y ρ3 => compM tm cd m vs (ds.drop (i + 1)) (acc ++ [y]) (wipeE ρ3 vs)) = .ok ys ρe := e4
              refine ⟨_, ρ5, G5, S5, ?_⟩
              cases em : m ρ5 with
              | stuck => rw [em] at e5; cases e5
              | ex e ρ' => rw [em] at e5; cases e5
              | ok yv ρ6 =>
                rw [em] at e5
                intro v H6 G6 S6 gl6 r6
                have g26 := g25.trans gl6
                obtain ⟨q1, q2⟩ := S6.fg D (.lst xs) (by show upd F.fg D (.lst xs) D = _; exact upd_same)
                refine ⟨xs, q1, ?_, wipeE ρ6 vs, G6, acc ++ [yv], xs ++ [v], ?_, gl2.trans g26, RpL.append (RpL.mono g26 _ _ racc) (.one r6), by rw [List.length_append]; simp; omega, e5⟩
                · rw [racc.length]
                  exact Nat.lt_of_le_of_lt hacc (Nat.lt_of_lt_of_le hlt hz)
                · rw [← ew]
                  exact (State.rePlus (o := .lst xs) (o' := .lst (xs ++ [v])) trivial trivial (fun _ z => nomatch z) (fun k q z => by unfold CodeO at z; cases z) S6).wipe hv
      · have e : i = ds.length := by omega
        subst e
        rw [List.drop_length] at er2
        have e2 : Rs.ok acc ρ2 = Rs.ok ys ρe := er2
        cases e2
        have Sm := S2.yesx.minus nd fgn
        have n2 := NewAt.still nd (ObjD.lst racc) trivial S2.yesx
        refine .inl ⟨h2 rfl, k D H2 G2 (State.unwipe S1 Sm gl2 hv) (gl1.trans gl2) ⟨n2.1, nd, fun j ej hj es => ?_⟩⟩
        rcases unwipe_get hj with ⟨_, z⟩ | ⟨hi, hj⟩
        · exact (keep_own z.symm).elim
        · exact n2.2.2 j ej hj (by rw [wipe_get hi]; exact es)
  · simp only [if_neg hz] at k
    exact k.elim
theorem fe_lc (hc : X.calm = true) (hN : X.N.Nodup) (hv : ∀ v ∈ own.map (·.2), v ∉ c.ios) (hts : ∀ v ∈ ts, v ∈ own.map (·.2)) (hi : PI X tg iter (tI c it)) (ok : BlkOk X.N X.env.scope scope own)
    (hg : ∀ (s : Shared) (H : Hp) (C : Addr) (cl : List (Str × Addr)) (fp : List Addr), PG (X.blk s H scope (compEnvC scope cl C X.env) fp) tg (tG c.nox ts tm)) (ht : ∀ (s : Shared) (H : Hp) (C : Addr) (cl : List (Str × Addr)) (fp : List Addr), PTs (X.blk s H scope (compEnvC scope cl C X.env) fp) ifs (tT c.nox cd))
    (he : ∀ (s : Shared) (H : Hp) (C : Addr) (cl : List (Str × Addr)) (fp : List Addr), PE (X.blk s H scope (compEnvC scope cl C X.env) fp) elt (tE c.nox m)) (hs : ∀ x, foldedSetIterable iter X.env x = pure x := by intro _; rfl) :
    PE X (.ListComp elt [⟨tg, iter, ifs, 0⟩] scope pos) (tF c (mComp it tm cd m (own.map (·.2)))) := pe_conseq (pe_lc hc hN hi ok hg ht he hs) fun σ H Q h => tLc_f hv hts h
theorem st_ownLc {i : Nat} {y : Str} {py spos : Pos} (hc : X.calm = true) (hN : X.N.Nodup) (hy : X.N[i]? = some y) (hyl : X.env.scope.names.lookup y = some .local) (hio : i ∉ c.ios) (hv : ∀ v ∈ own.map (·.2), v ∉ c.ios) (hts : ∀ v ∈ ts, v ∈ own.map (·.2))
    (hsw : swapsWith (.ListComp elt [⟨tg, iter, ifs, 0⟩] scope pos) (some (.Name y py)) spos.line X.env = pure true) (hi : PI X tg iter (tI c it)) (ok : BlkOk X.N X.env.scope scope own)
    (hg : ∀ (s : Shared) (H : Hp) (C : Addr) (cl : List (Str × Addr)) (fp : List Addr), PG (X.blk s H scope (compEnvC scope cl C X.env) fp) tg (tG c.nox ts tm)) (ht : ∀ (s : Shared) (H : Hp) (C : Addr) (cl : List (Str × Addr)) (fp : List Addr), PTs (X.blk s H scope (compEnvC scope cl C X.env) fp) ifs (tT c.nox cd))
    (he : ∀ (s : Shared) (H : Hp) (C : Addr) (cl : List (Str × Addr)) (fp : List Addr), PE (X.blk s H scope (compEnvC scope cl C X.env) fp) elt (tE c.nox m)) (hs : ∀ x, foldedSetIterable iter X.env x = pure x := by intro _; rfl) :
    PS X (.Assign [.Name y py] (.ListComp elt [⟨tg, iter, ifs, 0⟩] scope pos) spos) (tS c (sOwn i (mComp it tm cd m (own.map (·.2))))) := ps_conseq (ps_setLc hc hN hy hyl hsw hi ok hg ht he hs) fun D σ H ⟨F, ρ, G, S, a⟩ =>
  tLc_f hv hts ⟨F, ρ, G, S, (SAsk.sr a).imp (GLe.refl G) fun d ρ' k p H' G' S' gl n => k _ H' G' (S'.setOwn n hio) gl⟩
theorem mts_nil : PTs X [] (tT c bYes) := ⟨fun pins s σ H Q I ⟨F, ρ, G, S, a⟩ => pts_nil.run pins s σ H Q I (a H G S (GLe.refl G))⟩
theorem mts_one {cd : Expr} {t : MB} (h : PT X cd (tT c t)) : PTs X [cd] (tT c t) := pts_one h
end

set_option autoImplicit true
def ioL : Nat → List Sl → List V → List (Nat × Addr)
  | k, .own _ :: ss, .ref p :: vs => (k, p) :: ioL (k + 1) ss vs
  | k, _ :: ss, _ :: vs => ioL (k + 1) ss vs
  | _, _, _ => []
def ownIx : Nat → List Sl → List Nat
  | _, [] => []
  | k, .own _ :: ss => k :: ownIx (k + 1) ss
  | k, _ :: ss => ownIx (k + 1) ss
def backs : List Nat → Env → Option (List D)
  | [], _ => some []
  | i :: is, ρ => match ρ[i]? with
    | some (.own d) => (backs is ρ).map fun r => d :: r
    | _ => none
def fnM (len n : Nat) (ios : List Nat) (m : SM) : FM := fun ss => if ownIx 0 ss = ios then (match m (ss ++ List.replicate (len - n) .no) with
  | .nx ρ => (match backs ios ρ with
    | some b => .ok .none b
    | none => .stuck)
  | .rt d ρ => (match backs ios ρ with
    | some b => .ok d b
    | none => .stuck)
  | .ex e _ => if ios = [] then .ex e else .stuck
  | .stuck => .stuck) else .stuck
theorem ioL_args {K : PySem.W.Frag} {G H : Hp} : ∀ {ss : List Sl} {vs : List V} {k : Nat}, ArgsOk K G H ss vs → (ioL k ss vs).map (·.1) = ownIx k ss ∧ (ioL k ss vs).map (·.2) = owns ss vs ∧ vs.length = ss.length ∧
    (∀ (i : Nat) (d : D), ss[i]? = some (.fz d) → ∃ v, vs[i]? = some v ∧ Rp K G d v) ∧ (∀ (i : Nat) (d : D), ss[i]? = some (.own d) → ∃ p, vs[i]? = some (V.ref p) ∧ Own K G H d p ∧ (k + i, p) ∈ ioL k ss vs) ∧
    (∀ q ∈ ioL k ss vs, ∃ i : Nat, q.1 = k + i ∧ vs[i]? = some (V.ref q.2)) ∧ (∀ p ∈ owns ss vs, ∃ d, Own K G H d p)
  | [], [], k, _ => ⟨rfl, rfl, rfl, fun i d h => by simp at h, fun i d h => by simp at h, fun q hq => (nomatch hq), fun q hq => (nomatch hq)⟩
  | .fz d :: ss, v :: vs, k, h => by
    obtain ⟨h1, h2, h3, h4, h5, h6, h7⟩ := ioL_args (k := k + 1) h.2
    have e1 : ioL k (.fz d :: ss) (v :: vs) = ioL (k + 1) ss vs := by cases v <;> rfl
    have e2 : owns (.fz d :: ss) (v :: vs) = owns ss vs := by cases v <;> rfl
    rw [e1, e2]
    refine ⟨h1, h2, by rw [List.length_cons, List.length_cons, h3], fun i x hi => ?_, fun i x hi => ?_, fun q hq => ?_, h7⟩
    · cases i with
      | zero =>
        cases Option.some.inj hi
        exact ⟨v, rfl, h.1⟩
      | succ i => exact h4 i x hi
    · cases i with
      | zero => cases Option.some.inj hi
      | succ i =>
        obtain ⟨p, a, b, c⟩ := h5 i x hi
        exact ⟨p, a, b, by rw [show k + (i + 1) = k + 1 + i by omega]; exact c⟩
    · obtain ⟨i, a, b⟩ := h6 q hq
      exact ⟨i + 1, by omega, b⟩
  | .own d :: ss, v :: vs, k, h => by
    obtain ⟨⟨p, rfl, ow⟩, hr⟩ := h
    obtain ⟨h1, h2, h3, h4, h5, h6, h7⟩ := ioL_args (k := k + 1) hr
    refine ⟨by show k :: _ = k :: _; rw [h1], by show p :: _ = p :: _; rw [h2], by rw [List.length_cons, List.length_cons, h3], fun i x hi => ?_, fun i x hi => ?_, fun q hq => ?_, fun q hq => ?_⟩
    · cases i with
      | zero => cases Option.some.inj hi
      | succ i => exact h4 i x hi
    · cases i with
      | zero =>
        cases Option.some.inj hi
        exact ⟨p, rfl, ow, List.mem_cons_self⟩
      | succ i =>
        obtain ⟨q, a, b, c⟩ := h5 i x hi
        exact ⟨q, a, b, List.mem_cons_of_mem _ (by rw [show k + (i + 1) = k + 1 + i by omega]; exact c)⟩
    · rcases List.mem_cons.mp hq with e | hq
      · subst e
        exact ⟨0, rfl, rfl⟩
      · obtain ⟨i, a, b⟩ := h6 q hq
        exact ⟨i + 1, by omega, b⟩
    · rcases List.mem_cons.mp hq with e | hq
      · subst e
        exact ⟨d, ow⟩
      · exact h7 q hq
theorem nodup_snd {qs : List (Nat × Addr)} (hn : (qs.map (·.2)).Nodup) {i j : Nat} {p : Addr} (hi : (i, p) ∈ qs) (hj : (j, p) ∈ qs) : i = j := by
  induction qs with
  | nil => cases hi
  | cons q r ih =>
    rw [List.map_cons, List.nodup_cons] at hn
    rcases List.mem_cons.mp hi with e1 | e1
    · rcases List.mem_cons.mp hj with e2 | e2
      · rw [← e2] at e1
        exact congrArg Prod.fst e1
      · exact (hn.1 (List.mem_map.mpr ⟨(j, p), e2, by rw [← e1]⟩)).elim
    · rcases List.mem_cons.mp hj with e2 | e2
      · exact (hn.1 (List.mem_map.mpr ⟨(i, p), e1, by rw [← e2]⟩)).elim
      · exact ih hn.2 e1 e2
open Classical in
/-- the frame's ghost at the entry -/
noncomputable def entryFr (G H : Hp) (ss : List Sl) (vs : List V) : Fr where
  fg := fun a => if (G a = none ∨ ∃ o w, H a = some (.frz o w)) ∧ a ∉ owns ss vs ∧ ∀ ps, H a ≠ some (.tbl ps) then H a else none
  dom := fun a => Dm H a
  io := ioL 0 ss vs
open Classical in
theorem entryFr_fg {G H : Hp} {ss : List Sl} {vs : List V} {a : Addr} {u : HO} : (entryFr G H ss vs).fg a = some u ↔ ((G a = none ∨ ∃ o w, H a = some (.frz o w)) ∧ a ∉ owns ss vs ∧ ∀ ps, H a ≠ some (.tbl ps)) ∧ H a = some u := by
  show (if (G a = none ∨ ∃ o w, H a = some (.frz o w)) ∧ a ∉ owns ss vs ∧ ∀ ps, H a ≠ some (.tbl ps) then H a else none) = some u ↔ _
  by_cases h : (G a = none ∨ ∃ o w, H a = some (.frz o w)) ∧ a ∉ owns ss vs ∧ ∀ ps, H a ≠ some (.tbl ps)
  · rw [if_pos h]
    exact ⟨fun e => ⟨h, e⟩, fun e => e.2⟩
  · rw [if_neg h]
    exact ⟨fun e => (nomatch e), fun e => (h e.1).elim⟩
theorem start_get {N : List Str} {vs : List V} {i : Nat} {v : V} (h : vs[i]? = some v) : (L2.start N vs)[i]? = some (some v) := by
  have hl := (List.getElem?_eq_some_iff.mp h).1
  unfold L2.start
  rw [List.getElem?_append_left (by rw [List.length_map]; exact hl), List.getElem?_map, h]
  rfl
section
variable {c : Ct} {G H : Hp} {ss : List Sl} {vs : List V}
theorem entry_state {N : List Str} (sub : Sub G H) (tab : Tabs c.T H) (tabG : ∀ p ∈ c.T, G p.1 = none) (tupG : ∀ (q : Addr) (ks : List Key), H q = some (.tup (ks.map kV)) → G q = some (.tup (ks.map kV))) (ha : ArgsOk c.K G H ss vs) (hn : (owns ss vs).Nodup)
    (hl : vs.length ≤ N.length) (hio : ownIx 0 ss = c.ios) : State c (entryFr G H ss vs) (ss ++ List.replicate (N.length - vs.length) .no) (L2.start N vs) G H := by
  obtain ⟨h1, h2, h3, h4, h5, h6, h7⟩ := ioL_args (k := 0) ha
  have sg : ∀ (i : Nat) (s : Sl), (ss ++ List.replicate (N.length - vs.length) Sl.no)[i]? = some s → ss[i]? = some s ∨ s = .no := fun i s e => by
    by_cases hi : i < ss.length
    · rw [List.getElem?_append_left hi] at e
      exact .inl e
    · rw [List.getElem?_append_right (by omega), List.getElem?_replicate] at e
      split at e
      · exact .inr (Option.some.inj e).symm
      · cases e
  refine ⟨sub, fun a u e => ?_, fun a u e => ?_, fun a e => e, tab, tabG, ?_, fun i s e => ?_, fun i j p d e e1 e2 e3 e4 => ?_, fun q hq => ?_, by show (ioL 0 ss vs).map (·.1) = _; rw [h1, hio], fun q hq => ?_, tupG⟩
  · obtain ⟨⟨a1, _, _⟩, a2⟩ := entryFr_fg.mp e
    exact ⟨a2, a1.imp id fun ⟨q, w, z⟩ => ⟨q, w, by rw [a2] at z; exact Option.some.inj z⟩⟩
  · obtain ⟨⟨a1, a3, a4⟩, a2⟩ := entryFr_fg.mp e
    refine ⟨⟨u, a2, fun ps z => a4 ps (by rw [a2, z])⟩, fun i hi => ?_, fun ps z => a4 ps (by rw [a2, z])⟩
    have hi' : (i, a) ∈ ioL 0 ss vs := hi
    exact a3 (by rw [← h2]; exact List.mem_map.mpr ⟨_, hi', rfl⟩)
  · rw [List.length_append, List.length_replicate]
    unfold L2.start
    rw [List.length_append, List.length_map, List.length_replicate, h3]
  · rcases sg i s e with e | e
    · cases s with
      | no => trivial
      | fz d =>
        obtain ⟨v, a, b⟩ := h4 i d e
        exact ⟨v, start_get a, b⟩
      | own d =>
        obtain ⟨p, a, b, x⟩ := h5 i d e
        exact ⟨p, start_get a, b, .inr (by rw [Nat.zero_add] at x; exact x)⟩
    · subst e
      trivial
  · have k1 : ss[i]? = some (.own d) := (sg i _ e1).resolve_right (fun z => nomatch z)
    have k2 : ss[j]? = some (.own e) := (sg j _ e2).resolve_right (fun z => nomatch z)
    obtain ⟨p1, a1, _, x1⟩ := h5 i d k1
    obtain ⟨p2, a2, _, x2⟩ := h5 j e k2
    rw [start_get a1] at e3
    rw [start_get a2] at e4
    cases e3
    cases e4
    rw [Nat.zero_add] at x1 x2
    exact nodup_snd (by rw [h2]; exact hn) x1 x2
  · obtain ⟨i, a, b⟩ := h6 q hq
    rw [a, Nat.zero_add]
    exact start_get b
  · obtain ⟨d, ow⟩ := h7 q.2 (by rw [← h2]; exact List.mem_map.mpr ⟨q, hq, rfl⟩)
    obtain ⟨_, o, ho, hd, _⟩ := ow
    exact ⟨o, ho, hd.notTbl.1⟩
/-- what a State at a def's end tells its caller -/
theorem exit_post {ρ : Env} {σ : L2.St} {G' H' : Hp} (gl : GLe G G') (S : State c (entryFr G H ss vs) ρ σ G' H') : Post c.T G H G' H' (owns ss vs) :=
  ⟨gl, S.sub, S.tab, S.tabG, fun a u e1 e2 e3 e4 => S.fg a u (entryFr_fg.mpr ⟨⟨e2.imp id fun ⟨q, w, z⟩ => ⟨q, w, by rw [e1, z]⟩, e3, fun ps z => e4 ps (by rw [e1] at z; exact Option.some.inj z)⟩, e1⟩), fun a e => S.dom a e, S.tupG⟩
theorem exit_back {ρ : Env} {σ : L2.St} {G' H' : Hp} (ha : ArgsOk c.K G H ss vs) (hio : ownIx 0 ss = c.ios) (S : State c (entryFr G H ss vs) ρ σ G' H') {b : List D} (hb : backs c.ios ρ = some b) : BackOk c.K G' H' b (owns ss vs) := by
  obtain ⟨h1, h2, _⟩ := ioL_args (k := 0) ha
  rw [← h2]
  rw [← hio, ← h1] at hb
  have key : ∀ (qs : List (Nat × Addr)) (b : List D), (∀ q ∈ qs, q ∈ ioL 0 ss vs) → backs (qs.map (·.1)) ρ = some b → BackOk c.K G' H' b (qs.map (·.2)) := by
    intro qs
    induction qs with
    | nil =>
      intro b _ hb
      cases hb
      trivial
    | cons q r ih =>
      intro b hq hb
      unfold backs at hb
      simp only [List.map_cons] at hb
      split at hb
      · rename_i d e
        cases er : backs (r.map (·.1)) ρ with
        | none => rw [er] at hb; cases hb
        | some x =>
          rw [er] at hb
          cases hb
          refine ⟨?_, ih x (fun z hz => hq z (List.mem_cons_of_mem _ hz)) er⟩
          obtain ⟨p, e1, ow, _⟩ := S.own_at e
          have := S.io q (hq q List.mem_cons_self)
          rw [this] at e1
          cases e1
          exact ow
      · cases hb
  exact key _ b (fun q hq => hq) hb
end
section
variable {P : Program} {w : World} {K : PySem.W.Frag} {mg : Str → Option Value} {base : Heap} {T : List (Addr × Str)}
/-- THE RULE for a def of the text, its code object known -/
theorem fn_okC {x qual : Str} {st : Stmt} {f : Addr} {N ps : List Str} {k n : Nat} {ios : List Nat} {m : SM} {oc : Value} {od an : Option Addr} {kV doc pm cdv ct : Value} {osl : Array (Option Value)}
    (lk : K.lookup f = some ⟨oc, od, .func (PySem.W.fnOf x qual (defArgs st) (defBody st) (defScope st) .none kV doc pm an cdv ct), osl⟩) (hcd : PySem.W.codeIn K cdv qual = true) (S : FnScope N ps (defScope st)) (hn : ps.length = n := by rfl)
    (hbody : ∀ (A : Around) (outer : List PySem.Env) (s : Shared) (H : Hp) (E : XK) (W : WX), Room k (A.deeper (envOfC qual (defScope st) s.heap.objs.size f cdv)) → Takes (cxOf (L2.CX P w) P w K mg base N qual (defScope st) f cdv A outer s H E) W →
      PassesOwn (model P w) (cxOf (L2.CX P w) P w K mg base N qual (defScope st) f cdv A outer s H E).A (cxOf (L2.CX P w) P w K mg base N qual (defScope st) f cdv A outer s H E).env (cxOf (L2.CX P w) P w K mg base N qual (defScope st) f cdv A outer s H E).xe →
      PSs (cxOf (L2.CX P w) P w K mg base N qual (defScope st) f cdv A outer s H E) (defBody st) (tS ⟨K, T, mg, W, ios⟩ m)) :
    FnOk P w K mg base (L2.CX P w) (k + 1) f (PySem.W.fnOf x qual (defArgs st) (defBody st) (defScope st) .none kV doc pm an cdv ct) ps (spM K T mg n (fnM N.length n ios m)) := by
  have hpl : ps.length ≤ N.length := by have := congrArg List.length S.pre; rw [List.length_take] at this; omega
  refine fn_of lk hcd S (fun vs H Q E h => by rw [h.1, hn]) (fun A outer s H vs Q E hr h => ?_)
  obtain ⟨hl, G, ss, sub, tab, tabG, tupG, ha, hnd, hq⟩ := h
  refine ⟨_, hbody A outer s H E (fun cls d _ H' => E cls d H') hr (takes_of rfl rfl rfl rfl) (passes_of rfl), ?_⟩
  unfold fnM at hq
  by_cases hio : ownIx 0 ss = ios
  · rw [if_pos hio] at hq
    have St := entry_state (c := ⟨K, T, mg, fun cls d _ H' => E cls d H', ios⟩) (N := N) sub tab tabG tupG ha hnd (by rw [hl, ← hn]; exact hpl) hio
    rw [hl] at St
    refine ⟨_, _, G, St, ?_⟩
    cases em : m (ss ++ List.replicate (N.length - n) Sl.no) with
    | stuck => rw [em] at hq; exact False.elim hq
    | nx ρ =>
      rw [em] at hq
      simp only at hq
      intro σ' H' G' S' gl
      cases eb : backs ios ρ with
      | none => rw [eb] at hq; exact False.elim hq
      | some b =>
        rw [eb] at hq
        exact hq .non H' G' (exit_post gl S') rfl (exit_back ha hio S' eb)
    | rt d ρ =>
      rw [em] at hq
      simp only at hq
      intro v σ' H' G' S' gl r
      cases eb : backs ios ρ with
      | none => rw [eb] at hq; exact False.elim hq
      | some b =>
        rw [eb] at hq
        exact hq v H' G' (exit_post gl S') r (exit_back ha hio S' eb)
    | ex e ρ =>
      rw [em] at hq
      simp only at hq
      intro cls dx σ' H' G' S' gl xo
      by_cases h0 : ios = []
      · rw [if_pos h0] at hq
        exact hq cls dx H' G' (exit_post gl S') xo
      · rw [if_neg h0] at hq
        exact hq.elim
  · rw [if_neg hio] at hq
    exact hq.elim
/-- THE RULE for a def of the text -/
theorem fn_ok {x qual : Str} {st : Stmt} {f : Addr} {fd : FuncData} {N ps : List Str} {k n : Nat} {ios : List Nat} {m : SM} (Fn : Fun K x qual st f fd) (S : FnScope N ps (defScope st)) (hn : ps.length = n := by rfl)
    (hbody : ∀ (cdv : Value) (A : Around) (outer : List PySem.Env) (s : Shared) (H : Hp) (E : XK) (W : WX), Room k (A.deeper (envOfC qual (defScope st) s.heap.objs.size f cdv)) → Takes (cxOf (L2.CX P w) P w K mg base N qual (defScope st) f cdv A outer s H E) W →
      PassesOwn (model P w) (cxOf (L2.CX P w) P w K mg base N qual (defScope st) f cdv A outer s H E).A (cxOf (L2.CX P w) P w K mg base N qual (defScope st) f cdv A outer s H E).env (cxOf (L2.CX P w) P w K mg base N qual (defScope st) f cdv A outer s H E).xe →
      PSs (cxOf (L2.CX P w) P w K mg base N qual (defScope st) f cdv A outer s H E) (defBody st) (tS ⟨K, T, mg, W, ios⟩ m)) :
    FnOk P w K mg base (L2.CX P w) (k + 1) f fd ps (spM K T mg n (fnM N.length n ios m)) := by
  obtain ⟨oc, od, kV, doc, pm, an, cdv, ct, osl, rfl, lk, hcd⟩ := Fn.ex
  exact fn_okC lk hcd S hn (hbody cdv)
end

set_option autoImplicit true
def sAsg (m : ME) (tm : TM) : SM := fun ρ => (m ρ).sr fun d ρ1 => (tm d ρ1).sr fun _ ρ2 => .nx ρ2
section
variable {X : Cx} {c : Ct} {F : Fr} {ρ : Env} {σ : L2.St} {G H : Hp} {e tg : Expr} {es : List Expr} {pos : Pos}
theorem st_asg {m : ME} {ts : List Nat} {tm : TM} (he : PE X e (tE c m)) (hg : PG X tg (tG c ts tm)) (hs : swapsWithSole [tg] e pos.line X.env = pure false := by rfl) (hw : swappedStores [tg] e X.env = pure none := by rfl)
    (h1 : (assignEach [tg] X.env).map (·.2) = [assign tg X.env] := by rfl) : PS X (.Assign [tg] e pos) (tS c (sAsg m tm)) := ps_conseq (ps_asg he hg hs hw h1) fun D σ H ⟨F, ρ, G, S, a⟩ => by
  refine ⟨F, ρ, G, S, (SAsk.sr a).imp (GLe.refl G) fun d ρ1 k v H1 G1 S1 gl1 r => ⟨F, ρ1, G1, d, S1, r, ?_⟩⟩
  cases et : tm d ρ1 with
  | stuck => rw [et] at k; exact k
  | ex x ρ2 =>
    rw [et] at k
    exact fun cls dx σ' H' G' S' gl x => k cls dx σ' H' G' S' (gl1.trans gl) x
  | ok u ρ2 =>
    rw [et] at k
    exact fun σ' H' G' S' gl _ => k σ' H' G' S' (gl1.trans gl)
def tPs (c : Ct) : List (Bool × ME) → TA
  | [] => tNil
  | (false, m) :: r => tCons (tE c m) (tPs c r)
  | (true, m) :: r => tCons (tF c m) (tPs c r)
def PVs (c : Ct) (F : Fr) (ρ : Env) (σ : L2.St) (G H : Hp) : List Bool → List D → List V → Prop
  | [], [], [] => True
  | false :: fs, d :: ds, v :: vs => Rp c.K G d v ∧ PVs c F ρ σ G H fs ds vs
  | true :: fs, d :: ds, v :: vs => (∃ p, v = .ref p ∧ NewAt c F ρ σ G H d p) ∧ PVs c F ρ σ G H fs ds vs
  | _, _, _ => False
def newsOf : List Bool → List V → List Addr
  | true :: fs, .ref p :: vs => p :: newsOf fs vs
  | _ :: fs, _ :: vs => newsOf fs vs
  | _, _ => []
theorem PVs.minus {p : Addr} {o : HO} : ∀ {fs : List Bool} {ds : List D} {vs : List V}, PVs c (F.plus p o) ρ σ G H fs ds vs → PVs c F ρ σ G H fs ds vs ∧ p ∉ newsOf fs vs
  | [], [], [], _ => ⟨trivial, fun z => nomatch z⟩
  | false :: fs, d :: ds, v :: vs, h => by
    obtain ⟨h1, h2⟩ := PVs.minus h.2
    have e : newsOf (false :: fs) (v :: vs) = newsOf fs vs := by cases v <;> rfl
    exact ⟨⟨h.1, h1⟩, by rw [e]; exact h2⟩
  | true :: fs, d :: ds, v :: vs, h => by
    obtain ⟨h1, h2⟩ := PVs.minus h.2
    obtain ⟨⟨q, rfl, n1, n2, n3⟩, _⟩ := h
    refine ⟨⟨⟨q, rfl, n1, fun z => n2 (.inl z), n3⟩, h1⟩, fun z => ?_⟩
    rcases List.mem_cons.mp z with e | z
    · exact n2 (.inr e.symm)
    · exact h2 z
theorem tPs_ev : ∀ {ms : List (Bool × ME)} {F : Fr} {ρ : Env} {G H : Hp} {R : List V → Hp → Prop}, State c F ρ σ G H →
    Ask c F σ G (fun ds ρ' => ∀ vs H' G', State c F ρ' σ G' H' → GLe G G' → PVs c F ρ' σ G' H' (ms.map (·.1)) ds vs → (newsOf (ms.map (·.1)) vs).Nodup → R vs H') (evm (ms.map (·.2)) ρ) → tPs c ms σ H R
  | [], F, ρ, G, H, R, S, a => a [] H G S (GLe.refl G) trivial List.nodup_nil
  | (false, m) :: ms, F, ρ, G, H, R, S, a => by
    refine ⟨F, ρ, G, S, (Ask.then a).imp (GLe.refl G) fun d ρ1 a1 v H1 G1 S1 g1 r1 => ?_⟩
    refine tPs_ev S1 ((Ask.then a1).imp g1 fun ds ρ2 k vs H2 G2 S2 g2 r2 n2 => ?_)
    refine k (v :: vs) H2 G2 S2 (g1.trans g2) ⟨Rp.mono g2 d v r1, r2⟩ ?_
    have e : newsOf (((false, m) :: ms).map (·.1)) (v :: vs) = newsOf (ms.map (·.1)) vs := by cases v <;> rfl
    rw [e]
    exact n2
  | (true, m) :: ms, F, ρ, G, H, R, S, a => by
    refine ⟨F, ρ, G, S, (Ask.then a).imp (GLe.refl G) fun d ρ1 a1 p H1 G1 S1 g1 n1 => ?_⟩
    obtain ⟨hg, o, ho, hd, hm⟩ := id n1.1
    have nd := n1.2.1
    have fgn := NewAt.fgn S1 n1
    refine tPs_ev (S1.plus n1 ho) (((Ask.then a1).minus nd fgn).imp g1 fun ds ρ2 k vs H2 G2 S2 g2 r2 n2 => ?_)
    obtain ⟨r3, n3⟩ := PVs.minus r2
    exact k (.ref p :: vs) H2 G2 (S2.minus nd fgn) (g1.trans g2) ⟨⟨p, rfl, NewAt.still nd (hd.mono g2) hm S2⟩, r3⟩ (List.nodup_cons.mpr ⟨n3, n2⟩)
theorem mp_nil : PA X [] (tPs c []) := pa_nil
theorem mp_v {m : ME} {ms : List (Bool × ME)} (h : PE X e (tE c m)) (hr : PA X es (tPs c ms)) (hs : starEach (e :: es) X.env = (false, eval e X.env) :: starEach es X.env := by rfl) : PA X (e :: es) (tPs c ((false, m) :: ms)) := pa_cons h hr hs
theorem mp_f {m : ME} {ms : List (Bool × ME)} (h : PE X e (tF c m)) (hr : PA X es (tPs c ms)) (hs : starEach (e :: es) X.env = (false, eval e X.env) :: starEach es X.env := by rfl) : PA X (e :: es) (tPs c ((true, m) :: ms)) := pa_cons h hr hs
def setP : List Nat → List Bool → List D → Env → Env
  | i :: is, f :: fs, d :: ds, ρ => setP is fs ds (ρ.set i (if f = true then .own d else .fz d))
  | _, _, _, ρ => ρ
def setV : List Nat → List V → L2.St → L2.St
  | i :: is, v :: vs, σ => setV is vs (σ.set i (some v))
  | _, _, σ => σ
theorem setP_state : ∀ {is : List Nat} {fs : List Bool} {ds : List D} {vs : List V} {ρ : Env} {σ : L2.St}, State c F ρ σ G H → is.length = fs.length → PVs c F ρ σ G H fs ds vs → (newsOf fs vs).Nodup → (∀ i ∈ is, i ∉ c.ios) → State c F (setP is fs ds ρ) (setV is vs σ) G H
  | [], [], [], [], ρ, σ, S, _, _, _, _ => S
  | i :: is, false :: fs, d :: ds, v :: vs, ρ, σ, S, hl, h, n, hio => by
    have e : newsOf (false :: fs) (v :: vs) = newsOf fs vs := by cases v <;> rfl
    have S' := S.setFz h.1 (hio i List.mem_cons_self)
    refine setP_state (is := is) (fs := fs) (ds := ds) (vs := vs) S' (by simpa using hl) ?_ (by rw [← e]; exact n) fun j hj => hio j (List.mem_cons_of_mem _ hj)
    have key : ∀ {fs : List Bool} {ds : List D} {vs : List V}, PVs c F ρ σ G H fs ds vs → PVs c F (ρ.set i (.fz d)) (σ.set i (some v)) G H fs ds vs := by
      intro fs
      induction fs with
      | nil => intro ds vs h; cases ds <;> cases vs <;> first | trivial | exact h.elim
      | cons f fs ih =>
        intro ds vs h
        cases ds with
        | nil => cases f <;> exact h.elim
        | cons x ds =>
          cases vs with
          | nil => cases f <;> exact h.elim
          | cons u vs =>
            cases f with
            | false => exact ⟨h.1, ih h.2⟩
            | true =>
              obtain ⟨⟨p, e1, n1, n2, n3⟩, hr⟩ := h
              refine ⟨⟨p, e1, n1, n2, fun j y ej es => ?_⟩, ih hr⟩
              rcases get_set ej with ⟨_, z⟩ | ⟨ne, ej⟩
              · cases z
              · rw [List.getElem?_set_ne ne] at es
                exact n3 j y ej es
    exact key h.2
  | i :: is, true :: fs, d :: ds, v :: vs, ρ, σ, S, hl, h, n, hio => by
    obtain ⟨⟨p, rfl, hn⟩, hr⟩ := h
    have n' := List.nodup_cons.mp n
    have S' := S.setOwn hn (hio i List.mem_cons_self)
    refine setP_state (is := is) (fs := fs) (ds := ds) (vs := vs) S' (by simpa using hl) ?_ n'.2 fun j hj => hio j (List.mem_cons_of_mem _ hj)
    have key : ∀ {fs : List Bool} {ds : List D} {vs : List V}, p ∉ newsOf fs vs → PVs c F ρ σ G H fs ds vs → PVs c F (ρ.set i (.own d)) (σ.set i (some (.ref p))) G H fs ds vs := by
      intro fs
      induction fs with
      | nil => intro ds vs _ h; cases ds <;> cases vs <;> first | trivial | exact h.elim
      | cons f fs ih =>
        intro ds vs np h
        cases ds with
        | nil => cases f <;> exact h.elim
        | cons x ds =>
          cases vs with
          | nil => cases f <;> exact h.elim
          | cons u vs =>
            cases f with
            | false =>
              have e : newsOf (false :: fs) (u :: vs) = newsOf fs vs := by cases u <;> rfl
              rw [e] at np
              exact ⟨h.1, ih np h.2⟩
            | true =>
              obtain ⟨⟨q, rfl, n1, n2, n3⟩, hr⟩ := h
              have np' : ¬ p ∈ q :: newsOf fs vs := np
              rw [List.mem_cons, not_or] at np'
              refine ⟨⟨q, rfl, n1, n2, fun j y ej es => ?_⟩, ih np'.2 hr⟩
              rcases get_set ej with ⟨rfl, _⟩ | ⟨ne, ej⟩
              · have hlt : i < σ.length := by
                  by_cases hlt : i < σ.length
                  · exact hlt
                  · rw [List.getElem?_eq_none (by rw [List.length_set]; omega)] at es
                    cases es
                rw [List.getElem?_set_self hlt] at es
                cases es
                exact np'.1 rfl
              · rw [List.getElem?_set_ne ne] at es
                exact n3 j y ej es
    exact key n'.1 hr
def sPar (is : List Nat) (ms : List (Bool × ME)) : SM := fun ρ => (evm (ms.map (·.2)) ρ).sr fun ds ρ' => .nx (setP is (ms.map (·.1)) ds ρ')
theorem PVs.len : ∀ {fs : List Bool} {ds : List D} {vs : List V}, PVs c F ρ σ G H fs ds vs → vs.length = fs.length
  | [], [], [], _ => rfl
  | false :: fs, d :: ds, v :: vs, h => by rw [List.length_cons, List.length_cons, PVs.len h.2]
  | true :: fs, d :: ds, v :: vs, h => by rw [List.length_cons, List.length_cons, PVs.len h.2]
/-- two, three local names (stored from the right) -/
theorem st_par2 {i j : Nat} {x y : Str} {a b : Expr} {ms : List (Bool × ME)} {px py pt : Pos} {kt k2 : Nat} {pt2 : Pos} (hc : X.calm = true) (hN : X.N.Nodup) (hi : X.N[i]? = some x) (hj : X.N[j]? = some y) (hij : i ≠ j)
    (hx : X.env.scope.names.lookup x = some .local) (hy : X.env.scope.names.lookup y = some .local) (ha : PA X [a, b] (tPs c ms)) (hio : ∀ k ∈ [i, j], k ∉ c.ios) (hl : ms.length = 2)
    (hw : swappedStores [.Tuple [.Name x px, .Name y py] kt pt] (.Tuple [a, b] k2 pt2) X.env = pure (some [x, y]))
    (hs : swapsWithSole [.Tuple [.Name x px, .Name y py] kt pt] (.Tuple [a, b] k2 pt2) pos.line X.env = pure false := by rfl) :
    PS X (.Assign [.Tuple [.Name x px, .Name y py] kt pt] (.Tuple [a, b] k2 pt2) pos) (tS c (sPar [i, j] ms)) := ps_conseq (ps_par hc hN hi hj hij hx hy ha hw hs) fun D σ H ⟨F, ρ, G, S, a⟩ => by
  refine tPs_ev S ((SAsk.sr a).imp (GLe.refl G) fun ds ρ1 k vs H1 G1 S1 gl1 pv n => ?_)
  have h2 := pv.len
  rw [List.length_map, hl] at h2
  match vs, h2, pv, n with
  | [v, u], _, pv, n => exact ⟨v, u, rfl, k _ H1 G1 (setP_state (is := [i, j]) S1 (by rw [List.length_map, hl]; rfl) pv n hio) gl1⟩
theorem st_par3 {i j l : Nat} {x y z : Str} {a b d : Expr} {ms : List (Bool × ME)} {px py pz pt : Pos} {kt k2 : Nat} {pt2 : Pos} (hc : X.calm = true) (hN : X.N.Nodup) (hi : X.N[i]? = some x) (hj : X.N[j]? = some y) (hl : X.N[l]? = some z) (hij : i ≠ j) (hil : i ≠ l) (hjl : j ≠ l)
    (hx : X.env.scope.names.lookup x = some .local) (hy : X.env.scope.names.lookup y = some .local) (hz : X.env.scope.names.lookup z = some .local) (ha : PA X [a, b, d] (tPs c ms)) (hio : ∀ k ∈ [i, j, l], k ∉ c.ios) (hln : ms.length = 3)
    (hw : swappedStores [.Tuple [.Name x px, .Name y py, .Name z pz] kt pt] (.Tuple [a, b, d] k2 pt2) X.env = pure (some [x, y, z]))
    (hs : swapsWithSole [.Tuple [.Name x px, .Name y py, .Name z pz] kt pt] (.Tuple [a, b, d] k2 pt2) pos.line X.env = pure false := by rfl) :
    PS X (.Assign [.Tuple [.Name x px, .Name y py, .Name z pz] kt pt] (.Tuple [a, b, d] k2 pt2) pos) (tS c (sPar [i, j, l] ms)) := ps_conseq (ps_par3 hc hN hi hj hl hij hil hjl hx hy hz ha hw hs) fun D σ H ⟨F, ρ, G, S, a⟩ => by
  refine tPs_ev S ((SAsk.sr a).imp (GLe.refl G) fun ds ρ1 k vs H1 G1 S1 gl1 pv n => ?_)
  have h2 := pv.len
  rw [List.length_map, hln] at h2
  match vs, h2, pv, n with
  | [v, u, w], _, pv, n => exact ⟨v, u, w, rfl, k _ H1 G1 (setP_state (is := [i, j, l]) S1 (by rw [List.length_map, hln]; rfl) pv n hio) gl1⟩
end

set_option autoImplicit true
def toK1 : D → Option Key
  | .int i => some (.inl i)
  | .str x => some (.inr x)
  | _ => none
def toKs : List D → Option (List Key)
  | [] => some []
  | d :: ds => (toK1 d).bind fun k => (toKs ds).map fun r => k :: r
def toKT : D → Option (List Key)
  | .tuple ds => toKs ds
  | _ => none
def dkEq (a b : D) : Bool := match toK1 a, toK1 b with
  | some x, some y => decide (x = y)
  | none, none => (match toKT a, toKT b with
    | some x, some y => decide (x = y)
    | _, _ => false)
  | _, _ => false
theorem toK1_keyD (x : Key) : toK1 (keyD x) = some x := by cases x <;> rfl
theorem of_toK1 {d : D} {x : Key} (h : toK1 d = some x) : d = keyD x := by
  cases d <;> simp only [toK1] at h <;> cases h <;> rfl
theorem toKs_keyD : ∀ xs : List Key, toKs (xs.map keyD) = some xs
  | [] => rfl
  | x :: xs => by
    show (toK1 (keyD x)).bind _ = _
    rw [toK1_keyD, toKs_keyD xs]
    rfl
theorem of_toKs : ∀ {ds : List D} {xs : List Key}, toKs ds = some xs → ds = xs.map keyD
  | [], _, h => by cases h; rfl
  | d :: ds, xs, h => by
    unfold toKs at h
    cases e : toK1 d with
    | none => rw [e] at h; cases h
    | some k =>
      rw [e] at h
      cases e2 : toKs ds with
      | none => rw [e2] at h; cases h
      | some r =>
        rw [e2] at h
        cases h
        rw [of_toK1 e, of_toKs e2]
        rfl
theorem of_toKT {d : D} {xs : List Key} (h : toKT d = some xs) : d = .tuple (xs.map keyD) := by
  cases d <;> simp only [toKT] at h <;> first | cases h | skip
  rw [of_toKs h]
theorem toKT_keyD (xs : List Key) : toKT (.tuple (xs.map keyD)) = some xs := toKs_keyD xs
theorem toK1_tup (ds : List D) : toK1 (.tuple ds) = none := rfl
theorem dkEq_1 (x y : Key) : dkEq (keyD x) (keyD y) = decide (x = y) := by
  unfold dkEq
  rw [toK1_keyD, toK1_keyD]
theorem dkEq_T (xs ys : List Key) : dkEq (.tuple (xs.map keyD)) (.tuple (ys.map keyD)) = decide (xs = ys) := by
  unfold dkEq
  rw [toK1_tup, toK1_tup, toKT_keyD, toKT_keyD]
def dGetV (kvs : List (D × D)) (k : D) : Option D := (kvs.find? fun p => dkEq p.1 k).map (·.2)
def dPutV (kvs : List (D × D)) (k d : D) : List (D × D) := if (kvs.any fun p => dkEq p.1 k) = true then kvs.map (fun p => if dkEq p.1 k = true then (p.1, d) else p) else kvs ++ [(k, d)]
/-- all keys are of the kind of k -/
def keyFits (kvs : List (D × D)) (k : D) : Bool := match toK1 k with
  | some _ => kvs.all fun p => (toK1 p.1).isSome
  | none => (toKT k).isSome && kvs.all fun p => (toKT p.1).isSome
section
variable {K : PySem.W.Frag} {G H : Hp}
theorem RpK.length : ∀ {kvs : List (D × D)} {es : List (Key × V)}, RpK K G kvs es → es.length = kvs.length
  | [], _, h => by cases h; rfl
  | (k, d) :: kvs, _, ⟨x, v, r, e, _, _, t⟩ => by rw [e, List.length_cons, List.length_cons, RpK.length t]
theorem RpT.length : ∀ {kvs : List (D × D)} {es : List (List Key × V)}, RpT K G kvs es → es.length = kvs.length
  | [], _, h => by cases h; rfl
  | (k, d) :: kvs, _, ⟨x, v, r, e, _, _, t⟩ => by rw [e, List.length_cons, List.length_cons, RpT.length t]
theorem RpK.get : ∀ {kvs : List (D × D)} {es : List (Key × V)} {x : Key}, RpK K G kvs es → match dGetV kvs (keyD x) with
    | some d => ∃ v, valV es x = some v ∧ Rp K G d v
    | none => valV es x = none
  | [], _, x, h => by cases h; rfl
  | (k, d) :: kvs, _, x, ⟨y, v, r, e, ek, h, t⟩ => by
    subst e
    subst ek
    have ih := RpK.get (x := x) t
    unfold dGetV at ih ⊢
    simp only [List.find?_cons, dkEq_1]
    by_cases q : y = x
    · rw [valV_pos (p := (y, v)) q]
      simp only [q, decide_true, Option.map_some]
      exact ⟨v, rfl, h⟩
    · rw [valV_neg (p := (y, v)) q]
      simp only [q, decide_false]
      exact ih
theorem RpT.get : ∀ {kvs : List (D × D)} {es : List (List Key × V)} {x : List Key}, RpT K G kvs es → match dGetV kvs (.tuple (x.map keyD)) with
    | some d => ∃ v, valV es x = some v ∧ Rp K G d v
    | none => valV es x = none
  | [], _, x, h => by cases h; rfl
  | (k, d) :: kvs, _, x, ⟨y, v, r, e, ek, h, t⟩ => by
    subst e
    subst ek
    have ih := RpT.get (x := x) t
    unfold dGetV at ih ⊢
    simp only [List.find?_cons, dkEq_T]
    by_cases q : y = x
    · rw [valV_pos (p := (y, v)) q]
      simp only [q, decide_true, Option.map_some]
      exact ⟨v, rfl, h⟩
    · rw [valV_neg (p := (y, v)) q]
      simp only [q, decide_false]
      exact ih
theorem RpK.any : ∀ {kvs : List (D × D)} {es : List (Key × V)} (x : Key), RpK K G kvs es → (kvs.any fun p => dkEq p.1 (keyD x)) = es.any fun kv => decide (kv.1 = x)
  | [], _, x, h => by cases h; rfl
  | (k, d) :: kvs, _, x, ⟨y, v, r, e, ek, h, t⟩ => by
    subst e
    subst ek
    rw [List.any_cons, List.any_cons, RpK.any x t, dkEq_1]
theorem RpT.any : ∀ {kvs : List (D × D)} {es : List (List Key × V)} (x : List Key), RpT K G kvs es → (kvs.any fun p => dkEq p.1 (.tuple (x.map keyD))) = es.any fun kv => decide (kv.1 = x)
  | [], _, x, h => by cases h; rfl
  | (k, d) :: kvs, _, x, ⟨y, v, r, e, ek, h, t⟩ => by
    subst e
    subst ek
    rw [List.any_cons, List.any_cons, RpT.any x t, dkEq_T]
theorem RpK.append : ∀ {kvs ks : List (D × D)} {es fs : List (Key × V)}, RpK K G kvs es → RpK K G ks fs → RpK K G (kvs ++ ks) (es ++ fs)
  | [], _, _, _, h, h' => by cases h; exact h'
  | (k, d) :: kvs, ks, _, fs, ⟨y, v, r, e, ek, h, t⟩, h' => ⟨y, v, r ++ fs, by rw [e]; rfl, ek, h, RpK.append t h'⟩
theorem RpT.append : ∀ {kvs ks : List (D × D)} {es fs : List (List Key × V)}, RpT K G kvs es → RpT K G ks fs → RpT K G (kvs ++ ks) (es ++ fs)
  | [], _, _, _, h, h' => by cases h; exact h'
  | (k, d) :: kvs, ks, _, fs, ⟨y, v, r, e, ek, h, t⟩, h' => ⟨y, v, r ++ fs, by rw [e]; rfl, ek, h, RpT.append t h'⟩
theorem RpK.put {kvs : List (D × D)} {es : List (Key × V)} {x : Key} {d : D} {v : V} (h : RpK K G kvs es) (r : Rp K G d v) : RpK K G (dPutV kvs (keyD x) d) (putK es x v) := by
  unfold dPutV putK
  rw [h.any x]
  split
  · have key : ∀ {kvs : List (D × D)} {es : List (Key × V)}, RpK K G kvs es → RpK K G (kvs.map fun p => if dkEq p.1 (keyD x) = true then (p.1, d) else p) (es.map fun kv => if kv.1 = x then (kv.1, v) else kv) := by
      intro kvs
      induction kvs with
      | nil => intro es h; cases h; rfl
      | cons p kvs ih =>
        obtain ⟨k, d'⟩ := p
        intro es ⟨y, u, rr, e, ek, h, t⟩
        subst e
        subst ek
        simp only [List.map_cons, dkEq_1]
        by_cases q : y = x
        · simp only [q, decide_true, if_true]
          exact ⟨x, v, _, rfl, rfl, r, ih t⟩
        · simp only [q, decide_false, Bool.false_eq_true, if_false]
          exact ⟨y, u, _, rfl, rfl, h, ih t⟩
    exact key h
  · exact h.append ⟨x, v, [], rfl, rfl, r, rfl⟩
theorem RpT.put {kvs : List (D × D)} {es : List (List Key × V)} {x : List Key} {d : D} {v : V} (h : RpT K G kvs es) (r : Rp K G d v) : RpT K G (dPutV kvs (.tuple (x.map keyD)) d) (putK es x v) := by
  unfold dPutV putK
  rw [h.any x]
  split
  · have key : ∀ {kvs : List (D × D)} {es : List (List Key × V)}, RpT K G kvs es → RpT K G (kvs.map fun p => if dkEq p.1 (.tuple (x.map keyD)) = true then (p.1, d) else p) (es.map fun kv => if kv.1 = x then (kv.1, v) else kv) := by
      intro kvs
      induction kvs with
      | nil => intro es h; cases h; rfl
      | cons p kvs ih =>
        obtain ⟨k, d'⟩ := p
        intro es ⟨y, u, rr, e, ek, h, t⟩
        subst e
        subst ek
        simp only [List.map_cons, dkEq_T]
        by_cases q : y = x
        · simp only [q, decide_true, if_true]
          exact ⟨x, v, _, rfl, rfl, r, ih t⟩
        · simp only [q, decide_false, Bool.false_eq_true, if_false]
          exact ⟨y, u, _, rfl, rfl, h, ih t⟩
    exact key h
  · exact h.append ⟨x, v, [], rfl, rfl, r, rfl⟩
theorem RpL.keys : ∀ {ks : List Key} {vs : List V}, RpL K G (ks.map keyD) vs → vs = ks.map kV
  | [], _, h => h
  | k :: ks, _, ⟨v, r, e, h, t⟩ => by
    rw [e, RpL.keys t]
    cases k with
    | inl i => rw [show v = V.int i from h]; rfl
    | inr x => rw [show v = V.str x from h]; rfl
theorem Rp.key {x : Key} {v : V} (h : Rp K G (keyD x) v) : v = kV x := by cases x <;> exact h
theorem Vw.key {x : Key} {v : V} (h : Vw K G H (keyD x) v) : v = kV x := by
  rcases h with h | ⟨p, _, _, o, _, hd, _⟩
  · exact h.key
  · cases x <;> cases hd
theorem Vw.lst {ds : List D} {v : V} (s : Sub G H) (h : Vw K G H (.list ds) v) : ∃ a xs, v = .ref a ∧ H a = some (.lst xs) ∧ RpL K G ds xs := by
  rcases h with ⟨a, xs, e, q, r⟩ | ⟨p, e, _, o, ho, hd, _⟩
  · exact ⟨a, xs, e, s.lst q, r⟩
  · cases hd with
    | lst r => exact ⟨p, _, e, ho, r⟩
theorem Vw.tup {ds : List D} {v : V} (s : Sub G H) (h : Vw K G H (.tuple ds) v) : ∃ a xs, v = .ref a ∧ H a = some (.tup xs) ∧ G a = some (.tup xs) ∧ RpL K G ds xs := by
  rcases h with ⟨a, xs, e, q, r⟩ | ⟨p, e, _, o, ho, hd, hm⟩
  · exact ⟨a, xs, e, s.tup q, q, r⟩
  · cases hd
    exact hm.elim
theorem Vw.keyT {ks : List Key} {v : V} (s : Sub G H) (h : Vw K G H (.tuple (ks.map keyD)) v) : ∃ a, v = .ref a ∧ H a = some (.tup (ks.map kV)) := by
  obtain ⟨a, xs, e, q, _, r⟩ := h.tup s
  exact ⟨a, e, by rw [q, r.keys]⟩
end
theorem Inv.dKT {X : Cx} {pins : List (Addr × Obj)} {σ : L2.St} {H : Hp} {s : Shared} {a : Addr} (I : Inv X pins σ H s) (h : H a = some (.dK [])) : Inv X pins σ (upd H a (.dT [])) s := by
  have new : ObjOk X.prog X.w (upd H a (.dT [])) s.heap a (.dT []) := by
    obtain ⟨z, hs, vs, kv, o, es, ep, ho, hx, hd, hr⟩ := I.hok a _ h
    cases kv
    refine ⟨z, hs, [], .nil, o, es, ep, ho, hx, hd, ?_, List.nodup_nil⟩
    obtain ⟨_, hp, _⟩ := hr
    generalize es.toList = l at hp
    cases hp
    rfl
  exact I.write (t' := s.toks) (by rw [h]; trivial) (.inl rfl) (fun b u _ q => q) (by
    obtain ⟨z, hs, vs, kv, o, es, ep, ho, hx⟩ := I.hok a _ h
    exact ⟨o, ho⟩) new
theorem Inv.dTK {X : Cx} {pins : List (Addr × Obj)} {σ : L2.St} {H : Hp} {s : Shared} {a : Addr} (I : Inv X pins σ H s) (h : H a = some (.dT [])) : Inv X pins σ (upd H a (.dK [])) s := by
  have new : ObjOk X.prog X.w (upd H a (.dK [])) s.heap a (.dK []) := by
    obtain ⟨z, hs, xs, kv, o, es, ep, ho, hx, hd, hr, _⟩ := I.hok a _ h
    cases kv
    have e0 : es.toList = [] := hr
    have e1 : es = #[] := by
      cases es
      simp at e0
      rw [e0]
    subst e1
    exact ⟨z, hs, [], .nil, o, #[], ep, ho, hx, hd, fun e he => absurd he (by simp), .nil, List.nodup_nil⟩
  exact I.write (t' := s.toks) (by rw [h]; trivial) (.inl rfl) (fun b u _ q => q) (by
    obtain ⟨z, hs, xs, kv, o, es, ep, ho, hx⟩ := I.hok a _ h
    exact ⟨o, ho⟩) new
theorem set_either {X : Cx} {t t' : TSet} (h : PSet X t) (h' : PSet X t') : PSet X (fun o i v H Q => t o i v H Q ∨ t' o i v H Q) := fun pins s σ H o i v ov iv u Q I ro ri rv q =>
  q.elim (h pins s σ H o i v ov iv u Q I ro ri rv) (h' pins s σ H o i v ov iv u Q I ro ri rv)
theorem set_conv {X : Cx} {t : TSet} (h : PSet X t) : PSet X (fun o i v H Q => ∃ a, H a = some (.dK []) ∧ t o i v (upd H a (.dT [])) Q) := fun pins s σ H o i v ov iv u Q I ro ri rv ⟨a, ha, q⟩ =>
  h pins s σ _ o i v ov iv u Q (Inv.dKT I ha) ro ri rv q
theorem set_conv2 {X : Cx} {t : TSet} (h : PSet X t) : PSet X (fun o i v H Q => ∃ a, H a = some (.dT []) ∧ t o i v (upd H a (.dK [])) Q) := fun pins s σ H o i v ov iv u Q I ro ri rv ⟨a, ha, q⟩ =>
  h pins s σ _ o i v ov iv u Q (Inv.dTK I ha) ro ri rv q
abbrev rSetA : TSet := fun o i v H Q => rSetL o i v H Q ∨ rSetD o i v H Q ∨ (∃ a, H a = some (.dK []) ∧ rSetD o i v (upd H a (.dT [])) Q) ∨ ∃ a, H a = some (.dT []) ∧ rSetD o i v (upd H a (.dK [])) Q
theorem set_any {X : Cx} (hu : X.A.units + 1 < cLine) : PSet X rSetA := set_either set_list (set_either (set_dict hu) (set_either (set_conv (set_dict hu)) (set_conv2 (set_dict hu))))
def dPutAt : D → D → D → Option D
  | .list ds, .int k, d => (ixN ds.length k).map fun j => .list (ds.set j d)
  | .dict kvs, k, d => if kvs.length < sizeLine ∧ keyFits kvs k = true then some (.dict (dPutV kvs k d)) else none
  | _, _, _ => none
def mPutAt (i : Nat) (ix : Opd) : TM := fun d ρ => match at_ ρ i with
  | none => .stuck
  | some _ => (ix.ev ρ).then fun k ρ' => match ix.fin k ρ', ρ'[i]? with
    | some kd, some (.own c) => (match dPutAt c kd d with
      | some c' => .ok () (ρ'.set i (.own c'))
      | none => .stuck)
    | _, _ => .stuck
section
variable {X : Cx} {c : Ct} {F : Fr} {ρ : Env} {σ : L2.St} {G H : Hp} {e tg : Expr} {es : List Expr} {pos : Pos}
/-- what dPutAt says, at the heap -/
theorem put_at {K : PySem.W.Frag} {p : Addr} {o : HO} {cd kd d c' : D} {y v : V} {Q : Hp → Prop} (s : Sub G H) (ho : H p = some o) (hd : ObjD K G cd o) (hm : Mut (some o)) (hk : Vw K G H kd y) (r : Rp K G d v) (e : dPutAt cd kd d = some c')
    (q : ∀ o' H', (H' = H ∨ ∃ u, H' = upd H p u) → ObjD K G c' o' → Mut (some o') → Q (upd H' p o')) : rSetA (.ref p) y v H Q := by
  cases hd with
  | tup h => exact hm.elim
  | @lst ds xs h =>
    cases kd <;> simp only [dPutAt] at e <;> first | cases e | skip
    rename_i k
    have ey := hk.int
    subst ey
    cases ej : ixN ds.length k with
    | none => rw [ej] at e; cases e
    | some j =>
      rw [ej] at e
      cases e
      exact .inl ⟨p, xs, k, j, rfl, rfl, ho, by rw [h.length]; exact ej, q _ H (.inl rfl) (.lst (h.set j r)) trivial⟩
  | @dK kvs es h =>
    have e' : (if kvs.length < sizeLine ∧ keyFits kvs kd = true then some (PyData.dict (dPutV kvs kd d)) else none) = some c' := by
      cases kd <;> exact e
    by_cases hc : kvs.length < sizeLine ∧ keyFits kvs kd = true
    · rw [if_pos hc] at e'
      cases e'
      obtain ⟨hl, hf⟩ := hc
      unfold keyFits at hf
      cases ek : toK1 kd with
      | some x =>
        have ed := of_toK1 ek
        subst ed
        have ey := hk.key
        subst ey
        exact .inr (.inl ⟨p, _, rfl, DPut.k ho (by rw [h.length]; exact hl), q _ H (.inl rfl) (.dK (h.put r)) trivial⟩)
      | none =>
        simp only [ek, Bool.and_eq_true] at hf
        obtain ⟨h1, h2⟩ := hf
        cases kvs with
        | cons a b =>
          exfalso
          obtain ⟨ak, ad⟩ := a
          obtain ⟨x, u, r2, _, ek2, _, _⟩ := h
          subst ek2
          rw [List.all_cons, Bool.and_eq_true] at h2
          have z : (toKT (keyD x)).isSome = true := h2.1
          cases x <;> cases z
        | nil =>
          have h' : es = [] := h
          subst h'
          cases et : toKT kd with
          | none => rw [et] at h1; cases h1
          | some ks =>
            have ed := of_toKT et
            subst ed
            obtain ⟨b, eb, hb⟩ := hk.keyT s
            subst eb
            have ne : b ≠ p := fun z => by rw [z, ho] at hb; cases hb
            refine .inr (.inr (.inl ⟨p, ho, p, _, rfl, DPut.t upd_same (by rw [upd_ne ne]; exact hb) (by show 0 < sizeLine; decide), ?_⟩))
            exact q _ _ (.inr ⟨_, rfl⟩) (.dT (RpT.put (kvs := []) (es := []) rfl r)) trivial
    · rw [if_neg hc] at e'
      cases e'
  | @dT kvs es h =>
    have e' : (if kvs.length < sizeLine ∧ keyFits kvs kd = true then some (PyData.dict (dPutV kvs kd d)) else none) = some c' := by
      cases kd <;> exact e
    by_cases hc : kvs.length < sizeLine ∧ keyFits kvs kd = true
    · rw [if_pos hc] at e'
      cases e'
      obtain ⟨hl, hf⟩ := hc
      unfold keyFits at hf
      cases ek : toK1 kd with
      | some x =>
        simp only [ek] at hf
        have ed := of_toK1 ek
        subst ed
        have ey := hk.key
        subst ey
        cases kvs with
        | cons a b =>
          exfalso
          obtain ⟨ak, ad⟩ := a
          obtain ⟨x2, u, r2, _, ek2, _, _⟩ := h
          subst ek2
          rw [List.all_cons, Bool.and_eq_true] at hf
          have z : (toK1 (.tuple (x2.map keyD))).isSome = true := hf.1
          cases z
        | nil =>
          have h' : es = [] := h
          subst h'
          refine .inr (.inr (.inr ⟨p, ho, p, _, rfl, DPut.k upd_same (by show 0 < sizeLine; decide), ?_⟩))
          exact q _ _ (.inr ⟨_, rfl⟩) (.dK (RpK.put (kvs := []) (es := []) rfl r)) trivial
      | none =>
        simp only [ek, Bool.and_eq_true] at hf
        cases et : toKT kd with
        | none => rw [et] at hf; cases hf.1
        | some ks =>
          have ed := of_toKT et
          subst ed
          obtain ⟨b, eb, hb⟩ := hk.keyT s
          subst eb
          exact .inr (.inl ⟨p, _, rfl, DPut.t ho hb (by rw [h.length]; exact hl), q _ H (.inl rfl) (.dT (h.put r)) trivial⟩)
    · rw [if_neg hc] at e'
      cases e'
/-- o[ix] = .. as a target, o an owned slot; h: pg_sub's -/
theorem tg_put {i : Nat} {ix : Opd} (h : PG X tg (gSub (tVar i) (tO c ix) rSetA)) : PG X tg (tG c [] (mPutAt i ix)) := pg_conseq h fun v σ H Q ⟨F, ρ, G, d, S, r, k⟩ => by
  unfold mPutAt at k
  cases ea : at_ ρ i with
  | none => simp only [ea] at k
  | some d0 =>
    simp only [ea] at k
    obtain ⟨v0, e0, _⟩ := S.vw ea
    refine ⟨v0, e0, ?_⟩
    refine tO_ev S ?_
    cases ei : ix.ev ρ with
    | stuck => rw [ei] at k; exact k
    | ex x ρ' =>
      rw [ei] at k
      exact fun cls dx H' G' S' gl x => k cls dx σ H' G' S' gl x
    | ok kx ρ1 =>
      rw [ei] at k
      intro y H1 G1 S1 gl1 ov
      have k' : match (match ix.fin kx ρ1, ρ1[i]? with
        | some kd, some (.own cd) => (match dPutAt cd kd d with
          | some c' => Rs.ok () (ρ1.set i (.own c'))
          | none => .stuck)
        | _, _ => .stuck) with
        | .ok _ ρ' => ∀ σ' H' G', State c F ρ' σ' G' H' → GLe G G' → σ'.length = σ.length ∧ (∀ i, i ∉ ([] : List Nat) → σ'[i]? = σ[i]?) → Q σ' H'
        | .ex e ρ' => ∀ cls dx σ' H' G', State c F ρ' σ' G' H' → GLe G G' → ExOk c G' e cls dx H' → c.W cls dx σ' H'
        | .stuck => False := k
      cases ef : ix.fin kx ρ1 with
      | none => rw [ef] at k'; exact k'.elim
      | some kd =>
        rw [ef] at k'
        cases er : ρ1[i]? with
        | none => rw [er] at k'; exact k'.elim
        | some s =>
          rw [er] at k'
          cases s with
          | no => exact k'.elim
          | fz _ => exact k'.elim
          | own cd =>
            cases ep : dPutAt cd kd d with
            | none => simp only [ep] at k'
            | some c' =>
              simp only [ep] at k'
              obtain ⟨p, es, ow, _⟩ := S1.own_at er
              rw [e0] at es
              cases es
              obtain ⟨hg, o, ho, hd, hm⟩ := id ow
              refine put_at S1.sub ho hd hm (ov.vw S1 ef) (Rp.mono gl1 d v r) ep fun o' H' eH hd' hm' => ?_
              have e2 : upd H' p o' = upd H1 p o' := by
                rcases eH with e | ⟨u, e⟩
                · rw [e]
                · rw [e, upd_upd]
              rw [e2]
              exact k' σ _ G1 (S1.change er e0 hd' hm') gl1 ⟨rfl, fun _ _ => rfl⟩
def mApp (i : Nat) (m : ME) : ME := fun ρ => match ρ[i]? with
  | some (.own (.list _)) => (m ρ).then fun d ρ' => (match ρ'[i]? with
    | some (.own (.list ds)) => if ds.length < sizeLine then .ok .none (ρ'.set i (.own (.list (ds ++ [d])))) else .stuck
    | _ => .stuck)
  | _ => .stuck
theorem me_app {i : Nat} {m : ME} (h : PE X e (tBM X.K "list" rAppend (tVar i) (tMs c [m]))) : PE X e (tE c (mApp i m)) := pe_conseq h fun σ H Q ⟨F, ρ, G, S, a⟩ => by
  unfold mApp at a
  split at a
  · rename_i ds0 e0
    obtain ⟨p, es, ow, _⟩ := S.own_at e0
    obtain ⟨hg, o, ho, hd, _⟩ := id ow
    cases hd with
    | @lst _ xs r0 =>
      refine ⟨.ref p, es, .inl ⟨rfl, xs, .of ho⟩, F, ρ, G, S, (Ask.then a).imp (GLe.refl G) fun d ρ1 k v H1 G1 S1 gl1 r1 => ?_⟩
      split at k
      · rename_i ds e1
        obtain ⟨p', es', ow', _⟩ := S1.own_at e1
        rw [es] at es'
        cases es'
        obtain ⟨hg', o', ho', hd', _⟩ := id ow'
        cases hd' with
        | @lst _ ys r2 =>
          by_cases hz : ds.length < sizeLine
          · rw [if_pos hz] at k
            refine ⟨p, ys, v, rfl, rfl, ho', by rw [r2.length]; exact hz, ?_⟩
            exact k .non _ G1 (S1.change e1 es (.lst (r2.append (.one r1))) trivial) gl1 rfl
          · rw [if_neg hz] at k
            exact k.elim
      · exact k.elim
  · exact a.elim
theorem RpL.erase {K : PySem.W.Frag} : ∀ {ds : List D} {vs : List V} (n : Nat), RpL K G ds vs → RpL K G (ds.eraseIdx n) (vs.eraseIdx n)
  | [], _, n, h => by cases h; rfl
  | d :: ds, _, 0, ⟨v, r, e, h, t⟩ => by rw [e]; exact t
  | d :: ds, _, n + 1, ⟨v, r, e, h, t⟩ => by rw [e]; exact ⟨v, r.eraseIdx n, rfl, h, RpL.erase n t⟩
def sRaise (x : Str) : SM := fun ρ => .ex ⟨x, none⟩ ρ
theorem pmk_own0 {C : Addr} {bmB : List Value} {B newId initId : String} {x : Str} {p : Pos} (Fc : ExcBaseFacts B newId initId bmB) (q : PySem.W.excIn X.K C bmB newId = true) (gC : X.mg x = some (.ref C))
    (kC : PySem.W.keepIn X.K (.ref C) = true) (r : Raises X (.ref C)) (hg : Gl X x) (hdb : (x == ("__debug__" : Str)) = false := by decide) : PMk X (.Call (.Name x p) [] [] pos) (fun _ H Q => Q (.ref C) none H) := by
  intro pins s σ H Q I q1
  refine wpAny_Call_Name_kw (ld_glob I hg gC ?_ hdb)
  refine PySem.W.callWith_K0 I.kIn kC ?_
  show wpAny _ _ (call (.ref C) []) _ _ _
  obtain ⟨bm, N, nm, qn, bs, hdct, sn, sub, ab, col, dd, k0, k1, k2, k3, k5, mN, hC, hN, hni, T⟩ := exc_obj I.kIn q
  exact wpAny_call_exc_subT Fc T hC hN hni (fun h' e hm => mk_of I hm r q1 (I.hok.gone hm.new)) (Nat.zero_le _)
theorem st_raise0 {C : Addr} {bmB : List Value} {B newId initId : String} {x : Str} {p pos' : Pos} (hc : X.calm = true) (tk : Takes X c.W) (Fc : ExcBaseFacts B newId initId bmB) (q : PySem.W.excIn X.K C bmB newId = true) (gC : X.mg x = some (.ref C)) (gm : c.mg x = some (.ref C))
    (kC : PySem.W.keepIn X.K (.ref C) = true) (r : Raises X (.ref C)) (hg : Gl X x) (hdb : (x == ("__debug__" : Str)) = false := by decide) : PS X (.Raise (some (.Call (.Name x p) [] [] pos)) none pos') (tS c (sRaise x)) :=
  ps_conseq (ps_raise hc tk (pmk_own0 Fc q gC kC r hg hdb)) fun D σ H ⟨F, ρ, G, S, a⟩ => a (.ref C) none σ H G S (GLe.refl G) ⟨C, gm, rfl, rfl⟩
end

set_option autoImplicit true
mutual
def noDi : D → Bool
  | .dict _ => false
  | .list ds => noDiL ds
  | .tuple ds => noDiL ds
  | _ => true
def noDiL : List D → Bool
  | [] => true
  | d :: ds => noDi d && noDiL ds
end
mutual
theorem noDi_lay : ∀ d : D, d.canLay0 = true → noDi d = true
  | .none, _ => rfl
  | .bool _, _ => rfl
  | .int _, _ => rfl
  | .str _, _ => rfl
  | .list ds, h => by
    have h' : PyData.canLayAll0 ds = true := by simpa [PyData.canLay0] using h
    exact noDiL_lay ds h'
  | .tuple ds, h => by
    have h' : PyData.canLayAll0 ds = true := by simpa [PyData.canLay0] using h
    exact noDiL_lay ds h'
  | .dict _, h => by simp [PyData.canLay0] at h
theorem noDiL_lay : ∀ ds : List D, PyData.canLayAll0 ds = true → noDiL ds = true
  | [], _ => rfl
  | d :: ds, h => by
    have h' : d.canLay0 = true ∧ PyData.canLayAll0 ds = true := by simpa [PyData.canLayAll0] using h
    simp only [noDiL, noDi_lay d h'.1, noDiL_lay ds h'.2, Bool.and_self]
end
section
variable {K : PySem.W.Frag} {G H : Hp}
mutual
theorem Rp.dp (s : Sub G H) : ∀ (d : D) (v : V), noDi d = true → Rp K G d v → Dp K H v d
  | .none, _, _, h => by cases (show _ = _ from h); exact .non
  | .bool b, _, _, h => by cases (show _ = _ from h); exact .bl b
  | .int b, _, _, h => by cases (show _ = _ from h); exact .int b
  | .str b, _, _, h => by cases (show _ = _ from h); exact .str b
  | .list ds, _, n, ⟨a, xs, e, q, r⟩ => by
    subst e
    exact .lst (.inl (.inl (s.lst q))) (RpL.dp s ds xs n r)
  | .tuple ds, _, n, ⟨a, xs, e, q, r⟩ => by
    subst e
    exact .tup (.inl (.inl (s.tup q))) (RpL.dp s ds xs n r)
  | .dict _, _, n, _ => by cases n
theorem RpL.dp (s : Sub G H) : ∀ (ds : List D) (vs : List V), noDiL ds = true → RpL K G ds vs → DpAll K H vs ds
  | [], _, _, h => by cases (show _ = _ from h); exact .nil
  | d :: ds, _, n, ⟨v, r, e, h, t⟩ => by
    subst e
    have n' := Bool.and_eq_true_iff.mp (show (noDi d && noDiL ds) = true from n)
    exact .cons (Rp.dp s d v n'.1 h) (RpL.dp s ds r n'.2 t)
end
theorem Vw.dp {d : D} {v : V} (s : Sub G H) (n : noDi d = true) (h : Vw K G H d v) : Dp K H v d := by
  rcases h with h | ⟨p, rfl, _, o, ho, hd, _⟩
  · exact Rp.dp s d v n h
  · cases hd with
    | lst r => exact .lst (.inl (.inl ho)) (RpL.dp s _ _ n r)
    | tup r => exact .tup (.inl (.inl ho)) (RpL.dp s _ _ n r)
    | dK _ => cases n
    | dT _ => cases n
def okD (d : D) : Bool := SeqAt.shaped d
theorem okD.no {d : D} (h : okD d = true) : noDi d = true := noDi_lay d (SeqAt.canLay_of_shaped h)
def dEq (a b : D) : Option D := if okD a && okD b then some (.bool (PyData.eqv a b)) else none
def dNe (a b : D) : Option D := if okD a && okD b then some (.bool (!PyData.eqv a b)) else none
theorem p_eq : Prim2 K dEq (rEqD K) := fun G H x y d1 d2 d Q s v1 v2 e q => by
  unfold dEq at e
  split at e
  · rename_i h
    cases e
    rw [Bool.and_eq_true] at h
    exact ⟨d1, d2, v1.dp s (okD.no h.1), v2.dp s (okD.no h.2), h.1, h.2, q _ H (.inl ⟨rfl, rfl⟩)⟩
  · cases e
theorem p_ne : Prim2 K dNe (rNeD K) := fun G H x y d1 d2 d Q s v1 v2 e q => by
  unfold dNe at e
  split at e
  · rename_i h
    cases e
    rw [Bool.and_eq_true] at h
    exact ⟨d1, d2, v1.dp s (okD.no h.1), v2.dp s (okD.no h.2), h.1, h.2, q _ H (.inl ⟨rfl, rfl⟩)⟩
  · cases e
theorem Vw.lst' {ds : List D} {v : V} (s : Sub G H) (h : Vw K G H (.list ds) v) : ∃ a xs, v = .ref a ∧ H a = some (.lst xs) ∧ True ∧ RpL K G ds xs := by
  obtain ⟨a, xs, e, h, r⟩ := h.lst s
  exact ⟨a, xs, e, h, trivial, r⟩
def dLt : D → D → Option D
  | .int i, .int j => some (.bool (decide (i < j)))
  | _, _ => none
def dLe : D → D → Option D
  | .int i, .int j => some (.bool (decide (i ≤ j)))
  | _, _ => none
def dGt : D → D → Option D
  | .int i, .int j => some (.bool (decide (j < i)))
  | _, _ => none
/-- >= of ints, of tuples of ints -/
def dInts : List D → Option (List Int)
  | [] => some []
  | .int i :: r => (dInts r).map fun is => i :: is
  | _ :: _ => none
def geI : List Int → List Int → Bool
  | _, [] => true
  | [], _ :: _ => false
  | x :: xs, y :: ys => if x = y then geI xs ys else decide (y ≤ x)
def dGe : D → D → Option D
  | .int i, .int j => some (.bool (decide (j ≤ i)))
  | .tuple ds, .tuple es => (match dInts ds, dInts es with
    | some is, some js => some (.bool (geI is js))
    | _, _ => none)
  | _, _ => none
theorem dInts_map : ∀ {ds : List D} {is : List Int}, dInts ds = some is → ds = is.map PyData.int
  | [], _, h => by cases h; rfl
  | .int i :: r, _, h => by
    simp only [dInts] at h
    cases e : dInts r with
    | none => rw [e] at h; cases h
    | some is' =>
      rw [e] at h
      cases h
      rw [dInts_map e]; rfl
  | .none :: _, _, h => by cases h
  | .bool _ :: _, _, h => by cases h
  | .str _ :: _, _, h => by cases h
  | .list _ :: _, _, h => by cases h
  | .tuple _ :: _, _, h => by cases h
  | .dict _ :: _, _, h => by cases h
theorem dInts_of : ∀ is : List Int, dInts (is.map PyData.int) = some is
  | [] => rfl
  | i :: is => by
    show (dInts (is.map PyData.int)).map _ = _
    rw [dInts_of is]; rfl
theorem p_lt : Prim2 K dLt (rI0 fun i j => .bl (decide (i < j))) := fun G H x y d1 d2 d Q s v1 v2 e q => by
  cases d1 <;> cases d2 <;> simp only [dLt] at e <;> first | cases e | skip
  exact ⟨_, _, v1.int, v2.int, q _ H (.inl ⟨rfl, rfl⟩)⟩
theorem p_le : Prim2 K dLe (rI0 fun i j => .bl (decide (i ≤ j))) := fun G H x y d1 d2 d Q s v1 v2 e q => by
  cases d1 <;> cases d2 <;> simp only [dLe] at e <;> first | cases e | skip
  exact ⟨_, _, v1.int, v2.int, q _ H (.inl ⟨rfl, rfl⟩)⟩
theorem p_gt : Prim2 K dGt (rI0 fun i j => .bl (decide (j < i))) := fun G H x y d1 d2 d Q s v1 v2 e q => by
  cases d1 <;> cases d2 <;> simp only [dGt] at e <;> first | cases e | skip
  exact ⟨_, _, v1.int, v2.int, q _ H (.inl ⟨rfl, rfl⟩)⟩
def rGeT (K : PySem.W.Frag) : R2 := fun x y H Q => ∃ (a b : Addr) (ns ms : List Int), x = .ref a ∧ y = .ref b ∧ SqT K H a (ns.map V.int) ∧ SqT K H b (ms.map V.int) ∧
  Q (.bl (Ob.lexAt (fun j => decide (ns.getD j 0 = ms.getD j 0)) (fun j => decide (ms.getD j 0 ≤ ns.getD j 0)) (decide (ns.length ≥ ms.length)) 0 (min ns.length ms.length))) H
theorem op_geT {X : Cx} (hu : X.A.units < cLine) : OpR X (compareOp .GtE) (rGeT X.K) := by
  intro pins s σ H x y v u Q I rx ry h
  obtain ⟨a, b, ns, ms, rfl, rfl, ha, hb, q⟩ := h
  cases rx
  cases ry
  obtain ⟨itA, r1, p1, _⟩ := I.tuple ha
  obtain ⟨itB, r2, p2, _⟩ := I.tuple hb
  have i1 : IntsAre itA ns := Vals.ints r1
  have i2 : IntsAre itB ms := Vals.ints r2
  have e1 : itA.toArray.size = ns.length := by rw [List.size_toArray]; exact i1.length
  have e2 : itB.toArray.size = ms.length := by rw [List.size_toArray]; exact i2.length
  have at1 : ∀ j (h1 : j < itA.toArray.size), ∃ t, itA.toArray[j] = .int (ns.getD j 0) t := fun j h1 => IntsAre.int_at i1 _ _ (by simp at h1; simp [h1])
  have at2 : ∀ j (h1 : j < itB.toArray.size), ∃ t, itB.toArray[j] = .int (ms.getD j 0) t := fun j h1 => IntsAre.int_at i2 _ _ (by simp at h1; simp [h1])
  have R := Ob.RcOp.tuples_ge (A := X.A) (s := s) (e := fun j => decide (ns.getD j 0 = ms.getD j 0)) (r := fun j => decide (ms.getD j 0 ≤ ns.getD j 0)) p1 p2 hu (fun j h1 h2 => by
    obtain ⟨t, et⟩ := at1 j h1
    obtain ⟨t', et'⟩ := at2 j h2
    have z : decide (ns.getD j 0 = ms.getD j 0) = (ns.getD j 0 == ms.getD j 0) := by
      by_cases q : ns.getD j 0 = ms.getD j 0
      · rw [q]; simp
      · rw [decide_eq_false q, beq_eq_false_iff_ne.mpr q]
    rw [et, et', z]
    exact SeqAt.EqAt.int_int _ _ _ _) (fun j h1 h2 _ => by
    obtain ⟨t, et⟩ := at1 j h1
    obtain ⟨t', et'⟩ := at2 j h2
    rw [et, et']
    exact Ob.RcOp.ge_int _ _ _ _)
  rw [e1, e2] at R
  exact R X.prog X.w X.xe (EP X pins σ Q) ⟨.bl _, H, I, rfl, q⟩
theorem ge_lex : ∀ (ns ms : List Int) (k : Nat), k ≤ min ns.length ms.length → Ob.lexAt (fun j => decide (ns.getD j 0 = ms.getD j 0)) (fun j => decide (ms.getD j 0 ≤ ns.getD j 0)) (decide (ns.length ≥ ms.length)) k (min ns.length ms.length - k) = geI (ns.drop k) (ms.drop k) := by
  intro ns ms k hk
  generalize hm : min ns.length ms.length - k = m
  induction m generalizing k with
  | zero =>
    rw [Ob.lexAt_zero]
    by_cases h : ms.length ≤ k
    · rw [List.drop_eq_nil_of_le h]
      have z : ns.length ≥ ms.length ∨ ns.length < ms.length := by omega
      rcases z with z | z
      · rw [decide_eq_true z]
        cases ns.drop k <;> rfl
      · have h2 : ns.length ≤ k := by omega
        omega
    · have h2 : ns.length ≤ k := by omega
      rw [List.drop_eq_nil_of_le h2, decide_eq_false (by omega)]
      rw [List.drop_eq_getElem_cons (show k < ms.length by omega)]
      rfl
  | succ m ih =>
    have h1 : k < ns.length := by omega
    have h2 : k < ms.length := by omega
    rw [Ob.lexAt_succ, List.drop_eq_getElem_cons h1, List.drop_eq_getElem_cons h2, ih (k + 1) (by omega) (by omega)]
    have g1 : ns.getD k 0 = ns[k] := by simp [h1]
    have g2 : ms.getD k 0 = ms[k] := by simp [h2]
    simp only [geI, g1, g2, decide_eq_true_eq]
theorem p_ge : Prim2 K dGe (fun x y H Q => rI0 (fun i j => .bl (decide (j ≤ i))) x y H Q ∨ rGeT K x y H Q) := fun G H x y d1 d2 d Q s v1 v2 e q => by
  cases d1 <;> cases d2 <;> simp only [dGe] at e <;> first | cases e | skip
  · exact .inl ⟨_, _, v1.int, v2.int, q _ H (.inl ⟨rfl, rfl⟩)⟩
  · rename_i ds es
    split at e
    · rename_i is js e1 e2
      cases e
      obtain ⟨a, xs, rfl, ha, _, ra⟩ := v1.tup s
      obtain ⟨b, ys, rfl, hb, _, rb⟩ := v2.tup s
      rw [dInts_map e1] at ra
      rw [dInts_map e2] at rb
      rw [ra.ints] at ha
      rw [rb.ints] at hb
      refine .inr ⟨a, b, is, js, rfl, rfl, .inl (.inl ha), .inl (.inl hb), q _ H (.inl ⟨rfl, ?_⟩)⟩
      have z := ge_lex is js 0 (Nat.zero_le _)
      rw [Nat.sub_zero, List.drop_zero, List.drop_zero] at z
      rw [z]
      rfl
    · cases e
abbrev rIsNo : R2 := fun x y H Q => y = .non ∧ Q (.bl (decide (x = .non))) H
def dIsN : D → D → Option D
  | d, .none => some (.bool (match d with | .none => true | _ => false))
  | _, _ => none
def dNotN : D → D → Option D
  | d, .none => some (.bool (match d with | .none => false | _ => true))
  | _, _ => none
theorem vw_non {d : D} {v : V} (h : Vw K G H d v) : decide (v = .non) = (match d with | .none => true | _ => false) := by
  rcases h with h | ⟨p, rfl, ow⟩
  · cases d with
    | none => cases (show _ = _ from h); rfl
    | bool b => cases (show _ = _ from h); rfl
    | int b => cases (show _ = _ from h); rfl
    | str b => cases (show _ = _ from h); rfl
    | list ds => obtain ⟨a, xs, rfl, _⟩ := h; rfl
    | tuple ds => obtain ⟨a, xs, rfl, _⟩ := h; rfl
    | dict kvs => obtain ⟨a, rfl, _⟩ := h; rfl
  · obtain ⟨_, o, _, hd, _⟩ := ow
    cases hd <;> rfl
theorem p_isN : Prim2 K dIsN rIsNo := fun G H x y d1 d2 d Q s v1 v2 e q => by
  cases d2 <;> simp only [dIsN] at e <;> first | cases e | skip
  refine ⟨v2.non, ?_⟩
  rw [vw_non v1]
  cases d1 <;> exact q _ H (.inl ⟨rfl, rfl⟩)
def dAdd : D → D → Option D
  | .int i, .int j => some (.int (i + j))
  | .str a, .str b => if a.length + b.length ≤ sizeLine then some (.str (a ++ b)) else none
  | .tuple a, .tuple b => if a.length + b.length ≤ sizeLine then some (.tuple (a ++ b)) else none
  | .list a, .list b => if a.length + b.length ≤ sizeLine then some (.list (a ++ b)) else none
  | .dict [(.none, .tuple (x :: a))], .tuple (y :: b) => if (x :: a).length + (y :: b).length ≤ sizeLine then some (.tuple (x :: a ++ y :: b)) else none
  | _, _ => none
theorem Vw.flR {ds : List D} {v : V} (h : Vw K G H (.dict [(.none, .tuple ds)]) v) : Rp K G (.dict [(.none, .tuple ds)]) v := by
  rcases h with h | ⟨p, e, _, o, ho, hd, _⟩
  · exact h
  · exfalso
    cases hd with
    | dK r =>
      obtain ⟨x, u, r2, _, ek, _⟩ := r
      cases x <;> cases ek
    | dT r =>
      obtain ⟨x, u, r2, _, ek, _⟩ := r
      cases ek
def dCat : D → D → Option D
  | .list a, .list b => if a.length + b.length ≤ sizeLine then some (.list (a ++ b)) else none
  | _, _ => none
abbrev rAddA (K : PySem.W.Frag) : R2 := fun x y H Q => rI0 (fun i j => .int (i + j)) x y H Q ∨ (∃ i j, x = .str i ∧ y = .str j ∧ i.length + j.length ≤ sizeLine ∧ Q (.str (i ++ j)) H) ∨ rCatA K x y H Q ∨ rCat x y H Q
theorem op_addA {X : Cx} : OpR X (binaryOp .Add) (rAddA X.K) := op_add.or (op_add_str.or (op_catA.or op_cat))
theorem p_add : Prim2 K dAdd (rAddA K) := fun G H x y d1 d2 d Q s v1 v2 e q => by
  unfold dAdd at e
  split at e
  · cases e
    exact .inl ⟨_, _, v1.int, v2.int, q _ H (.inl ⟨rfl, rfl⟩)⟩
  · split at e
    · rename_i h
      cases e
      exact .inr (.inl ⟨_, _, v1.str, v2.str, h, q _ H (.inl ⟨rfl, rfl⟩)⟩)
    · cases e
  · split at e
    · rename_i h
      cases e
      obtain ⟨a, xs, rfl, ha, ga, ra⟩ := v1.tup s
      obtain ⟨b, ys, rfl, hb, gb, rb⟩ := v2.tup s
      refine .inr (.inr (.inl ⟨a, b, xs, ys, rfl, rfl, .inl (.inl ha), .inl (.inl hb), by rw [ra.length, rb.length]; exact h, fun hx => ?_, fun hx hy => ?_, fun _ _ p hp => q _ _ (.inr ⟨p, _, rfl, hp, rfl, .tup (ra.append rb)⟩)⟩))
      · refine q _ H (.inl ⟨rfl, b, ys, rfl, gb, ?_⟩)
        have z := ra.append rb
        rw [hx] at z
        exact z
      · refine q _ H (.inl ⟨rfl, a, xs, rfl, ga, ?_⟩)
        have z := ra.append rb
        rw [hy, List.append_nil] at z
        exact z
    · cases e
  · split at e
    · rename_i h
      cases e
      obtain ⟨a, xs, rfl, ha, _, ra⟩ := v1.lst' s
      obtain ⟨b, ys, rfl, hb, _, rb⟩ := v2.lst' s
      exact .inr (.inr (.inr ⟨a, b, xs, ys, rfl, rfl, ha, hb, by rw [ra.length, rb.length]; exact h, fun p hp => q _ _ (.inr ⟨p, _, rfl, hp, rfl, .lst (ra.append rb)⟩)⟩))
    · cases e
  · split at e
    · rename_i h
      cases e
      obtain ⟨ns, o, a, ed, ex, hq, _⟩ := Rp.fl v1.flR
      subst ex
      obtain ⟨b, ys, rfl, hb, gb, rb⟩ := v2.tup s
      have ra : RpL K G _ (ns.map V.int) := RpL.of_int ns
      rw [← ed] at ra
      refine .inr (.inr (.inl ⟨a, b, _, ys, rfl, rfl, .inl (.inr ⟨o, s.frz hq⟩), .inl (.inl hb), by rw [ra.length, rb.length]; exact h, fun hx => ?_, fun hx hy => ?_, fun _ _ p hp => q _ _ (.inr ⟨p, _, rfl, hp, rfl, .tup (ra.append rb)⟩)⟩))
      · rw [hx] at ra
        obtain ⟨_, _, e0, _⟩ := ra
        cases e0
      · rw [hy] at rb
        obtain ⟨_, _, e0, _⟩ := rb
        cases e0
    · cases e
  · cases e
theorem p_cat : PrimN2 K dCat rCat := fun G H x y d1 d2 d Q s v1 v2 e q => by
  cases d1 <;> cases d2 <;> simp only [dCat] at e <;> first | cases e | skip
  split at e
  · rename_i h
    cases e
    obtain ⟨a, xs, rfl, ha, _, ra⟩ := v1.lst' s
    obtain ⟨b, ys, rfl, hb, _, rb⟩ := v2.lst' s
    exact ⟨a, b, xs, ys, rfl, rfl, ha, hb, by rw [ra.length, rb.length]; exact h, fun p hp => q _ _ ⟨p, _, rfl, hp, rfl, .lst (ra.append rb), trivial⟩⟩
  · cases e
def dSub : D → D → Option D
  | .int i, .int j => some (.int (i - j))
  | _, _ => none
theorem p_sub : Prim2 K dSub (rI0 fun i j => .int (i - j)) := fun G H x y d1 d2 d Q s v1 v2 e q => by
  cases d1 <;> cases d2 <;> simp only [dSub] at e <;> first | cases e | skip
  exact ⟨_, _, v1.int, v2.int, q _ H (.inl ⟨rfl, rfl⟩)⟩
def dMod : D → D → Option D
  | .int i, .int j => if 0 < j then some (.int (i % j)) else none
  | _, _ => none
theorem p_mod : Prim2 K dMod (rI (fun _ j => 0 < j) fun i j => .int (i % j)) := fun G H x y d1 d2 d Q s v1 v2 e q => by
  cases d1 <;> cases d2 <;> simp only [dMod] at e <;> first | cases e | skip
  split at e
  · rename_i h
    cases e
    exact ⟨_, _, v1.int, v2.int, h, q _ H (.inl ⟨rfl, rfl⟩)⟩
  · cases e
def dFdiv : D → D → Option D
  | .int i, .int j => if 0 < j ∧ j.natAbs.log2 < 9000 then some (.int (i / j)) else none
  | _, _ => none
theorem p_fdiv : Prim2 K dFdiv (rI CDivW fun i j => .int (i / j)) := fun G H x y d1 d2 d Q s v1 v2 e q => by
  cases d1 <;> cases d2 <;> simp only [dFdiv] at e <;> first | cases e | skip
  split at e
  · rename_i h
    cases e
    exact ⟨_, _, v1.int, v2.int, h, q _ H (.inl ⟨rfl, rfl⟩)⟩
  · cases e
def dPow : D → D → Option D
  | .int i, .int j => if 0 ≤ j ∧ j ≤ 1000000 ∧ i.natAbs < 2 ^ 64 then some (.int (i ^ j.toNat)) else none
  | _, _ => none
theorem p_pow : Prim2 K dPow (rI CPow fun i j => .int (i ^ j.toNat)) := fun G H x y d1 d2 d Q s v1 v2 e q => by
  cases d1 <;> cases d2 <;> simp only [dPow] at e <;> first | cases e | skip
  split at e
  · rename_i h
    cases e
    exact ⟨_, _, v1.int, v2.int, h, q _ H (.inl ⟨rfl, rfl⟩)⟩
  · cases e
def reps (ds : List D) (k : Int) : List D := (List.replicate k.toNat ds).flatten
theorem RpL.reps {ds : List D} {vs : List V} (h : RpL K G ds vs) : ∀ n : Nat, RpL K G (List.replicate n ds).flatten (List.replicate n vs).flatten
  | 0 => rfl
  | n + 1 => by
    rw [List.replicate_succ, List.replicate_succ, List.flatten_cons, List.flatten_cons]
    exact h.append (RpL.reps h n)
def repFits (n : Nat) (k : Int) : Bool := decide (-(2 ^ 63) ≤ k) && decide (k < 2 ^ 63) && decide (n * k.toNat ≤ sizeLine)
def dRep : D → D → Option D
  | .list a, .int k => if repFits a.length k then some (.list (reps a k)) else none
  | _, _ => none
theorem p_repL : PrimN2 K dRep rRep := fun G H x y d1 d2 d Q s v1 v2 e q => by
  cases d1 <;> cases d2 <;> simp only [dRep] at e <;> first | cases e | skip
  split at e
  · rename_i h
    cases e
    unfold repFits at h
    rw [Bool.and_eq_true, Bool.and_eq_true, decide_eq_true_eq, decide_eq_true_eq, decide_eq_true_eq] at h
    obtain ⟨a, xs, rfl, ha, _, ra⟩ := v1.lst' s
    exact ⟨a, _, xs, rfl, v2.int, ha, h.1.1, h.1.2, by rw [ra.length]; exact h.2, fun p hp => q _ _ ⟨p, _, rfl, hp, rfl, .lst (ra.reps _), trivial⟩⟩
  · cases e
def mulFits (i j : Int) : Bool := (decide (-(2 ^ 64) < i) && decide (i < 2 ^ 64)) || (decide (-(2 ^ 64) < j) && decide (j < 2 ^ 64))
def dMul : D → D → Option D
  | .int i, .int j => if mulFits i j then some (.int (i * j)) else none
  | .list a, .int k => if repFits a.length k then some (.list (reps a k)) else none
  | _, _ => none
abbrev rMulA (K : PySem.W.Frag) : R2 := fun x y H Q => rI CMul (fun i j => .int (i * j)) x y H Q ∨ rRep x y H Q
theorem op_mulA {X : Cx} : OpR X (binaryOp .Mult) (rMulA X.K) := op_mul.or op_rep
theorem p_mul : Prim2 K dMul (rMulA K) := fun G H x y d1 d2 d Q s v1 v2 e q => by
  cases d1 <;> cases d2 <;> simp only [dMul] at e <;> first | cases e | skip
  · split at e
    · rename_i h
      cases e
      unfold mulFits at h
      rw [Bool.or_eq_true, Bool.and_eq_true, Bool.and_eq_true, decide_eq_true_eq, decide_eq_true_eq, decide_eq_true_eq, decide_eq_true_eq] at h
      exact .inl ⟨_, _, v1.int, v2.int, h, q _ H (.inl ⟨rfl, rfl⟩)⟩
    · cases e
  · exact .inr (p_repL G H x y _ _ d Q s v1 v2 e fun v H' po => q v H' po.out)
end

set_option autoImplicit false
section
variable {X : Cx} {K : PySem.W.Frag} {G H : Hp}
def inAny (ds : List D) (x : D) : Bool := ds.any fun z => PyData.eqv z x
def dHas : D → D → Option Bool
  | x, .list ds => if okD x && okD (.list ds) then some (inAny ds x) else none
  | x, .tuple ds => if okD x && okD (.tuple ds) then some (inAny ds x) else none
  | .str x, .str z => (match x.cps.toList with
    | [c] => some (decide (c ∈ z.cps.toList))
    | _ => none)
  | x, .dict [(.none, .tuple ds)] => if okD x && okD (.tuple ds) then some (inAny ds x) else none
  | k, .dict kvs => if keyFits kvs k then some (dGetV kvs k).isSome else none
  | _, _ => none
def dIn (x y : D) : Option D := (dHas x y).map PyData.bool
def dNotIn (x y : D) : Option D := (dHas x y).map fun b => .bool (!b)
def rInT2 (K : PySem.W.Frag) (f : Bool → Bool) : R2 := fun x y H Q => ∃ d ds, Dp K H x d ∧ Dp K H y (.tuple ds) ∧ SeqAt.shaped d = true ∧ SeqAt.shaped (.tuple ds) = true ∧ Q (.bl (f (ds.any fun z => PyData.eqv z d))) H
theorem op_inT2 (hu : X.A.units + 65 < cLine) : OpR X (compareOp .In) (rInT2 X.K id) := by
  intro pins s σ H x y v u Q I rx ry h
  obtain ⟨d, ds, hd, he, sd, se, q⟩ := h
  obtain ⟨as, r1⟩ := Dp.reads I d x v hd rx
  obtain ⟨bs, r2⟩ := Dp.reads I (.tuple ds) y u he ry
  exact SeqAt.in_tuple_reads r2 r1 (SeqAt.canLay_of_shaped se) (SeqAt.canLay_of_shaped sd) (room_in_shaped sd hu) ⟨.bl _, H, I, rfl, q⟩
theorem op_notInT2 (hu : X.A.units + 65 < cLine) : OpR X (compareOp .NotIn) (rInT2 X.K not) := by
  intro pins s σ H x y v u Q I rx ry h
  obtain ⟨d, ds, hd, he, sd, se, q⟩ := h
  obtain ⟨as, r1⟩ := Dp.reads I d x v hd rx
  obtain ⟨bs, r2⟩ := Dp.reads I (.tuple ds) y u he ry
  exact SeqAt.notIn_tuple_reads r2 r1 (SeqAt.canLay_of_shaped se) (SeqAt.canLay_of_shaped sd) (room_in_shaped sd hu) ⟨.bl _, H, I, rfl, q⟩
def AskD (H : Hp) (a : Addr) (y : V) (o : Option V) : Prop := DGet H a y o ∨ (H a = some (.dK []) ∧ DGet (upd H a (.dT [])) a y o) ∨ (H a = some (.dT []) ∧ DGet (upd H a (.dK [])) a y o)
theorem upd_back {H : Hp} {a : Addr} {o o' : HO} (h : H a = some o) : upd (upd H a o') a o = H := by
  funext b
  by_cases z : b = a
  · subst z; rw [upd_same, h]
  · rw [upd_ne z, upd_ne z]
def rInK (f : Bool → Bool) : R2 := fun x y H Q => ∃ a o, y = .ref a ∧ AskD H a x o ∧ Q (.bl (f o.isSome)) H
theorem op_inK (hu : X.A.units + 1 < cLine) : OpR X (compareOp .In) (rInK id) := by
  intro pins s σ H x y v u Q I rx ry h
  obtain ⟨a, o, rfl, hd, q⟩ := h
  cases ry
  rcases hd with hd | ⟨e, hd⟩ | ⟨e, hd⟩
  · exact d_in hu I hd rx fun s3 I3 => ⟨.bl o.isSome, H, I3, rfl, q⟩
  · exact d_in hu (Inv.dKT I e) hd rx fun s3 I3 => ⟨.bl o.isSome, H, by have z := Inv.dTK I3 upd_same; rw [upd_back e] at z; exact z, rfl, q⟩
  · exact d_in hu (Inv.dTK I e) hd rx fun s3 I3 => ⟨.bl o.isSome, H, by have z := Inv.dKT I3 upd_same; rw [upd_back e] at z; exact z, rfl, q⟩
theorem op_notInK (hu : X.A.units + 1 < cLine) : OpR X (compareOp .NotIn) (rInK not) := by
  intro pins s σ H x y v u Q I rx ry h
  obtain ⟨a, o, rfl, hd, q⟩ := h
  cases ry
  rcases hd with hd | ⟨e, hd⟩ | ⟨e, hd⟩
  · exact d_notIn hu I hd rx fun s3 I3 => ⟨.bl (!o.isSome), H, I3, rfl, q⟩
  · exact d_notIn hu (Inv.dKT I e) hd rx fun s3 I3 => ⟨.bl (!o.isSome), H, by have z := Inv.dTK I3 upd_same; rw [upd_back e] at z; exact z, rfl, q⟩
  · exact d_notIn hu (Inv.dTK I e) hd rx fun s3 I3 => ⟨.bl (!o.isSome), H, by have z := Inv.dKT I3 upd_same; rw [upd_back e] at z; exact z, rfl, q⟩
/-- a dict's object, and what a key finds -/
theorem Vw.dict {kvs : List (D × D)} {v : V} (s : Sub G H) (h : Vw K G H (.dict kvs) v) : ∃ a, v = .ref a ∧ ((∃ es, Rd H a (.dK es) ∧ (es = [] → H a = some (.dK es)) ∧ RpK K G kvs es) ∨ (∃ es, Rd H a (.dT es) ∧ (es = [] → H a = some (.dT es)) ∧ RpT K G kvs es) ∨ (∃ ns : List Int, kvs = [(.none, .list (ns.map PyData.int))] ∧ SqL K H a (ns.map V.int)) ∨ ∃ (ns : List Int) (o : Obj), kvs = [(.none, .tuple (ns.map PyData.int))] ∧ H a = some (.frz o (.tup (ns.map V.int))) ∧ o.dict = none) := by
  rcases h with ⟨a, e, ⟨es, q, r⟩ | ⟨es, q, r⟩ | ⟨ns, q, r⟩ | ⟨ns, o, q, r, z⟩⟩ | ⟨p, e, _, o, ho, hd, _⟩
  · exact ⟨a, e, .inl ⟨es, s.rd q, (fun z => by subst z; rcases s.1 a _ q with h | ⟨z, _⟩ <;> first | exact h | cases z), r⟩⟩
  · exact ⟨a, e, .inr (.inl ⟨es, s.rd q, (fun z => by subst z; rcases s.1 a _ q with h | ⟨z, _⟩ <;> first | exact h | cases z), r⟩)⟩
  · exact ⟨a, e, .inr (.inr (.inl ⟨ns, q, s.sqL r⟩))⟩
  · exact ⟨a, e, .inr (.inr (.inr ⟨ns, o, q, s.frz r, z⟩))⟩
  · cases hd with
    | dK r => exact ⟨p, e, .inl ⟨_, .inl ho, fun _ => ho, r⟩⟩
    | dT r => exact ⟨p, e, .inr (.inl ⟨_, .inl ho, fun _ => ho, r⟩)⟩
/-- what the reading of a key gives -/
theorem ask_dict {kvs : List (D × D)} {k : D} {x y : V} (s : Sub G H) (hd : Vw K G H (.dict kvs) y) (hk : Vw K G H k x) (hf : keyFits kvs k = true) :
    ∃ a o, y = .ref a ∧ AskD H a x o ∧ o.isSome = (dGetV kvs k).isSome ∧ ∀ d, dGetV kvs k = some d → ∃ v, o = some v ∧ Rp K G d v := by
  obtain ⟨a, rfl, h⟩ := hd.dict s
  refine ⟨a, ?_⟩
  unfold keyFits at hf
  rcases h with ⟨es, hr, hl, r⟩ | ⟨es, hr, hl2, r⟩ | ⟨ns, e, _⟩ | ⟨ns, _, e, _⟩
  · cases ek : toK1 k with
    | some z =>
      have ed := of_toK1 ek
      subst ed
      have ey := hk.key
      subst ey
      refine ⟨valV es z, rfl, .inl (.inl ⟨es, z, hr, rfl, rfl⟩), ?_, fun d hd => ?_⟩
      · have g := r.get (x := z)
        cases e : dGetV kvs (keyD z) with
        | none => rw [e] at g; rw [g]; rfl
        | some d => rw [e] at g; obtain ⟨v, g1, _⟩ := g; rw [g1]; rfl
      · have g := r.get (x := z)
        rw [hd] at g
        exact g
    | none =>
      simp only [ek, Bool.and_eq_true] at hf
      cases kvs with
      | cons p q =>
        exfalso
        obtain ⟨ak, ad⟩ := p
        obtain ⟨x0, u, r2, _, ek2, _, _⟩ := r
        subst ek2
        rw [List.all_cons, Bool.and_eq_true] at hf
        have z : (toKT (keyD x0)).isSome = true := hf.2.1
        cases x0 <;> cases z
      | nil =>
        have h' : es = [] := r
        subst h'
        cases et : toKT k with
        | none => rw [et] at hf; cases hf.1
        | some ks =>
          have ed := of_toKT et
          subst ed
          obtain ⟨b, eb, hb⟩ := hk.keyT s
          subst eb
          have ha := hl rfl
          have ne : b ≠ a := fun z => by rw [z, ha] at hb; cases hb
          exact ⟨none, rfl, .inr (.inl ⟨ha, .inr ⟨[], ks, b, .inl upd_same, rfl, by rw [upd_ne ne]; exact hb, rfl⟩⟩), rfl, fun d hd => by cases hd⟩
  · cases ek : toK1 k with
    | some z =>
      simp only [ek] at hf
      have ed := of_toK1 ek
      subst ed
      have ey := hk.key
      subst ey
      cases kvs with
      | cons p q =>
        exfalso
        obtain ⟨ak, ad⟩ := p
        obtain ⟨x2, u, r2, _, ek2, _, _⟩ := r
        subst ek2
        rw [List.all_cons, Bool.and_eq_true] at hf
        have z : (toK1 (.tuple (x2.map keyD))).isSome = true := hf.1
        cases z
      | nil =>
        have h' : es = [] := r
        subst h'
        have ha := hl2 rfl
        exact ⟨none, rfl, .inr (.inr ⟨ha, .inl ⟨[], z, .inl upd_same, rfl, rfl⟩⟩), rfl, fun d hd => by cases hd⟩
    | none =>
      simp only [ek, Bool.and_eq_true] at hf
      cases et : toKT k with
      | none => rw [et] at hf; cases hf.1
      | some ks =>
        have ed := of_toKT et
        subst ed
        obtain ⟨b, eb, hb⟩ := hk.keyT s
        subst eb
        refine ⟨valV es ks, rfl, .inl (.inr ⟨es, ks, b, hr, rfl, hb, rfl⟩), ?_, fun d hd => ?_⟩
        · have g := r.get (x := ks)
          cases e : dGetV kvs (.tuple (ks.map keyD)) with
          | none => rw [e] at g; rw [g]; rfl
          | some d => rw [e] at g; obtain ⟨v, g1, _⟩ := g; rw [g1]; rfl
        · have g := r.get (x := ks)
          rw [hd] at g
          exact g
  · exfalso
    subst e
    cases ek : toK1 k with
    | some z =>
      simp only [ek, List.all_cons, Bool.and_eq_true] at hf
      cases hf.1
    | none =>
      simp only [ek, List.all_cons, Bool.and_eq_true] at hf
      cases hf.2.1
  · exfalso
    subst e
    cases ek : toK1 k with
    | some z =>
      simp only [ek, List.all_cons, Bool.and_eq_true] at hf
      cases hf.1
    | none =>
      simp only [ek, List.all_cons, Bool.and_eq_true] at hf
      cases hf.2.1
theorem Vw.fl {ds : List D} {v : V} (s : Sub G H) (h : Vw K G H (.dict [(.none, .tuple ds)]) v) : ∃ (ns : List Int) (o : Obj) (a : Addr), ds = ns.map PyData.int ∧ v = .ref a ∧ H a = some (.frz o (.tup (ns.map V.int))) ∧ o.dict = none := by
  obtain ⟨a, e, h⟩ := h.dict s
  rcases h with ⟨es, _, _, r⟩ | ⟨es, _, _, r⟩ | ⟨ns, e1, _⟩ | ⟨ns, o, e1, h1, h2⟩
  · obtain ⟨x, u, r2, _, ek, _⟩ := r
    cases x <;> cases ek
  · obtain ⟨x, u, r2, _, ek, _⟩ := r
    cases ek
  · cases e1
  · cases e1
    exact ⟨ns, o, a, rfl, e, h1, h2⟩
theorem dpAll_ints : ∀ ns : List Int, DpAll K H (ns.map V.int) (ns.map PyData.int)
  | [] => .nil
  | n :: ns => .cons (.int n) (dpAll_ints ns)
theorem p_inAny {f : Bool → Bool} : Prim2 K (fun x y => (dHas x y).map fun b => .bool (f b)) (fun x y H Q =>
    (∃ d ds, Dp K H x d ∧ Dp K H y (.list ds) ∧ SeqAt.shaped d = true ∧ SeqAt.shaped (.list ds) = true ∧ Q (.bl (f (ds.any fun z => PyData.eqv z d))) H) ∨ rInT2 K f x y H Q ∨
    (∃ (c : Nat) (z : Str), x = .str ⟨#[c]⟩ ∧ y = .str z ∧ Q (.bl (f (decide (c ∈ z.cps.toList)))) H) ∨ rInK f x y H Q) := fun G H x y d1 d2 d Q s v1 v2 e q => by
  cases eh : dHas d1 d2 with
  | none => simp only [eh] at e; cases e
  | some b =>
    simp only [eh] at e
    cases e
    have q := q (.bl (f b)) H (.inl ⟨rfl, rfl⟩)
    unfold dHas at eh
    split at eh
    · split at eh
      · rename_i h
        cases eh
        rw [Bool.and_eq_true] at h
        exact .inl ⟨d1, _, v1.dp s (okD.no h.1), v2.dp s (okD.no h.2), h.1, h.2, q⟩
      · cases eh
    · split at eh
      · rename_i h
        cases eh
        rw [Bool.and_eq_true] at h
        exact .inr (.inl ⟨d1, _, v1.dp s (okD.no h.1), v2.dp s (okD.no h.2), h.1, h.2, q⟩)
      · cases eh
    · rename_i x' z
      split at eh
      · rename_i c hc
        cases eh
        have ex : x' = ⟨#[c]⟩ := by
          obtain ⟨a⟩ := x'
          have : a = #[c] := Array.ext' hc
          rw [this]
        subst ex
        exact .inr (.inr (.inl ⟨c, z, v1.str, v2.str, q⟩))
      · cases eh
    · split at eh
      · rename_i h
        cases eh
        rw [Bool.and_eq_true] at h
        obtain ⟨ns, o, a, ed, ey, hq, _⟩ := v2.fl s
        subst ed ey
        exact .inr (.inl ⟨d1, _, v1.dp s (okD.no h.1), .tup (.inl (.inr ⟨o, hq⟩)) (dpAll_ints ns), h.1, h.2, q⟩)
      · cases eh
    · split at eh
      · rename_i h
        cases eh
        obtain ⟨a, o, ea, hk, hs, _⟩ := ask_dict s v2 v1 h
        exact .inr (.inr (.inr ⟨a, o, ea, hk, by rw [hs]; exact q⟩))
      · cases eh
    · cases eh
theorem op_inAny (hu : X.A.units + 65 < cLine) : OpR X (compareOp .In) (fun x y H Q =>
    (∃ d ds, Dp X.K H x d ∧ Dp X.K H y (.list ds) ∧ SeqAt.shaped d = true ∧ SeqAt.shaped (.list ds) = true ∧ Q (.bl (id (ds.any fun z => PyData.eqv z d))) H) ∨ rInT2 X.K id x y H Q ∨
    (∃ (c : Nat) (z : Str), x = .str ⟨#[c]⟩ ∧ y = .str z ∧ Q (.bl (id (decide (c ∈ z.cps.toList)))) H) ∨ rInK id x y H Q) := (op_inD hu).or ((op_inT2 hu).or (op_in_sign.or (op_inK (by omega))))
theorem op_notInAny (hu : X.A.units + 65 < cLine) : OpR X (compareOp .NotIn) (fun x y H Q =>
    (∃ d ds, Dp X.K H x d ∧ Dp X.K H y (.list ds) ∧ SeqAt.shaped d = true ∧ SeqAt.shaped (.list ds) = true ∧ Q (.bl (not (ds.any fun z => PyData.eqv z d))) H) ∨ rInT2 X.K not x y H Q ∨
    (∃ (c : Nat) (z : Str), x = .str ⟨#[c]⟩ ∧ y = .str z ∧ Q (.bl (not (decide (c ∈ z.cps.toList)))) H) ∨ rInK not x y H Q) := (op_notInD hu).or ((op_notInT2 hu).or (op_notIn_sign.or (op_notInK (by omega))))
def dAt : D → D → Option D
  | .list ds, .int i => atI ds i
  | .tuple ds, .int i => atI ds i
  | .str z, .int i => if z.length ≤ sizeLine then (atI z.cps.toList i).map fun c => .str ⟨#[c]⟩ else none
  | .dict [(.none, .list ds)], .int i => atI ds i
  | .dict [(.none, .tuple ds)], .int i => atI ds i
  | .dict kvs, k => if keyFits kvs k then dGetV kvs k else none
  | _, _ => none
def rIxK : R2 := fun x y H Q => ∃ a v, x = .ref a ∧ DGet H a y (some v) ∧ Q v H
theorem ix_dict (hu : X.A.units + 1 < cLine) : IxR X rIxK := by
  intro value slice pins s σ H x y v u Q I rx ry h hs
  obtain ⟨a, z, rfl, g, q⟩ := h
  obtain rfl : v = Value.ref a := rx
  exact tail_any (dict_typeIs I g) slot_dict_getitem.lookup (d_getItem hu I g ry fun w' s3 I3 rw' => ⟨z, H, I3, rw', q⟩) hs
theorem ix_any (hu : X.A.units + 1 < cLine) : IxR X (fun x y H Q => rIx X.K x y H Q ∨ rIxK x y H Q) := ix_seq.or (ix_dict hu)
theorem RpL.atI {ds : List D} {vs : List V} {i : Int} {d : D} (h : RpL K G ds vs) (e : L2.atI ds i = some d) : ∃ v, L2.atI vs i = some v ∧ Rp K G d v := by
  unfold L2.atI at e ⊢
  rw [h.length]
  cases ej : ixN ds.length i with
  | none => rw [ej] at e; cases e
  | some j =>
    rw [ej] at e
    exact h.get e
theorem p_at : Prim2 K dAt (fun x y H Q => rIx K x y H Q ∨ rIxK x y H Q) := fun G H x y d1 d2 d Q s v1 v2 e q => by
  have dictCase : ∀ kvs, d1 = .dict kvs → keyFits kvs d2 = true → dGetV kvs d2 = some d → rIxK x y H Q := fun kvs e1 hf hg => by
    subst e1
    obtain ⟨a, o, ea, hk, hs, hv⟩ := ask_dict s v1 v2 hf
    obtain ⟨v, ev, rv⟩ := hv d hg
    subst ev
    rcases hk with hk | ⟨_, hk⟩ | ⟨_, hk⟩
    · exact ⟨a, v, ea, hk, q v H (.inl ⟨rfl, rv⟩)⟩
    · rcases hk with ⟨kvs2, k, e2, _, l⟩ | ⟨kvs2, k, b, e2, _, _, l⟩
      · rcases e2 with e2 | ⟨_, e2⟩ <;> (rw [upd_same] at e2; cases e2)
      · rcases e2 with e2 | ⟨_, e2⟩ <;> (rw [upd_same] at e2; cases e2 <;> cases l)
    · rcases hk with ⟨kvs2, k, e2, _, l⟩ | ⟨kvs2, k, b, e2, _, _, l⟩
      · rcases e2 with e2 | ⟨_, e2⟩ <;> (rw [upd_same] at e2; cases e2 <;> cases l)
      · rcases e2 with e2 | ⟨_, e2⟩ <;> (rw [upd_same] at e2; cases e2)
  unfold dAt at e
  split at e
  · rename_i ds i
    obtain ⟨a, xs, rfl, ha, ra⟩ := v1.lst s
    obtain ⟨v, ev, rv⟩ := ra.atI e
    exact .inl (.inl ⟨a, xs, i, v, rfl, v2.int, .inl (.inl ha), ev, q v H (.inl ⟨rfl, rv⟩)⟩)
  · rename_i ds i
    obtain ⟨a, xs, rfl, ha, _, ra⟩ := v1.tup s
    obtain ⟨v, ev, rv⟩ := ra.atI e
    exact .inl (.inr (.inl ⟨a, xs, i, v, rfl, v2.int, .inl (.inl ha), ev, q v H (.inl ⟨rfl, rv⟩)⟩))
  · rename_i z i
    split at e
    · rename_i hz
      cases ec : L2.atI z.cps.toList i with
      | none => rw [ec] at e; cases e
      | some c =>
        rw [ec] at e
        cases e
        exact .inl (.inr (.inr ⟨z, i, c, v1.str, v2.int, hz, ec, q _ H (.inl ⟨rfl, rfl⟩)⟩))
    · cases e
  · rename_i ds i
    obtain ⟨a, rfl, h⟩ := v1.dict s
    rcases h with ⟨es, hr, _, r⟩ | ⟨es, hr, _, r⟩ | ⟨ns, e1, h⟩ | ⟨ns, _, e1, h⟩
    · exfalso
      obtain ⟨x0, u, r2, _, ek2, _, _⟩ := r
      cases x0 <;> cases ek2
    · exfalso
      obtain ⟨x0, u, r2, _, ek2, _, _⟩ := r
      cases ek2
    · cases e1
      obtain ⟨v, ev, rv⟩ := (RpL.of_ints (K := K) (G := G) ns).atI e
      exact .inl (.inl ⟨a, _, i, v, rfl, v2.int, h, ev, q v H (.inl ⟨rfl, rv⟩)⟩)
    · cases e1
  · rename_i ds i
    obtain ⟨ns, o, a, ed, ey, hq, _⟩ := v1.fl s
    subst ed ey
    obtain ⟨v, ev, rv⟩ := (RpL.of_ints (K := K) (G := G) ns).atI e
    exact .inl (.inr (.inl ⟨a, _, i, v, rfl, v2.int, .inl (.inr ⟨o, hq⟩), ev, q v H (.inl ⟨rfl, rv⟩)⟩))
  · rename_i kvs _ _
    split at e
    · rename_i hf
      exact .inr (dictCase kvs rfl hf e)
    · cases e
  · cases e
def dLen : List D → Option D
  | [.list ds] => some (.int ds.length)
  | [.tuple ds] => some (.int ds.length)
  | [.str z] => if z.length ≤ sizeLine then some (.int z.length) else none
  | [.dict [(.none, .list ds)]] => some (.int ds.length)
  | [.dict [(.none, .tuple ds)]] => some (.int ds.length)
  | _ => none
abbrev rLenA (K : PySem.W.Frag) : List V → Hp → VK → Prop := fun xs H Q => (∃ p ys, xs = [.ref p] ∧ (SqL K H p ys ∨ SqT K H p ys) ∧ Q (.int ys.length) H) ∨ (∃ z, xs = [.str z] ∧ z.length ≤ sizeLine ∧ Q (.int z.length) H)
theorem call_lenA : CallR X (.builtin "len") (rLenA X.K) := call_len_seq.or call_len_str
theorem vwl1 {d : D} {xs : List V} (h : VwL K G H [d] xs) : ∃ v, xs = [v] ∧ Vw K G H d v := by
  match xs, h with
  | [v], ⟨h, _⟩ => exact ⟨v, rfl, h⟩
  | [], h => exact h.elim
  | _ :: _ :: _, ⟨_, h⟩ => exact h.elim
theorem p_len : PrimL K dLen (rLenA K) := fun G H xs ds d Q s vw e q => by
  unfold dLen at e
  split at e
  · cases e
    obtain ⟨v, rfl, v⟩ := vwl1 vw
    obtain ⟨a, xs, rfl, ha, ra⟩ := v.lst s
    exact .inl ⟨a, xs, rfl, .inl (.inl (.inl ha)), by rw [ra.length]; exact q _ H (.inl ⟨rfl, rfl⟩)⟩
  · cases e
    obtain ⟨v, rfl, v⟩ := vwl1 vw
    obtain ⟨a, xs, rfl, ha, _, ra⟩ := v.tup s
    exact .inl ⟨a, xs, rfl, .inr (.inl (.inl ha)), by rw [ra.length]; exact q _ H (.inl ⟨rfl, rfl⟩)⟩
  · split at e
    · rename_i hz
      cases e
      obtain ⟨v, rfl, v⟩ := vwl1 vw
      have ev := v.str
      subst ev
      exact .inr ⟨_, rfl, hz, q _ H (.inl ⟨rfl, rfl⟩)⟩
    · cases e
  · cases e
    obtain ⟨v, rfl, v⟩ := vwl1 vw
    obtain ⟨a, rfl, h⟩ := v.dict s
    rcases h with ⟨es, hr, _, r⟩ | ⟨es, hr, _, r⟩ | ⟨ns, e1, h⟩ | ⟨ns, _, e1, h⟩
    · exfalso
      obtain ⟨x0, u, r2, _, ek2, _, _⟩ := r
      cases x0 <;> cases ek2
    · exfalso
      obtain ⟨x0, u, r2, _, ek2, _, _⟩ := r
      cases ek2
    · cases e1
      refine .inl ⟨a, _, rfl, .inl h, ?_⟩
      have z := q (.int (ns.map PyData.int).length) H (.inl ⟨rfl, rfl⟩)
      rw [List.length_map] at z ⊢
      exact z
    · cases e1
  · cases e
    obtain ⟨v, rfl, v⟩ := vwl1 vw
    obtain ⟨ns, o, a, ed, ey, hq, _⟩ := v.fl s
    subst ed ey
    refine .inl ⟨a, _, rfl, .inr (.inl (.inr ⟨o, hq⟩)), ?_⟩
    have z := q (.int (ns.map PyData.int).length) H (.inl ⟨rfl, rfl⟩)
    rw [List.length_map] at z ⊢
    exact z
  · cases e
end

set_option autoImplicit false
section
variable {X : Cx} {c : Ct} {F : Fr} {ρ : Env} {σ : L2.St} {G H : Hp} {K : PySem.W.Frag} {e a b d : Expr} {pos p p2 : Pos}
def mNeg (m : ME) : ME := fun ρ => (m ρ).then fun d ρ' => match d with
  | .int i => .ok (.int (-i)) ρ'
  | _ => .stuck
def mChain (g g' : D → D → Option D) (o1 o2 o3 : Opd) : ME := fun ρ => (o1.ev ρ).then fun x1 ρ1 => (o2.ev ρ1).then fun x2 ρ2 =>
  match o1.fin x1 ρ2, o2.fin x2 ρ2 with
  | some d1, some d2 => (match g d1 d2 with
    | some (.bool true) => (o3.ev ρ2).then fun x3 ρ3 => (match o2.fin x2 ρ3, o3.fin x3 ρ3 with
      | some d2', some d3 => (match g' d2' d3 with
        | some d => .ok d ρ3
        | none => .stuck)
      | _, _ => .stuck)
    | some (.bool false) => .ok (.bool false) ρ2
    | _ => .stuck)
  | _, _ => .stuck
theorem tChain_e {o1 o2 o3 : Opd} {g g' : D → D → Option D} {r r' : R2} (hp : Prim2 c.K g r) (hp' : Prim2 c.K g' r') {Q : VK} (h : tE c (mChain g g' o1 o2 o3) σ H Q) : tChain r r' (tO c o1) (tO c o2) (tO c o3) σ H Q := by
  obtain ⟨F, ρ, G, S, a⟩ := h
  refine tO_ev S ((Ask.then a).imp (GLe.refl G) fun x1 ρ1 a1 v H1 G1 S1 g1 p1 => ?_)
  refine tO_ev S1 ((Ask.then a1).imp g1 fun x2 ρ2 a2 u H2 G2 S2 g2 p2 => ?_)
  cases e1 : o1.fin x1 ρ2 with
  | none => rw [e1] at a2; exact a2.elim
  | some d1 =>
    rw [e1] at a2
    cases e2 : o2.fin x2 ρ2 with
    | none => rw [e2] at a2; exact a2.elim
    | some d2 =>
      rw [e2] at a2
      simp only at a2
      have v1 := (p1.mono g2).vw S2 e1
      have v2 := p2.vw S2 e2
      split at a2
      · rename_i eg
        refine hp G2 H2 v u d1 d2 _ _ S2.sub v1 v2 eg fun z H3 po => ?_
        obtain ⟨G3, S3, g3, r3⟩ := po.state S2
        have ez : z = .bl true := r3
        subst ez
        refine ⟨true, rfl, ?_⟩
        rw [if_pos rfl]
        refine tO_ev S3 ((Ask.then a2).imp ((g1.trans g2).trans g3) fun x3 ρ3 a3 w H4 G4 S4 g4 p4 => ?_)
        cases e4 : o2.fin x2 ρ3 with
        | none => rw [e4] at a3; exact a3.elim
        | some d2' =>
          rw [e4] at a3
          cases e5 : o3.fin x3 ρ3 with
          | none => rw [e5] at a3; exact a3.elim
          | some d3 =>
            rw [e5] at a3
            cases e6 : g' d2' d3 with
            | none => simp only [e6] at a3; exact a3.elim
            | some d =>
              simp only [e6] at a3
              refine hp' G4 H4 u w d2' d3 d Q S4.sub (((p2.mono g3).mono g4).vw S4 e4) (p4.vw S4 e5) e6 fun v' H' po' => ?_
              obtain ⟨G', S', gl', r⟩ := po'.state S4
              exact a3 v' H' G' S' ((((g1.trans g2).trans g3).trans g4).trans gl') r
      · rename_i eg
        refine hp G2 H2 v u d1 d2 _ _ S2.sub v1 v2 eg fun z H3 po => ?_
        obtain ⟨G3, S3, g3, r3⟩ := po.state S2
        have ez : z = .bl false := r3
        subst ez
        refine ⟨false, rfl, ?_⟩
        rw [if_neg Bool.false_ne_true]
        exact a2 _ H3 G3 S3 ((g1.trans g2).trans g3) rfl
      · exact a2.elim
theorem me_chain {op op' : CmpOp} {o1 o2 o3 : Opd} {g g' : D → D → Option D} {r r' : R2} (ho : OpR X (compareOp op) r) (ho' : OpR X (compareOp op') r') (hp : Prim2 c.K g r) (hp' : Prim2 c.K g' r') (ha : PE X a (tO c o1)) (hb : PE X b (tO c o2)) (hd : PE X d (tO c o3))
    (hm : lastMarks [op, op'] [b, d] = false := by with_unfolding_all rfl) : PE X (.Compare a [op, op'] [b, d] pos) (tE c (mChain g g' o1 o2 o3)) :=
  pe_conseq (pe_chain ho ho' ha hb hd hm) fun _ _ _ h => tChain_e hp hp' h
theorem mt_chain {op op' : CmpOp} {o1 o2 o3 : Opd} {g g' : D → D → Option D} {r r' : R2} (ho : OpR X (compareOp op) r) (ho' : OpR X (compareOp op') r') (hp : Prim2 c.K g r) (hp' : Prim2 c.K g' r') (ha : PE X a (tO c o1)) (hb : PE X b (tO c o2)) (hd : PE X d (tO c o3))
    (hm : lastMarks [op, op'] [b, d] = false := by with_unfolding_all rfl) : PT X (.Compare a [op, op'] [b, d] pos) (tT c (mB (mChain g g' o1 o2 o3))) :=
  pt_conseq (pt_chain ho ho' ha hb hd hm) fun _ _ _ h => tChain_e hp hp' (tB_e h)
theorem me_at {o1 o2 : Opd} (hu : X.A.units + 1 < cLine) (hK : X.K = c.K) (ha : PE X a (tO c o1)) (hb : PE X b (tO c o2)) (hs : PlainIx b := by intro _ _; rfl) : PE X (.Subscript a b pos) (tE c (mOp2 dAt o1 o2)) :=
  pe_conseq (pe_ix (ix_any hu) ha hb hs) fun _ _ _ h => by rw [hK]; exact tOp_e p_at h
def oI : Option ME → Env → Rs (Option Int)
  | none, ρ => .ok none ρ
  | some m, ρ => (m ρ).then fun d ρ' => match d with
    | .int i => .ok (some i) ρ'
    | _ => .stuck
def tOI (c : Ct) : Option ME → TO
  | none => tNoPart
  | some m => tPart (tE c m)
theorem tOI_ev {m : Option ME} {R : Option Int → Hp → Prop} (S : State c F ρ σ G H) (a : Ask c F σ G (fun x ρ' => ∀ H' G', State c F ρ' σ G' H' → GLe G G' → R x H') (oI m ρ)) : tOI c m σ H R := by
  cases m with
  | none => exact a H G S (GLe.refl G)
  | some m =>
    refine ⟨F, ρ, G, S, (Ask.then a).imp (GLe.refl G) fun d ρ' k v H' G' S' gl r => ?_⟩
    split at k
    · exact ⟨_, r, k H' G' S' gl⟩
    · exact k.elim
def dCut (d : D) (lo hi : Option Int) : Option D := match d with
  | .list ds => some (.list (cutV' ds lo hi))
  | .tuple ds => some (.tuple (cutV' ds lo hi))
  | .str z => if z.length ≤ sizeLine then some (.str (cutS z lo hi)) else none
  | .dict [(.none, .tuple ds)] => if HT.sIx ds.length 0 lo ≠ 0 then some (.tuple (cutV' ds lo hi)) else none
  | _ => none
where cutV' (ds : List D) (lo hi : Option Int) : List D := (ds.drop (HT.sIx ds.length 0 lo)).take (HT.sIx ds.length ds.length hi - HT.sIx ds.length 0 lo)
def mCut (o : Opd) (lo hi : Option ME) : ME := fun ρ => (o.ev ρ).then fun x ρ1 => (oI lo ρ1).then fun l ρ2 => (oI hi ρ2).then fun h ρ3 => match (o.fin x ρ3).bind fun d => dCut d l h with
  | some d => .ok d ρ3
  | none => .stuck
abbrev rSlAll (K : PySem.W.Frag) : V → Option Int → Option Int → Hp → VK → Prop := fun x lo hi H Q => rSlL K x lo hi H Q ∨ rSlA K x lo hi H Q ∨ rSlS x lo hi H Q
theorem sl_all : L2.SlR X (rSlAll X.K) := SlR.or sl_list (SlR.or sl_tupA sl_str)
theorem RpL.cut {ds : List D} {vs : List V} (h : RpL K G ds vs) (lo hi : Option Int) : RpL K G (dCut.cutV' ds lo hi) (cutV vs lo hi) := by
  unfold dCut.cutV' cutV
  rw [h.length]
  exact (h.drop _).take _
theorem p_cut {x : V} {d d' : D} {lo hi : Option Int} {Q : VK} (s : Sub G H) (v : Vw K G H d x) (e : dCut d lo hi = some d') (q : ∀ v H', POut K G H d' v H' → Q v H') : rSlAll K x lo hi H Q := by
  unfold dCut at e
  split at e
  · cases e
    obtain ⟨a, xs, rfl, ha, ra⟩ := v.lst s
    exact .inl ⟨a, xs, rfl, .inl (.inl ha), fun p hp => q _ _ (.inr ⟨p, _, rfl, hp, rfl, .lst (ra.cut lo hi)⟩)⟩
  rotate_left
  · split at e
    · rename_i z hz
      cases e
      exact .inr (.inr ⟨_, v.str, hz, q _ H (.inl ⟨rfl, rfl⟩)⟩)
    · cases e
  · split at e
    · rename_i hne
      cases e
      obtain ⟨ns, o, a, ed, ex, hq, _⟩ := Rp.fl v.flR
      subst ex
      have ra : RpL K G _ (ns.map V.int) := RpL.of_int ns
      rw [← ed] at ra
      refine .inr (.inl ⟨a, _, rfl, .inl (.inr ⟨o, s.frz hq⟩), fun hw => ?_, fun hw p hp => q _ _ (.inr ⟨p, _, rfl, hp, rfl, .tup (ra.cut lo hi)⟩)⟩)
      have := hw.1
      rw [ra.length] at this
      exact absurd this hne
    · cases e
  · cases e
  · cases e
    obtain ⟨a, xs, rfl, ha, ga, ra⟩ := v.tup s
    refine .inr (.inl ⟨a, xs, rfl, .inl (.inl ha), fun hw => ?_, fun hw p hp => q _ _ (.inr ⟨p, _, rfl, hp, rfl, .tup (ra.cut lo hi)⟩)⟩)
    refine q _ H (.inl ⟨rfl, a, xs, rfl, ga, ?_⟩)
    have z := ra.cut lo hi
    unfold cutV at z
    rw [hw.1, hw.2] at z
    simpa using z
theorem me_cut {o : Opd} {lo hi : Option Expr} {ml mh : Option ME} (hK : X.K = c.K) (he : PE X e (tO c o)) (hl : PO X lo (tOI c ml)) (hh : PO X hi (tOI c mh)) : PE X (.Subscript e (.Slice lo hi none p2) pos) (tE c (mCut o ml mh)) :=
  pe_conseq (pe_slice sl_all he hl hh) fun σ H Q ⟨F, ρ, G, S, a⟩ => by
    rw [hK]
    refine tO_ev S ((Ask.then a).imp (GLe.refl G) fun x ρ1 a1 v H1 G1 S1 g1 p1 => ?_)
    refine tOI_ev S1 ((Ask.then a1).imp g1 fun l ρ2 a2 H2 G2 S2 g2 => ?_)
    refine tOI_ev S2 ((Ask.then a2).imp (g1.trans g2) fun h ρ3 a3 H3 G3 S3 g3 => ?_)
    cases ef : o.fin x ρ3 with
    | none => rw [ef] at a3; exact a3.elim
    | some d =>
      rw [ef] at a3
      cases ec : dCut d l h with
      | none => simp only [Option.bind_some, ec] at a3; exact a3.elim
      | some d' =>
        simp only [Option.bind_some, ec] at a3
        refine p_cut S3.sub (((p1.mono g2).mono g3).vw S3 ef) ec fun v' H' po => ?_
        obtain ⟨G', S', gl', r⟩ := po.state S3
        exact a3 v' H' G' S' (((g1.trans g2).trans g3).trans gl') r
theorem po_no : PO X none (tOI c none) := po_none
theorem po_at {m : ME} (h : PE X e (tE c m)) : PO X (some e) (tOI c (some m)) := po_some h
end

set_option autoImplicit false
section
variable {X : Cx} {c : Ct} {F : Fr} {ρ : Env} {σ : L2.St} {G H : Hp} {K : PySem.W.Frag} {e a b d : Expr} {es : List Expr} {pos p p2 : Pos}
theorem vwl2 {d e : D} {xs : List V} (h : VwL K G H [d, e] xs) : ∃ v u, xs = [v, u] ∧ Vw K G H d v ∧ Vw K G H e u := by
  match xs, h with
  | [v, u], ⟨h, h2, _⟩ => exact ⟨v, u, rfl, h, h2⟩
  | [], h => exact h.elim
  | [_], ⟨_, h⟩ => exact h.elim
  | _ :: _ :: _ :: _, ⟨_, _, h⟩ => exact h.elim
theorem me_fnB {x : Str} {id : String} {os : List Opd} {g : List D → Option D} {r : List V → Hp → VK → Prop} (hc : CallR X (.builtin id) r) (hp : PrimL c.K g r) (hg : Gl X x) (hm : X.mg x = none) (hv : bootBuiltins x = some (.builtin id)) (ha : PA X (e :: es) (tOs c os)) (hn : x ≠ "__name__" := by decide) (hdb : (x == ("__debug__" : Str)) = false := by decide)
    (he : starEach (e :: es) X.env = (false, eval e X.env) :: starEach es X.env := by rfl) (hpl : (backTo pos (starEach es X.env)).any (·.1) = false := by rfl) : PE X (.Call (.Name x p) (e :: es) [] pos) (tE c (mFn g os)) :=
  pe_conseq (pe_callB hc hg hm hv ha hn hdb he hpl) fun _ _ _ h => tCB_e hp h
theorem fe_fnB {x : Str} {id : String} {os : List Opd} {g : List D → Option D} {r : List V → Hp → VK → Prop} (hc : CallR X (.builtin id) r) (hp : PrimNL c.K g r) (hg : Gl X x) (hm : X.mg x = none) (hv : bootBuiltins x = some (.builtin id)) (ha : PA X (e :: es) (tOs c os)) (hn : x ≠ "__name__" := by decide) (hdb : (x == ("__debug__" : Str)) = false := by decide)
    (he : starEach (e :: es) X.env = (false, eval e X.env) :: starEach es X.env := by rfl) (hpl : (backTo pos (starEach es X.env)).any (·.1) = false := by rfl) : PE X (.Call (.Name x p) (e :: es) [] pos) (tF c (mFn g os)) :=
  pe_conseq (pe_callB hc hg hm hv ha hn hdb he hpl) fun _ _ _ h => tCB_f hp h
theorem me_fnT {x : Str} {T : String} {os : List Opd} {g : List D → Option D} {r : List V → Hp → VK → Prop} (hc : CallR X (.type T) r) (hp : PrimL c.K g r) (hg : Gl X x) (hm : X.mg x = none) (hv : bootBuiltins x = some (.type T)) (ha : PA X (e :: es) (tOs c os)) (hn : x ≠ "__name__" := by decide) (hdb : (x == ("__debug__" : Str)) = false := by decide)
    (he : starEach (e :: es) X.env = (false, eval e X.env) :: starEach es X.env := by rfl) (hpl : (backTo pos (starEach es X.env)).any (·.1) = false := by rfl) : PE X (.Call (.Name x p) (e :: es) [] pos) (tE c (mFn g os)) :=
  pe_conseq (pe_callTy hc hg hm hv ha hn hdb he hpl) fun _ _ _ h => tCB_e hp h
theorem fe_fnT {x : Str} {T : String} {os : List Opd} {g : List D → Option D} {r : List V → Hp → VK → Prop} (hc : CallR X (.type T) r) (hp : PrimNL c.K g r) (hg : Gl X x) (hm : X.mg x = none) (hv : bootBuiltins x = some (.type T)) (ha : PA X (e :: es) (tOs c os)) (hn : x ≠ "__name__" := by decide) (hdb : (x == ("__debug__" : Str)) = false := by decide)
    (he : starEach (e :: es) X.env = (false, eval e X.env) :: starEach es X.env := by rfl) (hpl : (backTo pos (starEach es X.env)).any (·.1) = false := by rfl) : PE X (.Call (.Name x p) (e :: es) [] pos) (tF c (mFn g os)) :=
  pe_conseq (pe_callTy hc hg hm hv ha hn hdb he hpl) fun _ _ _ h => tCB_f hp h
def TG (G H : Hp) : Prop := ∀ (q : Addr) (ks : List Key), H q = some (.tup (ks.map kV)) → G q = some (.tup (ks.map kV))
def dList : List D → Option D
  | [.list ds] => some (.list ds)
  | [.tuple ds] => some (.list ds)
  | [.dict [(.none, .tuple ds)]] => some (.list ds)
  | _ => none
abbrev rListA (K : PySem.W.Frag) : List V → Hp → VK → Prop := fun xs H Q => ∃ p ys, xs = [.ref p] ∧ (SqL K H p ys ∨ SqT K H p ys) ∧ ∀ l, H l = none → Q (.ref l) (upd H l (.lst ys))
theorem p_list : PrimNL K dList (rListA K) := fun G H xs ds d Q s vw e q => by
  unfold dList at e
  split at e
  · cases e
    obtain ⟨v, rfl, v⟩ := vwl1 vw
    obtain ⟨a, xs, rfl, ha, ra⟩ := v.lst s
    exact ⟨a, xs, rfl, .inl (.inl (.inl ha)), fun l hl => q _ _ ⟨l, _, rfl, hl, rfl, .lst ra, trivial⟩⟩
  · cases e
    obtain ⟨v, rfl, v⟩ := vwl1 vw
    obtain ⟨a, xs, rfl, ha, _, ra⟩ := v.tup s
    exact ⟨a, xs, rfl, .inr (.inl (.inl ha)), fun l hl => q _ _ ⟨l, _, rfl, hl, rfl, .lst ra, trivial⟩⟩
  · cases e
    obtain ⟨v, rfl, v⟩ := vwl1 vw
    obtain ⟨ns, o, a, ed, ex, hq, _⟩ := v.fl s
    subst ed ex
    exact ⟨a, _, rfl, .inr (.inl (.inr ⟨o, hq⟩)), fun l hl => q _ _ ⟨l, _, rfl, hl, rfl, .lst (RpL.of_int ns), trivial⟩⟩
  · cases e
/-- list(d) of an owned or frozen dict -/
def mKeys (o : Opd) : ME := fun ρ => (o.ev ρ).then fun x ρ' => match o.fin x ρ' with
  | some (.dict kvs) => if (kvs.all fun p => (toK1 p.1).isSome) || (kvs.all fun p => (toKT p.1).isSome) then .ok (.list (kvs.map (·.1))) ρ' else .stuck
  | _ => .stuck
theorem RpK.keys : ∀ {kvs : List (D × D)} {es : List (Key × V)}, RpK K G kvs es → RpL K G (kvs.map (·.1)) (es.map fun kv => kV kv.1)
  | [], _, h => by cases (show _ = _ from h); rfl
  | (k, d) :: r, _, ⟨x, v, r', e, ek, h, t⟩ => by
    subst e ek
    exact ⟨kV x, _, rfl, by cases x <;> rfl, RpK.keys t⟩
theorem RpL.of_keys : ∀ ks : List Key, RpL K G (ks.map keyD) (ks.map kV)
  | [] => rfl
  | k :: ks => ⟨kV k, _, rfl, by cases k <;> rfl, RpL.of_keys ks⟩
theorem RpT.keys (hg : TG G H) : ∀ {kvs : List (D × D)} {es : List (List Key × V)} {bs : List Addr}, RpT K G kvs es → IsKeys H es bs → RpL K G (kvs.map (·.1)) (bs.map V.ref)
  | [], _, bs, h, q => by
    cases (show _ = _ from h)
    cases q
    rfl
  | (k, d) :: r, _, bs, ⟨x, v, r', e, ek, h, t⟩, q => by
    subst e ek
    cases q with
    | cons q1 q2 => exact ⟨V.ref _, _, rfl, ⟨_, _, rfl, hg _ _ q1, .of_keys x⟩, RpT.keys hg t q2⟩
theorem call_listK (hc : X.calm = true) : CallR X (.type "list") (fun xs H Q => ∃ p kvs, xs = [.ref p] ∧ Rd H p (.dK kvs) ∧ ∀ q, H q = none → Q (.ref q) (upd H q (.lst (kvs.map fun kv => kV kv.1)))) := by
  intro pins s σ H xs us Q I r ⟨p, kvs, e0, hrd, q⟩
  subst e0
  obtain ⟨u, eu, rx⟩ := vals1 r
  subst eu
  obtain rfl : u = Value.ref p := rx
  obtain ⟨z0, lo0, vs0, rk0, hd0⟩ := (show ObjOk X.prog X.w H s.heap p (.dK kvs) from hrd.ok I.hok)
  obtain ⟨ep0, at0⟩ := hd0.dictAt
  have len0 : kvs.length = vs0.length := Paired.length rk0
  refine PySem.W.kdl_call (PySem.W.kdl_dict (knd := mixKind X.prog X.w) (kvs := vs0) (ep := ep0) lo0) (I.ok.hd hc) at0 (len0 ▸ z0) fun h2 tk2 acc2 c2 keep2 S2 got2 => ?_
  have vals2 : Vals (kvs.map fun kv => kV kv.1) acc2.toList := by
    have sz2 : acc2.toList.length = acc2.size := by simp
    refine vals_of_at (by rw [List.length_map, sz2, got2.1, len0]) fun j x w h1 h2 => ?_
    obtain ⟨k, y, ky, hi⟩ := got2.2 j w (by rw [← Array.getElem?_toList]; exact h2)
    have e1 : (kvs.map (·.1))[j]? = some k := by
      rw [KV.keys rk0, List.getElem?_map, ky]; rfl
    have e2 : (kvs.map fun kv => kV kv.1) = (kvs.map (·.1)).map kV := by rw [List.map_map]; rfl
    rw [e2, List.getElem?_map, e1] at h1
    cases h1
    exact keyIs_rel hi
  exact ⟨.ref s.heap.objs.size, _, I.laid keep2 (Nat.le_refl _) (show ObjOk X.prog X.w _ _ _ (.lst (kvs.map fun kv => kV kv.1)) from ⟨by rw [List.length_map]; exact z0, acc2.toList, c2, vals2, by rw [Array.toArray_toList]; exact S2⟩), rfl, q _ (I.hok.fresh (Nat.le_refl _))⟩
abbrev rKeysA : List V → Hp → VK → Prop := fun xs H Q => (∃ p kvs, xs = [.ref p] ∧ Rd H p (.dK kvs) ∧ ∀ q, H q = none → Q (.ref q) (upd H q (.lst (kvs.map fun kv => kV kv.1)))) ∨
  (∃ d kvs, xs = [V.ref d] ∧ Rd H d (.dT kvs) ∧ ∀ p bs, H p = none → IsKeys H kvs bs → Q (.ref p) (upd H p (.lst (bs.map V.ref))))
theorem tKeys {o : Opd} {Q : VK} (hK : X.K = c.K) (h : tF c (mKeys o) σ H Q) : tCB rKeysA (tOs c [o]) σ H Q := by
  obtain ⟨F, ρ, G, S, a⟩ := h
  refine tO_ev S ((Ask.then a).imp (GLe.refl G) fun x ρ1 a1 v H1 G1 S1 g1 p1 => ?_)
  split at a1
  · rename_i kvs ef
    split at a1
    · rename_i hk
      obtain ⟨a, ev, h⟩ := (p1.vw S1 ef).dict S1.sub
      subst ev
      rcases h with ⟨es, hr, _, r⟩ | ⟨es, hr, _, r⟩ | ⟨ns, e1, h⟩ | ⟨ns, _, e1, h⟩
      · refine .inl ⟨a, es, rfl, hr, fun q hq => ?_⟩
        exact a1 q _ G1 (S1.alloc hq trivial) g1 (NewAt.of S1 hq (.lst r.keys) trivial)
      · refine .inr ⟨a, es, rfl, hr, fun q bs hq hb => ?_⟩
        exact a1 q _ G1 (S1.alloc hq trivial) g1 (NewAt.of S1 hq (.lst (r.keys S1.tupG hb)) trivial)
      · exfalso
        subst e1
        cases hk
      · exfalso
        subst e1
        cases hk
    · exact a1.elim
  · exact a1.elim
theorem fe_keys {o : Opd} (hK : X.K = c.K) (hc : X.calm = true) (hg : Gl X "list") (hm : X.mg "list" = none) (ha : PA X [e] (tOs c [o]))
    (he : starEach [e] X.env = (false, eval e X.env) :: starEach [] X.env := by rfl) : PE X (.Call (.Name "list" p) [e] [] pos) (tF c (mKeys o)) :=
  pe_conseq (pe_callTy ((call_listK hc).or (call_list_dT hc)) hg hm boot_list ha (he := he)) fun _ _ _ h => tKeys hK h
theorem fe_list {o : Opd} (hK : X.K = c.K) (hg : Gl X "list") (hm : X.mg "list" = none) (ha : PA X [e] (tOs c [o]))
    (he : starEach [e] X.env = (false, eval e X.env) :: starEach [] X.env := by rfl) : PE X (.Call (.Name "list" p) [e] [] pos) (tF c (mFn dList [o])) := by
  refine fe_fnT (c := c) (r := rListA X.K) call_list_of ?_ hg hm boot_list ha (he := he)
  rw [hK]
  exact p_list
def dTuple : List D → Option D
  | [.list ds] => some (.tuple ds)
  | [.tuple ds] => some (.tuple ds)
  | _ => none
abbrev rTupleA (K : PySem.W.Frag) : List V → Hp → VK → Prop := fun xs H Q => ∃ p ys, xs = [.ref p] ∧ ((SqL K H p ys ∧ ∀ l, H l = none → Q (.ref l) (upd H l (.tup ys))) ∨ (SqT K H p ys ∧ Q (.ref p) H))
theorem p_tuple : PrimL K dTuple (rTupleA K) := fun G H xs ds d Q s vw e q => by
  unfold dTuple at e
  split at e
  · cases e
    obtain ⟨v, rfl, v⟩ := vwl1 vw
    obtain ⟨a, xs, rfl, ha, ra⟩ := v.lst s
    exact ⟨a, xs, rfl, .inl ⟨.inl (.inl ha), fun l hl => q _ _ (.inr ⟨l, _, rfl, hl, rfl, .tup ra⟩)⟩⟩
  · cases e
    obtain ⟨v, rfl, v⟩ := vwl1 vw
    obtain ⟨a, xs, rfl, ha, ga, ra⟩ := v.tup s
    exact ⟨a, xs, rfl, .inr ⟨.inl (.inl ha), q _ H (.inl ⟨rfl, a, xs, rfl, ga, ra⟩)⟩⟩
  · cases e
def dInt : List D → Option D
  | [.int i] => some (.int i)
  | [.bool b] => some (.int (if b then 1 else 0))
  | _ => none
theorem p_int : PrimL K dInt (fun xs H Q => (∃ i, xs = [.int i] ∧ Q (.int i) H) ∨ ∃ k, xs = [.bl k] ∧ Q (.int (if k then 1 else 0)) H) := fun G H xs ds d Q s vw e q => by
  unfold dInt at e
  split at e
  · cases e
    obtain ⟨v, rfl, v⟩ := vwl1 vw
    exact .inl ⟨_, by rw [v.int], q _ H (.inl ⟨rfl, rfl⟩)⟩
  · cases e
    obtain ⟨v, rfl, v⟩ := vwl1 vw
    exact .inr ⟨_, by rw [v.bl], q _ H (.inl ⟨rfl, rfl⟩)⟩
  · cases e
def dAbs : List D → Option D
  | [.int i] => some (.int (if i < 0 then -i else i))
  | _ => none
def dMin2 : List D → Option D
  | [.int i, .int j] => some (.int (if j < i then j else i))
  | _ => none
def dMax2 : List D → Option D
  | [.int i, .int j] => some (.int (if j > i then j else i))
  | _ => none
theorem p_min2 : PrimL K dMin2 (fun xs H Q => ∃ i j, xs = [.int i, .int j] ∧ Q (.int (if j < i then j else i)) H) := fun G H xs ds d Q s vw e q => by
  unfold dMin2 at e
  split at e
  · cases e
    obtain ⟨v, u, rfl, v, u⟩ := vwl2 vw
    exact ⟨_, _, by rw [v.int, u.int], q _ H (.inl ⟨rfl, rfl⟩)⟩
  · cases e
theorem p_max2 : PrimL K dMax2 (fun xs H Q => ∃ i j, xs = [.int i, .int j] ∧ Q (.int (if j > i then j else i)) H) := fun G H xs ds d Q s vw e q => by
  unfold dMax2 at e
  split at e
  · cases e
    obtain ⟨v, u, rfl, v, u⟩ := vwl2 vw
    exact ⟨_, _, by rw [v.int, u.int], q _ H (.inl ⟨rfl, rfl⟩)⟩
  · cases e
def dFold (f : List Int → Option Int) : List D → Option D
  | [.list ds] => ((dInts ds).bind f).map PyData.int
  | _ => none
def dBls : List D → Option (List Bool)
  | [] => some []
  | .bool i :: r => (dBls r).map fun is => i :: is
  | _ :: _ => none
theorem dBls_vals : ∀ {ds : List D} {bs : List Bool} {vs : List V}, dBls ds = some bs → RpL K G ds vs → vs = bs.map V.bl
  | [], _, _, h, r => by cases h; exact r
  | .bool i :: ds, _, vs, h, ⟨v, r', e, h1, t⟩ => by
    simp only [dBls] at h
    cases eb : dBls ds with
    | none => rw [eb] at h; cases h
    | some bs =>
      rw [eb] at h
      cases h
      rw [e, (show v = .bl i from h1), dBls_vals eb t]; rfl
  | .none :: _, _, _, h, _ => by cases h
  | .int _ :: _, _, _, h, _ => by cases h
  | .str _ :: _, _, _, h, _ => by cases h
  | .list _ :: _, _, _, h, _ => by cases h
  | .tuple _ :: _, _, _, h, _ => by cases h
  | .dict _ :: _, _, _, h, _ => by cases h
def dAll : List D → Option D
  | [.list ds] => (dBls ds).map fun bs => .bool (bs.all id)
  | _ => none
theorem p_all : PrimL K dAll (rAll K) := fun G H xs ds d Q s vw e q => by
  unfold dAll at e
  split at e
  · rename_i ds
    obtain ⟨v, rfl, v⟩ := vwl1 vw
    obtain ⟨a, xs, rfl, ha, ra⟩ := v.lst s
    cases eb : dBls ds with
    | none => rw [eb] at e; cases e
    | some bs =>
      rw [eb] at e
      cases e
      rw [dBls_vals eb ra] at ha
      exact ⟨a, bs, rfl, .inl (.inl ha), q _ H (.inl ⟨rfl, rfl⟩)⟩
  · cases e
end

set_option autoImplicit false
section
variable {X : Cx} {c : Ct} {F : Fr} {ρ : Env} {σ : L2.St} {G H : Hp} {K : PySem.W.Frag} {e a b d : Expr} {es : List Expr} {pos p p2 p3 tpos : Pos}
def dTy : D → Option String
  | .none => some "NoneType"
  | .bool _ => some "bool"
  | .int _ => some "int"
  | .str _ => some "str"
  | .list _ => some "list"
  | .tuple _ => some "tuple"
  | .dict [(.none, .tuple _)] => some "tuple"
  | .dict _ => none
def isB (t T : String) : Bool := t == T || (t == "bool" && T == "int")
theorem Vw.ty {d : D} {v : V} {t : String} (s : Sub G H) (h : Vw K G H d v) (e : dTy d = some t) : TyX K H v (.type t) := by
  cases d with
  | none => cases e; rw [h.non]; exact .base .non
  | bool b => cases e; rw [h.bl]; exact .base (.bl b)
  | int b => cases e; rw [h.int]; exact .base (.int b)
  | str b => cases e; rw [h.str]; exact .base (.str b)
  | list ds => cases e; obtain ⟨a, xs, rfl, ha, _⟩ := h.lst s; exact .base (.lst ha)
  | tuple ds => cases e; obtain ⟨a, xs, rfl, ha, _⟩ := h.tup s; exact .base (.tup ha)
  | dict kvs =>
    by_cases hk : ∃ ds, kvs = [(.none, .tuple ds)]
    · obtain ⟨ds, rfl⟩ := hk
      cases e
      obtain ⟨ns, o, a, _, ex, hq, _⟩ := h.fl s
      subst ex
      exact .fTuple hq
    · exfalso
      rcases kvs with _ | ⟨⟨k, d⟩, _ | ⟨_, _⟩⟩
      · cases e
      · cases k <;> first | (cases e; done) | skip
        cases d <;> first | (cases e; done) | exact hk ⟨_, rfl⟩
      · cases k <;> first | (cases e; done) | skip
        cases d <;> cases e
theorem kit_isB {d : D} {t T : String} (e : dTy d = some t) (hT : T = "int" ∨ T = "bool" ∨ T = "str" ∨ T = "list" ∨ T = "tuple") : PySem.W.kitOne K (.type t) (.type T) = some (isB t T) := by
  refine kit_ty ?_
  unfold dTy at e
  split at e <;> cases e <;> rcases hT with rfl | rfl | rfl | rfl | rfl <;> decide +kernel
def mIsi (Ts : List String) (o : Opd) : ME := fun ρ => (o.ev ρ).then fun x ρ' => match (o.fin x ρ').bind dTy with
  | some t => .ok (.bool (Ts.any fun T => isB t T)) ρ'
  | none => .stuck
theorem pa_ty {T : String} {x : Str} (hg : Gl X x) (hm : X.mg x = none) (hv : bootBuiltins x = some (.type T)) (hn : x ≠ "__name__" := by decide) (hd : (x == ("__debug__" : Str)) = false := by decide) : PE X (.Name x pos) (tC (.ty T)) := pe_bltn hg hm hv rfl hn hd
theorem me_isi {o : Opd} {T : String} {x : Str} (hK : X.K = c.K) (hi : Gl X "isinstance") (hmi : X.mg "isinstance" = none) (hg : Gl X x) (hm : X.mg x = none) (hv : bootBuiltins x = some (.type T)) (he : PE X e (tO c o)) (hT : T = "int" ∨ T = "bool" ∨ T = "str" ∨ T = "list" ∨ T = "tuple" := by decide) (hn : x ≠ "__name__" := by decide) (hd : (x == ("__debug__" : Str)) = false := by decide)
    (hs : starEach [e, .Name x p2] X.env = (false, eval e X.env) :: starEach [.Name x p2] X.env := by rfl) (hs2 : starEach [.Name x p2] X.env = (false, eval (.Name x p2) X.env) :: starEach [] X.env := by rfl) (hpl : (backTo pos (starEach [.Name x p2] X.env)).any (·.1) = false := by rfl) :
    PE X (.Call (.Name "isinstance" p) [e, .Name x p2] [] pos) (tE c (mIsi [T] o)) :=
  pe_conseq (pe_callB call_isi hi hmi boot_isinstance (pa_cons he (pa_cons (pa_ty hg hm hv hn hd) pa_nil hs2) hs) (he := hs) (hpl := hpl)) fun σ H Q ⟨F, ρ, G, S, a⟩ => by
    show tO c o σ H fun x H1 => rIsi X.K [x, .ty T] H1 Q
    refine tO_ev S ((Ask.then a).imp (GLe.refl G) fun x ρ1 a1 v H1 G1 S1 g1 p1 => ?_)
    cases ef : o.fin x ρ1 with
    | none => rw [ef] at a1; exact a1.elim
    | some d =>
      rw [ef] at a1
      cases et : dTy d with
      | none => simp only [Option.bind_some, et] at a1; exact a1.elim
      | some t =>
        simp only [Option.bind_some, et] at a1
        rw [hK]
        refine ⟨v, .ty T, .type t, .type T, isB t T, rfl, .ty T, (p1.vw S1 ef).ty S1.sub et, kit_isB et hT, ?_⟩
        have z := a1 (.bl (isB t T)) H1 G1 S1 g1
        simp only [List.any_cons, List.any_nil, Bool.or_false] at z
        exact z rfl
theorem me_isi2 {o : Opd} {T T2 : String} {x y : Str} {k : Nat} (hK : X.K = c.K) (hi : Gl X "isinstance") (hmi : X.mg "isinstance" = none) (hg : Gl X x) (hm : X.mg x = none) (hv : bootBuiltins x = some (.type T)) (hg2 : Gl X y) (hm2 : X.mg y = none) (hv2 : bootBuiltins y = some (.type T2)) (he : PE X e (tO c o)) (hT : T = "int" ∨ T = "bool" ∨ T = "str" ∨ T = "list" ∨ T = "tuple" := by decide) (hT2 : T2 = "int" ∨ T2 = "bool" ∨ T2 = "str" ∨ T2 = "list" ∨ T2 = "tuple" := by decide)
    (hn : x ≠ "__name__" := by decide) (hd : (x == ("__debug__" : Str)) = false := by decide) (hn2 : y ≠ "__name__" := by decide) (hd2 : (y == ("__debug__" : Str)) = false := by decide)
    (hs : starEach [e, .Tuple [.Name x p2, .Name y p3] k tpos] X.env = (false, eval e X.env) :: starEach [.Tuple [.Name x p2, .Name y p3] k tpos] X.env := by rfl) (hs2 : starEach [.Tuple [.Name x p2, .Name y p3] k tpos] X.env = (false, eval (.Tuple [.Name x p2, .Name y p3] k tpos) X.env) :: starEach [] X.env := by rfl)
    (hs3 : starEach [.Name x p2, .Name y p3] X.env = (false, eval (.Name x p2) X.env) :: starEach [.Name y p3] X.env := by rfl) (hs4 : starEach [.Name y p3] X.env = (false, eval (.Name y p3) X.env) :: starEach [] X.env := by rfl) (hpl : (backTo pos (starEach [.Tuple [.Name x p2, .Name y p3] k tpos] X.env)).any (·.1) = false := by rfl) :
    PE X (.Call (.Name "isinstance" p) [e, .Tuple [.Name x p2, .Name y p3] k tpos] [] pos) (tE c (mIsi [T, T2] o)) :=
  pe_conseq (pe_callB call_isiT hi hmi boot_isinstance (pa_cons he (pa_cons (pe_tup (pa_cons (pa_ty hg hm hv hn hd) (pa_cons (pa_ty hg2 hm2 hv2 hn2 hd2) pa_nil hs4) hs3)) pa_nil hs2) hs) (he := hs) (hpl := hpl)) fun σ H Q ⟨F, ρ, G, S, a⟩ => by
    show tO c o σ H fun x H1 => _
    refine tO_ev S ((Ask.then a).imp (GLe.refl G) fun x ρ1 a1 v H1 G1 S1 g1 p1 => ?_)
    cases ef : o.fin x ρ1 with
    | none => rw [ef] at a1; exact a1.elim
    | some d =>
      rw [ef] at a1
      cases et : dTy d with
      | none => simp only [Option.bind_some, et] at a1; exact a1.elim
      | some t =>
        simp only [Option.bind_some, et] at a1
        refine (show _ ∧ _ from ⟨by show 2 ≤ sizeLine; rw [sizeLine_eq]; omega, fun q hq => ?_⟩)
        have S2 := S1.add (o := .tup [V.ty T, V.ty T2]) hq
        have gl2 : GLe G1 (upd G1 q (.tup [V.ty T, V.ty T2])) := GLe.upd (S1.gnone hq)
        rw [hK]
        have ka : PySem.W.kitAny c.K (.type t) [.type T, .type T2] = some (isB t T || isB t T2) := by
          refine kitAny_cons (kit_isB et hT) (fun h => ?_) fun h => by rw [h]; rfl
          rw [h, Bool.false_or]
          exact kitAny_cons (kit_isB et hT2) (fun h => by rw [h]; rfl) fun h => h
        refine ⟨v, q, [V.ty T, V.ty T2], .type t, [.type T, .type T2], _, rfl, upd_same, .cons (.ty T) (.cons (.ty T2) .nil), ((p1.mono gl2).vw S2 (d := d) ef).ty S2.sub et, ka, ?_⟩
        · have z := a1 (.bl (isB t T || isB t T2)) _ _ S2 (g1.trans gl2)
          simp only [List.any_cons, List.any_nil, Bool.or_false] at z
          exact z rfl
variable {α : Type}
def ins (le : α → α → Bool) (a : α) : List α → List α
  | [] => [a]
  | b :: l => if le a b = true then a :: b :: l else b :: ins le a l
def isort (le : α → α → Bool) : List α → List α
  | [] => []
  | a :: l => ins le a (isort le l)
theorem ins_perm (le : α → α → Bool) (a : α) : ∀ l : List α, (ins le a l).Perm (a :: l)
  | [] => List.Perm.refl _
  | b :: l => by
    unfold ins
    by_cases h : le a b = true
    · rw [if_pos h]
    · rw [if_neg h]
      exact ((ins_perm le a l).cons b).trans (List.Perm.swap a b l)
theorem isort_perm (le : α → α → Bool) : ∀ l : List α, (isort le l).Perm l
  | [] => List.Perm.refl _
  | a :: l => (ins_perm le a (isort le l)).trans ((isort_perm le l).cons a)
theorem ins_sorted {le : α → α → Bool} (tr : ∀ a b c, le a b = true → le b c = true → le a c = true) (tot : ∀ a b, le a b = true ∨ le b a = true) (a : α) : ∀ {l : List α}, l.Pairwise (fun x y => le x y = true) → (ins le a l).Pairwise fun x y => le x y = true
  | [], _ => List.pairwise_singleton _ _
  | b :: l, h => by
    unfold ins
    have hb := List.pairwise_cons.mp h
    by_cases q : le a b = true
    · rw [if_pos q]
      refine List.pairwise_cons.mpr ⟨fun z hz => ?_, h⟩
      rcases List.mem_cons.mp hz with e | hz
      · rw [e]; exact q
      · exact tr _ _ _ q (hb.1 z hz)
    · rw [if_neg q]
      refine List.pairwise_cons.mpr ⟨fun z hz => ?_, ins_sorted tr tot a hb.2⟩
      rcases List.mem_cons.mp ((ins_perm le a l).mem_iff.mp hz) with e | hz
      · rw [e]; exact (tot a b).resolve_left q
      · exact hb.1 z hz
theorem isort_sorted {le : α → α → Bool} (tr : ∀ a b c, le a b = true → le b c = true → le a c = true) (tot : ∀ a b, le a b = true ∨ le b a = true) : ∀ l : List α, (isort le l).Pairwise fun x y => le x y = true
  | [] => List.Pairwise.nil
  | a :: l => ins_sorted tr tot a (isort_sorted tr tot l)
def sortI (ns : List Int) : List Int := isort (fun a b => decide (a ≤ b)) ns
theorem sortI_uniq {ns ms : List Int} (h : ms.Perm ns) (hs : ms.Pairwise (· ≤ ·)) : ms = sortI ns := by
  refine List.Perm.eq_of_pairwise (le := (· ≤ ·)) (fun a b _ _ h1 h2 => Int.le_antisymm h1 h2) hs ?_ (h.trans (isort_perm _ _).symm)
  exact (isort_sorted (le := fun a b : Int => decide (a ≤ b)) (fun a b c h1 h2 => by simp at *; omega) (fun a b => by simp; omega) ns).imp fun h => by simpa using h
def leP (p q : Int × Int) : Bool := !SrtO.lexB q p
theorem leP_iff {p q : Int × Int} : leP p q = true ↔ p.1 < q.1 ∨ (p.1 = q.1 ∧ p.2 ≤ q.2) := by
  unfold leP
  rw [Bool.not_eq_true', SrtO.lexB_no]
  omega
def sortP (ps : List (Int × Int)) : List (Int × Int) := isort leP ps
theorem sortP_uniq {ns ms : List (Int × Int)} (h : ms.Perm ns) (hs : ms.Pairwise fun x y => leP x y = true) : ms = sortP ns := by
  refine List.Perm.eq_of_pairwise (le := fun x y => leP x y = true) (fun a b _ _ h1 h2 => ?_) hs (isort_sorted (fun a b c h1 h2 => ?_) (fun a b => ?_) ns) (h.trans (isort_perm _ _).symm)
  · rw [leP_iff] at h1 h2
    obtain ⟨a1, a2⟩ := a
    obtain ⟨b1, b2⟩ := b
    simp only at h1 h2
    rw [show a1 = b1 by omega, show a2 = b2 by omega]
  · rw [leP_iff] at *
    omega
  · rw [leP_iff, leP_iff]
    omega
def pairD (p : Int × Int) : D := .tuple [.int p.1, .int p.2]
def dPairs : List D → Option (List (Int × Int))
  | [] => some []
  | .tuple [.int i, .int j] :: r => (dPairs r).map fun is => (i, j) :: is
  | _ :: _ => none
theorem dPairs_of : ∀ is : List (Int × Int), dPairs (is.map pairD) = some is
  | [] => rfl
  | i :: is => by
    show (dPairs (is.map pairD)).map _ = _
    rw [dPairs_of is]; rfl
theorem dPairs_map : ∀ {ds : List D} {is : List (Int × Int)}, dPairs ds = some is → ds = is.map pairD
  | [], _, h => by cases h; rfl
  | d :: r, is, h => by
    unfold dPairs at h
    split at h
    · rename_i e0; cases e0
    · rename_i i j r' e1
      cases e1
      cases e : dPairs r with
      | none => rw [e] at h; cases h
      | some is' =>
        rw [e] at h
        cases h
        rw [dPairs_map e]; rfl
    · cases h
def dSort : List D → Option D
  | [.list ds] => (match dInts ds with
    | some is => some (.list ((sortI is).map PyData.int))
    | none => (match dPairs ds with
      | some ps => some (.list ((sortP ps).map pairD))
      | none => none))
  | _ => none
/-- the ints of a pair's value -/
noncomputable def keyOf (H : Hp) : V → Int × Int
  | .ref a => (match H a with
    | some (.tup [.int i, .int j]) => (i, j)
    | _ => (0, 0))
  | _ => (0, 0)
theorem RpL.pairs (s : Sub G H) : ∀ {ps : List (Int × Int)} {vs : List V}, RpL K G (ps.map pairD) vs → vs.map (keyOf H) = ps ∧ ∀ x ∈ vs, ∃ t, x = V.ref t ∧ H t = some (.tup [.int (keyOf H x).1, .int (keyOf H x).2]) ∧ Rp K G (pairD (keyOf H x)) x
  | [], _, h => by cases (show _ = _ from h); exact ⟨rfl, fun x hx => by cases hx⟩
  | p :: ps, _, ⟨v, r, e, h, t⟩ => by
    subst e
    obtain ⟨h1, h2⟩ := RpL.pairs s t
    have h' := h
    obtain ⟨a, xs, e, q, v1, r1, ex, e1, v2, r2, ey, e2, e3⟩ := h
    have e3' : r2 = [] := e3
    have e1' : v1 = .int p.1 := e1
    have e2' : v2 = .int p.2 := e2
    subst e ex ey e3' e1' e2'
    have ha := s.tup q
    have ek : keyOf H (V.ref a) = p := by
      show (match H a with
        | some (.tup [.int i, .int j]) => (i, j)
        | _ => (0, 0)) = p
      rw [ha]
    refine ⟨by rw [List.map_cons, h1, ek], fun x hx => ?_⟩
    rcases List.mem_cons.mp hx with e | hx
    · subst e
      exact ⟨a, rfl, by rw [ek]; exact ha, by rw [ek]; exact h'⟩
    · exact h2 x hx
theorem RpL.mem : ∀ {ds : List D} {vs : List V} , RpL K G ds vs → ∀ v ∈ vs, ∃ d ∈ ds, Rp K G d v
  | [], _, h, v, hv => by cases (show _ = _ from h); cases hv
  | d :: ds, _, ⟨u, r, e, h, t⟩, v, hv => by
    subst e
    rcases List.mem_cons.mp hv with e | hv
    · exact ⟨d, List.mem_cons_self, by rw [e]; exact h⟩
    · obtain ⟨d', h1, h2⟩ := RpL.mem t v hv
      exact ⟨d', List.mem_cons_of_mem _ h1, h2⟩
theorem RpL.build {f : V → D} : ∀ {vs : List V}, (∀ v ∈ vs, Rp K G (f v) v) → RpL K G (vs.map f) vs
  | [], _ => rfl
  | v :: vs, h => ⟨v, vs, rfl, h v List.mem_cons_self, RpL.build fun u hu => h u (List.mem_cons_of_mem _ hu)⟩
theorem p_sort : PrimNL K dSort (fun vs H Q => rSortedI K vs H Q ∨ rSortedPO K vs H Q) := fun G H xs ds d Q s vw e q => by
  unfold dSort at e
  split at e
  · rename_i ds
    obtain ⟨v, rfl, v⟩ := vwl1 vw
    obtain ⟨a, xs, rfl, ha, ra⟩ := v.lst s
    split at e
    · rename_i is ei
      cases e
      rw [dInts_map ei] at ra
      rw [ra.ints] at ha
      refine .inl ⟨a, is, rfl, .inl (.inl ha), fun ns p hp hs hn => ?_⟩
      rw [sortI_uniq hp hs]
      exact q _ _ ⟨p, _, rfl, hn, rfl, .lst (.of_ints _), trivial⟩
    · split at e
      · rename_i ps ep
        cases e
        rw [dPairs_map ep] at ra
        obtain ⟨h1, h2⟩ := ra.pairs s
        refine .inr ⟨a, xs, keyOf H, rfl, .inl (.inl ha), fun x hx => ?_, fun ys p hs hb hn => ?_⟩
        · obtain ⟨t, e1, e2, _⟩ := h2 x hx
          exact ⟨t, e1, e2⟩
        · have er : (ys.map (keyOf H)) = sortP ps := by
            refine sortP_uniq (by rw [← h1]; exact hb.perm.map _) ?_
            refine List.pairwise_map.mpr (hs.imp fun {x y} h => ?_)
            have h' : SrtO.lexB (keyOf H y) (keyOf H x) = false := h
            unfold leP
            rw [h']; rfl
          refine q _ _ ⟨p, _, rfl, hn, rfl, .lst ?_, trivial⟩
          rw [← er, List.map_map]
          exact RpL.build fun v hv => (h2 v (hb.perm.mem_iff.mp hv)).choose_spec.2.2
      · cases e
  · cases e
theorem fe_sort {o : Opd} (hK : X.K = c.K) (hg : Gl X "sorted") (hm : X.mg "sorted" = none) (ha : PA X [e] (tOs c [o]))
    (he : starEach [e] X.env = (false, eval e X.env) :: starEach [] X.env := by rfl) : PE X (.Call (.Name "sorted" p) [e] [] pos) (tF c (mFn dSort [o])) := by
  refine fe_fnB (c := c) (r := fun vs H Q => rSortedI X.K vs H Q ∨ rSortedPO X.K vs H Q) (cr_sortedI.or cr_sortedPO) ?_ hg hm boot_sorted ha (he := he)
  rw [hK]
  exact p_sort
end

set_option autoImplicit false
section
variable {X : Cx} {c : Ct} {F : Fr} {ρ : Env} {σ : L2.St} {G H : Hp} {K : PySem.W.Frag} {e a b d : Expr} {es : List Expr} {pos p p2 p3 tpos : Pos}
def mDict0 : ME := fun ρ => .ok (.dict []) ρ
theorem fe_dict0 : PE X (.Dict [] [] pos) (tF c mDict0) := pe_conseq pe_dnewK fun σ H Q ⟨F, ρ, G, S, a⟩ p hp =>
  a p _ G (S.alloc (o := .dK []) hp trivial) (GLe.refl G) (NewAt.of S hp (.dK rfl) trivial)
def RpP (K : PySem.W.Frag) (G : Hp) : List (D × D) → List (V × V) → Prop
  | [], ps => ps = []
  | (k, d) :: r, ps => ∃ x y t, ps = (x, y) :: t ∧ Rp K G k x ∧ Rp K G d y ∧ RpP K G r t
theorem RpP.keys : ∀ {ds : List (D × D)} {ps : List (V × V)}, RpP K G ds ps → (ds.all fun p => (toK1 p.1).isSome) = true →
    ∃ es : List (Key × V), ps = es.map (fun kv => (kV kv.1, kv.2)) ∧ es.length = ds.length ∧ ∀ (kvs : List (D × D)) (fs : List (Key × V)), RpK K G kvs fs → RpK K G (ds.foldl (fun acc p => dPutV acc p.1 p.2) kvs) (mergeK fs es)
  | [], ps, h, _ => by
    cases (show _ = _ from h)
    exact ⟨[], rfl, rfl, fun kvs fs r => r⟩
  | (k, d) :: r, ps, ⟨x, y, t, e, hk, hd, ht⟩, h => by
    rw [List.all_cons, Bool.and_eq_true] at h
    obtain ⟨es, e1, e2, e3⟩ := RpP.keys ht h.2
    cases ek : toK1 k with
    | none => rw [ek] at h; cases h.1
    | some z =>
      have ed := of_toK1 ek
      subst ed
      have ex := Rp.key hk
      subst ex
      refine ⟨(z, y) :: es, by rw [e, e1]; rfl, by rw [List.length_cons, List.length_cons, e2], fun kvs fs q => ?_⟩
      exact e3 _ _ (q.put hd)
def Cal (P : Program) (w : World) (K : PySem.W.Frag) (mg : Str → Option Value) (base : Heap) (T : List (Addr × Str)) (x : Str) (k n : Nat) (f : FM) : Prop :=
  ∃ (fa : Addr) (fd : FuncData) (ps : List Str), FnOk P w K mg base (L2.CX P w) k fa fd ps (spM K T mg n f) ∧ mg x = some (.ref fa) ∧ PySem.W.keepIn K (.ref fa) = true ∧ Binds K fd ps []
theorem me_cal {k j : Nat} {x : Str} {n : Nat} {m : FM} {as : List Arg} (C : Cal X.prog X.w X.K X.mg X.base c.T x j n m) (hK : c.K = X.K) (hG : c.mg = X.mg) (hr : Room k X.A) (tk : Takes X c.W) (hg : Gl X x) (ha : PA X (e :: es) (tAs c as)) (hj : j ≤ k := by decide) (hl : as.length = n := by rfl) (hnd : (ioIx as).Nodup := by decide)
    (hdb : (x == ("__debug__" : Str)) = false := by decide) (he : starEach (e :: es) X.env = (false, eval e X.env) :: starEach es X.env := by rfl) (hpl : (backTo pos (starEach es X.env)).any (·.1) = false := by rfl) :
    PE X (.Call (.Name x p) (e :: es) [] pos) (tE c (mCall m as)) := by
  obtain ⟨fa, fd, ps, Fn, hm, hk, hb⟩ := C
  rw [← hK, ← hG] at Fn
  refine me_call (k := j) ?_ (hr.mono hj) tk hg hm hk hb ha hl hnd hdb he hpl
  rw [hK, hG] at Fn ⊢
  exact Fn
theorem room65 {k : Nat} {A : Around} (hr : Room k A) : A.units + 65 < cLine := by have := hr.un; omega
theorem room1 {k : Nat} {A : Around} (hr : Room k A) : A.units + 1 < cLine := by have := hr.un; omega
theorem room64 {k : Nat} {A : Around} (hr : Room k A) : A.units + 64 < cLine := by have := hr.un; omega
theorem room0 {k : Nat} {A : Around} (hr : Room k A) : A.units < cLine := by have := hr.un; omega
end

set_option autoImplicit false
section
variable {X : Cx} {c : Ct} {F : Fr} {ρ : Env} {σ : L2.St} {G H : Hp} {e a b d : Expr} {es : List Expr} {pos pos' p p2 p3 tpos : Pos}
def vbm : List Value := [.type "ValueError", .type "Exception", .type "BaseException", .type "object"]
/-- an own error of the text, without an __init__ -/
def ER (K : PySem.W.Frag) (mg : Str → Option Value) (x : Str) : Prop := ∃ C : Addr, mg x = some (.ref C) ∧ PySem.W.excIn K C vbm "ValueError.__new__" = true ∧ PySem.W.keepIn K (.ref C) = true ∧
  PySem.W.subIn K (.ref C) (.type "BaseException") = some true ∧ PySem.W.typeIn K (.ref C) = some (.type "type")
theorem st_raiseE {x : Str} (hc : X.calm = true) (tk : Takes X c.W) (h : ER X.K X.mg x) (hG : c.mg = X.mg) (hg : Gl X x) (hdb : (x == ("__debug__" : Str)) = false := by decide) : PS X (.Raise (some (.Call (.Name x p) [] [] pos)) none pos') (tS c (sRaise x)) := by
  obtain ⟨C, gC, q, kC, bC, tC⟩ := h
  exact st_raise0 hc tk PySem.F.excBase_ValueError q gC (by rw [hG]; exact gC) kC (raises_own bC tC) hg hdb
theorem takes_no : Takes X (fun _ _ _ _ => False) := fun u s' ⟨a, B, sI, pins, σ, H, cls, d, e, I, nb, up, sky, na, os, ag, w⟩ => w.elim
end

set_option autoImplicit false
structure FrLe (F F' : Fr) : Prop where
  fg : ∀ a u, F.fg a = some u → F'.fg a = some u
  dom : ∀ a, F.dom a → F'.dom a
  io : F'.io = F.io
  wf : ∀ a u, F.fg a = some u → F.dom a
  ioD : ∀ q ∈ F.io, F.dom q.2
theorem FrLe.plus {F F' : Fr} (h : FrLe F F') {q : Addr} {o : HO} (n : ¬ F.dom q) : FrLe F (F'.plus q o) := by
  refine ⟨fun a u e => ?_, fun a e => .inl (h.dom a e), h.io, h.wf, h.ioD⟩
  have ne : a ≠ q := fun z => n (by rw [← z]; exact h.wf a u e)
  show upd F'.fg q o a = some u
  rw [upd_ne ne]
  exact h.fg a u e
section
variable {X : Cx} {c : Ct} {F F' : Fr} {ρ : Env} {σ : L2.St} {G H : Hp} {e a b : Expr} {pos pos' p2 p3 apos : Pos}
theorem nodup_ix {α : Type} {l : List α} (h : l.Nodup) {i j : Nat} {a : α} (hi : l[i]? = some a) (hj : l[j]? = some a) : i = j := by
  obtain ⟨l1, g1⟩ := List.getElem?_eq_some_iff.mp hi
  obtain ⟨l2, g2⟩ := List.getElem?_eq_some_iff.mp hj
  have q := List.pairwise_iff_getElem.mp h
  rcases Nat.lt_trichotomy i j with z | z | z
  · exact absurd (g1.trans g2.symm) (q i j l1 l2 z)
  · exact z
  · exact absurd (g2.trans g1.symm) (q j i l2 l1 z)
/-- the list of lists at p, its lists at qs -/
structure DL (K : PySem.W.Frag) (F' : Fr) (G : Hp) (p : Addr) (qs : List Addr) (dss : List (List D)) : Prop where
  top : F'.fg p = some (.lst (qs.map V.ref))
  nd : (p :: qs).Nodup
  len : qs.length = dss.length
  inn : ∀ (j : Nat) (q : Addr) (ds : List D), qs[j]? = some q → dss[j]? = some ds → ∃ xs, F'.fg q = some (.lst xs) ∧ RpL K G ds xs
theorem DL.mono {K : PySem.W.Frag} {G G' : Hp} {p : Addr} {qs : List Addr} {dss : List (List D)} (h : DL K F' G p qs dss) (g : GLe G G') : DL K F' G' p qs dss :=
  ⟨h.top, h.nd, h.len, fun j q ds e1 e2 => by
    obtain ⟨xs, h1, h2⟩ := h.inn j q ds e1 e2
    exact ⟨xs, h1, RpL.mono g _ _ h2⟩⟩
/-- one of its lists changes -/
theorem DL.set {K : PySem.W.Frag} {p q : Addr} {qs : List Addr} {dss : List (List D)} {j : Nat} {ds : List D} {xs : List V} (h : DL K F' G p qs dss) (ej : qs[j]? = some q) (r : RpL K G ds xs) : DL K (F'.plus q (.lst xs)) G p qs (dss.set j ds) := by
  have nd := List.nodup_cons.mp h.nd
  have mq : q ∈ qs := List.mem_of_getElem? ej
  refine ⟨?_, h.nd, by rw [List.length_set]; exact h.len, fun i r' es e1 e2 => ?_⟩
  · show upd F'.fg q (.lst xs) p = _
    rw [upd_ne (fun z => nd.1 (by rw [z]; exact mq))]
    exact h.top
  · by_cases z : i = j
    · subst z
      rw [ej] at e1
      cases e1
      have hl : i < dss.length := by rw [← h.len]; exact (List.getElem?_eq_some_iff.mp ej).1
      rw [List.getElem?_set_self hl] at e2
      cases e2
      exact ⟨xs, by show upd F'.fg q (.lst xs) q = _; exact upd_same, r⟩
    · rw [List.getElem?_set_ne (fun w => z w.symm)] at e2
      obtain ⟨ys, h1, h2⟩ := h.inn i r' es e1 e2
      refine ⟨ys, ?_, h2⟩
      have ne : r' ≠ q := fun w => by
        subst w
        exact z (nodup_ix nd.2 e1 ej)
      show upd F'.fg q (.lst xs) r' = _
      rw [upd_ne ne]
      exact h1
inductive DR where
  | nx (dss : List (List D)) (ρ : Env) | stuck
structure DS (c : Ct) (i : Nat) (F F' : Fr) (ρ : Env) (σ : L2.St) (G H : Hp) (p : Addr) (qs : List Addr) (dss : List (List D)) : Prop where
  st : State c F' ρ σ G H
  le : FrLe F F'
  dl : DL c.K F' G p qs dss
  nd : ∀ a ∈ p :: qs, ¬ F.dom a
  at_ : σ[i]? = some (some (.ref p))
def DAsk (c : Ct) (i : Nat) (F : Fr) (G : Hp) (p : Addr) (qs : List Addr) (D : Ends) : DR → Prop
  | .nx dss ρ => ∀ F' σ H G', DS c i F F' ρ σ G' H p qs dss → GLe G G' → D.nx σ H
  | .stuck => False
theorem DAsk.mono {i : Nat} {G1 : Hp} {p : Addr} {qs : List Addr} {D : Ends} {r : DR} (g : GLe G G1) (h : DAsk c i F G p qs D r) : DAsk c i F G1 p qs D r := by
  cases r with
  | nx dss ρ => exact fun F' σ H G' d gl => h F' σ H G' d (g.trans gl)
  | stuck => exact h
/-- the list that is meant -/
theorem DS.get {i : Nat} {p : Addr} {qs : List Addr} {dss : List (List D)} {k : Int} {j : Nat} {ds : List D} (S : DS c i F F' ρ σ G H p qs dss) (ek : ixN dss.length k = some j) (ed : dss[j]? = some ds) :
    ∃ q xs, H p = some (.lst (qs.map V.ref)) ∧ L2.atI (qs.map V.ref) k = some (.ref q) ∧ qs[j]? = some q ∧ F'.fg q = some (.lst xs) ∧ H q = some (.lst xs) ∧ RpL c.K G ds xs := by
  have hp := (S.st.fg p _ S.dl.top).1
  have hl : j < qs.length := by rw [S.dl.len]; exact (List.getElem?_eq_some_iff.mp ed).1
  have eq : qs[j]? = some qs[j] := List.getElem?_eq_getElem hl
  obtain ⟨xs, h1, h2⟩ := S.dl.inn j _ ds eq ed
  refine ⟨qs[j], xs, hp, ?_, eq, h1, (S.st.fg _ _ h1).1, h2⟩
  unfold L2.atI
  rw [List.length_map, S.dl.len, ek]
  show (qs.map V.ref)[j]? = _
  rw [List.getElem?_map, eq]
  rfl
end

set_option autoImplicit false
section
variable {X : Cx}
def rCntB (K : PySem.W.Frag) : V → List V → Hp → VK → Prop := fun x xs H Q => ∃ (p : Addr) (bs : List Bool) (k : Bool), x = .ref p ∧ xs = [.bl k] ∧ SqL K H p (bs.map V.bl) ∧ Q (.int (bs.count k : Nat)) H
theorem cnt_eqU (k : Bool) : ∀ {bs : List Bool} {us : List Value}, Vals (bs.map V.bl) us → us.countP (eqU (.bl k)) = bs.count k
  | [], _, h => by cases h; rfl
  | b :: bs, _, h => by
    cases h with
    | cons r t =>
      cases (show _ = Value.bool b from r)
      rw [List.countP_cons, List.count_cons, cnt_eqU k t]
      rfl
theorem mt_cntB : MtR X "list.count" (rCntB X.K) := by
  intro pins s σ H x xs v us Q I rx rxs ⟨p, bs, k, e1, e2, hs, q⟩
  subst e1 e2
  cases rx
  obtain ⟨u, eu, ru⟩ := rxs.one
  subst eu
  obtain ⟨vs, rv, ⟨⟨cls, dd, data, sl⟩, n, ho, hc, hdn, hd⟩, hl⟩ := I.list hs
  simp only at hc hd
  subst hc hd
  have fl : (bs.map V.bl).all flatV = true := by rw [List.all_map]; exact List.all_eq_true.mpr fun _ _ => rfl
  refine call_meets PySem.F.slot_list_count ⟨_, ho, rfl⟩ PySem.F.entry_list_count (PySem.F.args_list_count_2 _ _)
    (SeqAt.list_countAt p vs.toArray n dd sl u (eqU (.bl k))) ⟨ho, fun y hy => mem_eqAt ru rfl rv fl y (by simpa using hy), ?_⟩
  refine ⟨.int (bs.count k : Nat), H, I.tok _, ⟨s.toks, ?_⟩, q⟩
  have z := cnt_eqU k rv
  rw [show vs.toArray.toList = vs by simp, z]
end
def excB (K : PySem.W.Frag) (D : Addr) : Bool :=
  decide (PySem.W.findIn K (.ref D) "__getattribute__" = some (some (.builtin "BaseException.__getattribute__"))) && decide (PySem.W.findIn K (.ref D) "__getattr__" = some none) &&
  decide (PySem.W.subIn K (.ref D) (.type "BaseException") = some true) && PySem.W.hasDictIn K D && decide (PySem.W.findIn K (.ref D) "__class__" = some (some (.builtin "object.__class__"))) &&
  decide (PySem.W.specialIn K (.builtin "object.__class__") "__get__" = some (some (.builtin "getset_descriptor.__get__"))) && decide (PySem.W.takesIn K (.builtin "object.__class__") = some true) && decide (PySem.W.mroIn K D (.type "object") = some true)
theorem excB_ok {K : PySem.W.Frag} {D : Addr} (h : excB K D = true) : ExcC K D := by
  unfold excB at h
  simp only [Bool.and_eq_true, decide_eq_true_eq] at h
  obtain ⟨⟨⟨⟨⟨⟨⟨h1, h2⟩, h3⟩, h4⟩, h5⟩, h6⟩, h7⟩, h8⟩ := h
  exact ⟨h1, h2, h3, h4, h5, h6, h7, h8⟩
/-- the codes of errors without a field -/
def errNames : List Str := ["BadState", "BadFolk", "BadNumber", "BadStreet", "BadOrder", "NotResting", "NotText"]
def errCodes : List Str := ["state", "folk", "number", "street", "order", "resting", "text"]
/-- D among cs: of its class alone -/
def errB (K : PySem.W.Frag) (M : Addr) (fs cs : List Addr) : Bool := cs.all fun D => excB K D && decide (PySem.W.exmOne K (.ref D) (.ref M) = some true) && (fs.all fun f => decide (PySem.W.kitOne K (.ref D) (.ref f) = some false)) && cs.all fun c => decide (PySem.W.kitOne K (.ref D) (.ref c) = some (decide (D = c)))
/-- the codes of errors with a field, and the fields -/
def fldNames : List Str := ["BadWeb", "BadWalk", "TooMany", "InvalidText"]
def fldCodes : List Str := ["web", "walk", "many", "word"]
def fldFields : List Str := ["index", "index", "most", "word"]
def fldB (K : PySem.W.Frag) (M : Addr) (fs : List Addr) : Bool := (fs.all fun D => excB K D && xfB K D && decide (PySem.W.exmOne K (.ref D) (.ref M) = some true) && fs.all fun c => decide (PySem.W.kitOne K (.ref D) (.ref c) = some (decide (D = c)))) &&
  (fs.zip fldFields).all fun p => decide (PySem.W.findIn K (.ref p.1) p.2 = some none)
structure Errs (K : PySem.W.Frag) (mg : Str → Option Value) : Prop where
  ex : ∃ (M w1 w2 w3 w4 c1 c2 c3 c4 c5 c6 c7 : Addr), mg "MoodError" = some (.ref M) ∧ mg "BadWeb" = some (.ref w1) ∧ mg "BadWalk" = some (.ref w2) ∧ mg "TooMany" = some (.ref w3) ∧ mg "InvalidText" = some (.ref w4) ∧
    mg "BadState" = some (.ref c1) ∧ mg "BadFolk" = some (.ref c2) ∧ mg "BadNumber" = some (.ref c3) ∧ mg "BadStreet" = some (.ref c4) ∧ mg "BadOrder" = some (.ref c5) ∧ mg "NotResting" = some (.ref c6) ∧ mg "NotText" = some (.ref c7) ∧
    [c1, c2, c3, c4, c5, c6, c7].Nodup ∧ errB K M [w1, w2, w3, w4] [c1, c2, c3, c4, c5, c6, c7] = true ∧ [w1, w2, w3, w4].Nodup ∧ fldB K M [w1, w2, w3, w4] = true
/-- lists that came -/
inductive GrL : Hp → Hp → Prop
  | refl (H : Hp) : GrL H H
  | step {H H1 : Hp} {p : Addr} {xs : List V} : GrL H H1 → H1 p = none → GrL H (upd H1 p (.lst xs))
theorem State.grown {c : Ct} {F : Fr} {ρ : Env} {σ : L2.St} {G H H2 : Hp} (S : State c F ρ σ G H) (g : GrL H H2) : State c F ρ σ G H2 := by
  induction g with
  | refl => exact S
  | step _ hp ih => exact ih.alloc hp trivial
section
variable {X : Cx} {σ : L2.St} {H : Hp} {K : PySem.W.Frag} {D a c : Addr} {b : Bool} {Q : VK}
abbrev tIs (K : PySem.W.Frag) (D a c : Addr) : TE := tCB (rIsE K D a) (tCons (tVar 1) (tCons (tC (.ref c)) tNil))
theorem is_val (hσ : σ[1]? = some (some (.ref a))) (hk : PySem.W.kitOne K (.ref D) (.ref c) = some b) (q : Q (.bl b) H) : tIs K D a c σ H Q :=
  ⟨.ref a, hσ, .ref c, .ref c, b, rfl, fun u r => r, hk, q⟩
theorem pss_no {sts : List Stmt} : PSs X sts (fun _ _ _ => False) := ⟨fun pins s σ H D I h => h.elim⟩
end
theorem takes_len {X : Cx} {W : WX} (t : Takes X W) : Takes X (fun cls d σ H => σ.length = X.N.length → W cls d σ H) := fun u s' ⟨a, B, sI, pins, σ, H, cls, d, e, I, nb, up, sky, na, os, ag, w⟩ =>
  t u s' ⟨a, B, sI, pins, σ, H, cls, d, e, I, nb, up, sky, na, os, ag, w I.len⟩
theorem if_no {P Q : Prop} (h : Q) : if false = true then P else Q := h
theorem if_ye {P Q : Prop} (h : P) : if true = true then P else Q := h
theorem pss_pick {X : Cx} {sts : List Stmt} {ts : TS} (h : ∀ D σ H, ts D σ H → ∃ t, PSs X sts t ∧ t D σ H) : PSs X sts ts := ⟨fun pins s σ H D I q => let ⟨t, ht, hq⟩ := h D σ H q; ht.run pins s σ H D I hq⟩
theorem cnt_one {D : Addr} : ∀ {cs : List Addr}, cs.Nodup → D ∈ cs → (cs.map fun c => decide (D = c)).count true = 1
  | [], _, h => by cases h
  | c :: cs, hn, h => by
    have nd := List.nodup_cons.mp hn
    rw [List.map_cons, List.count_cons]
    by_cases e : D = c
    · have z : ∀ b ∈ cs.map fun c => decide (D = c), b ≠ true := fun b hb => by
        obtain ⟨c', hc', eb⟩ := List.mem_map.mp hb
        rw [← eb]
        have ne : D ≠ c' := fun w => nd.1 (by rw [← e, w]; exact hc')
        rw [decide_eq_false ne]
        exact Bool.false_ne_true
      rw [List.count_eq_zero.mpr (fun w => z true w rfl), decide_eq_true e]
      rfl
    · rw [decide_eq_false e, cnt_one nd.2 ((List.mem_cons.mp h).resolve_left e)]
      rfl
/-- what the lambda's errors come to -/
def TTref (K : PySem.W.Frag) (mg : Str → Option Value) : (XK → Hp → VK → Prop) → Hp → VK → Prop := fun tl H Q =>
  tl (fun cls d H' => (d = none ∧ ∃ (j : Nat) (n w : Str) (C : Addr), errNames[j]? = some n ∧ errCodes[j]? = some w ∧ mg n = some (.ref C) ∧ cls = .ref C ∧ ∀ H2, GrL H' H2 → Q (.str w) H2) ∨
    ∃ (j : Nat) (n w f : Str) (C dd : Addr) (v : V), fldNames[j]? = some n ∧ fldCodes[j]? = some w ∧ fldFields[j]? = some f ∧ mg n = some (.ref C) ∧ cls = .ref C ∧ d = some dd ∧ H' dd = some (.xd [(f, v)]) ∧ ∀ p, H' p = none → Q (.ref p) (upd H' p (.tup [.str w, v]))) H fun _ H' => Q (.str "") H'
section
variable {X : Cx}
/-- the known ones and the answer -/
theorem ref_tail {K : PySem.W.Frag} {D : Addr} {cs : List Addr} {j : Nat} {w : Str} {p : Addr} {H : Hp} (hn : cs.Nodup) (hj : cs[j]? = some D) (hl : cs.length = 7) (hw : errCodes[j]? = some w) (hp : H p = some (.lst ((cs.map fun c => decide (D = c)).map V.bl))) :
    (∃ (q : Addr) (bs : List Bool) (k : Bool), V.ref p = .ref q ∧ [V.bl true] = [.bl k] ∧ SqL K H q (bs.map V.bl) ∧ bs.count k = 1 ∧ k = true) ∧
    ∀ H2, H2 p = H p → ∀ Q : VK, Q (.int (j : Nat)) H2 → rIndex K (.ref p) [.bl true] H2 Q := by
  have hm : D ∈ cs := List.mem_of_getElem? hj
  refine ⟨⟨p, _, true, rfl, rfl, .inl (.inl hp), cnt_one hn hm, rfl⟩, fun H2 e2 Q q => ?_⟩
  refine ⟨p, _, .bl true, j, .bl true, rfl, rfl, .inl (.inl (e2.trans hp)), rfl, by rw [List.all_map]; exact List.all_eq_true.mpr fun _ _ => rfl, ?_, rfl, fun m z hm2 hz => ?_, q⟩
  · rw [List.getElem?_map, List.getElem?_map, hj]
    show some (V.bl (decide (D = D))) = _
    rw [decide_eq_true rfl]
  · rw [List.getElem?_map, List.getElem?_map] at hz
    cases ec : cs[m]? with
    | none => rw [ec] at hz; cases hz
    | some c' =>
      rw [ec] at hz
      have ez : V.bl (decide (D = c')) = z := Option.some.inj hz
      rw [← ez]
      have ne : D ≠ c' := fun e => by
        have := nodup_ix hn (a := D) (by rw [ec, e]) hj
        omega
      rw [decide_eq_false ne]
      rfl
end
theorem State.extN {c : Ct} {F : Fr} {ρ : Env} {σ : L2.St} {G H H1 : Hp} (S : State c F ρ σ G H) (e : ExtN H H1) (t : Tabs c.T H1) (tg : ∀ (q : Addr) (ks : List Key), H1 q = some (.tup (ks.map kV)) → H q = some (.tup (ks.map kV))) : State c F ρ σ G H1 where
  sub := ⟨fun a u h => by
    have nt : ∀ ps, u ≠ .tbl ps := fun ps z => S.sub.2 a ps (by rw [h, z])
    rcases S.sub.1 a u h with q | ⟨hd, o, q⟩
    · exact .inl (e a u q nt)
    · exact .inr ⟨hd, o, e a _ q fun ps z => nomatch z⟩, S.sub.2⟩
  fg := fun a u h => ⟨e a u (S.fg a u h).1 (S.wf a u h).2.2, (S.fg a u h).2⟩
  wf := S.wf
  dom := fun a h => by
    obtain ⟨u, hu, hn⟩ := S.dom a h
    exact ⟨u, e a u hu hn, hn⟩
  tab := t
  tabG := S.tabG
  len := S.len
  sl := fun i s h => (S.sl i s h).mono (GLe.refl G) fun p d _ _ ow => by
    obtain ⟨hg, o, ho, hd, _⟩ := ow
    exact ⟨hg, by rw [ho]; exact e p o ho hd.notTbl.1⟩
  apart := S.apart
  io := S.io
  ios := S.ios
  ioD := S.ioD
  tupG := fun q ks h => S.tupG q ks (tg q ks h)
/-- the code of an error without a field -/
def codeOf (x : Str) : Option Str := (errNames.zip errCodes).lookup x
def codeFOf (x : Str) : Option (Str × Str) := (fldNames.zip (fldCodes.zip fldFields)).lookup x
def mRef (m : ME) : ME := fun ρ => match m ρ with
  | .ok _ ρ' => .ok (.str "") ρ'
  | .ex ⟨x, none⟩ ρ' => (match codeOf x with
    | some w => .ok (.str w) ρ'
    | none => .stuck)
  | .ex ⟨x, some (f, d)⟩ ρ' => (match codeFOf x with
    | some (w, f') => if f = f' then .ok (.tuple [.str w, d]) ρ' else .stuck
    | none => .stuck)
  | .stuck => .stuck

set_option autoImplicit false
/-- no tuple came -/
def TgE (H H1 : Hp) : Prop := ∀ (q : Addr) (xs : List V), H1 q = some (.tup xs) → H q = some (.tup xs)
section
variable {X : Cx} {pins : List (Addr × Obj)} {σ : L2.St} {H : Hp} {s : Shared}
theorem lam_new {T : List (Addr × Str)} {co P : Addr} {pa : Arguments} {bo : Expr} {sc : Scope} {ps0 : Pos} {E : Value → Shared → Prop} {Q : Value → Shared → Prop} (I : Inv X pins σ H s) (B : TabB X.base X.mg co P) (hco : X.env.code = .ref co)
    (inT : (P, X.env.qual ++ "<lambda>") ∈ T) (oneT : ∀ t ∈ T, t.1 = P → t.2 = X.env.qual ++ "<lambda>") (tabs : Tabs T H) (nodef : defaultsOf pa X.env = ([], [])) (fr : ∀ y ∈ sc.names, y.2 = .free → ∃ z, X.env.cells.lookup y.1 = some z)
    (k : ∀ (f d : Addr) (pm ct : Value) (J : Hp) (s2 : Shared), Inv X pins σ J s2 → ExtN H J → TgE H J → Tabs T J →
      s2.heap.get? f = some (PySem.W.kla_obj "<lambda>" (X.env.qual ++ "<lambda>") pa bo sc (cloFrom X.env.cells sc.names []) pm d ct) → J f = none → f ∉ frs X.stack → J d = some (CodeO d (X.env.qual ++ "<lambda>")) → Q (.ref f) s2) :
    wpAny (model X.prog X.w) X.A (eval (.Lambda pa bo sc ps0) X.env) Q E s := by
  obtain ⟨tr, atP, trOk, trIn⟩ := tabs _ inT
  have atP2 : s.heap.get? P = some { cls := .none, data := .fields tr } := I.hok P _ atP
  have bls : s.heap.BuiltinsAt X.mg P := B.bm.keeps I.bk
  have away : ∀ g, s.heap.objs.size ≤ g → g ∉ frs X.stack := fun g hg mem => by
    rcases List.mem_cons.mp (I.stkSub _ mem) with e | e
    · have lt := I.lt
      rw [← e] at lt
      exact absurd (Nat.lt_of_lt_of_le lt hg) (Nat.lt_irrefl _)
    · exact I.nofs hg e
  refine PySem.W.kla_eval nodef ?_
  cases found : codeAmong ps0 tr.toList with
  | some cv =>
    obtain ⟨d, ed, hd⟩ := trIn ps0 cv found
    subst ed
    refine PySem.W.kla_makeFunctionHit (mg := X.mg) (c := co) (P := P) (ps := tr) (closure_ok fr) I.ok.glob (I.mod.glob.keeps I.bk) hco (B.code.keeps I.bk) atP2 trOk found bls fun ct g tk keep big => ?_
    exact k g.objs.size d _ ct H _ (I.kept fun b o e => Heap.get?_push_of_some _ (keep b o e)) (ExtN.refl H) (fun _ _ e => e) tabs (Heap.get?_push_size _ rfl) (I.hok.fresh big) (away _ big) hd
  | none =>
    refine PySem.W.kla_makeFunction (mg := X.mg) (c := co) (P := P) (ps := tr) (closure_ok fr) I.ok.glob (I.mod.glob.keeps I.bk) hco (B.code.keeps I.bk) atP2 trOk found B.gP bls fun d ct g tk keep ge lt rec_ tab_ => ?_
    obtain ⟨d2, od, vs, t, ed, hod, dat, nam⟩ := rec_
    cases ed
    have big : s.heap.objs.size ≤ g.objs.size := Nat.le_trans ge (Nat.le_of_lt lt)
    have noD : H d = none := I.hok.fresh ge
    have I2 := inv_table (t' := tk) (more := #[rawInt ps0.line, rawInt ps0.col, .ref d]) (h' := g.push (PySem.W.kla_obj "<lambda>" (X.env.qual ++ "<lambda>") pa bo sc (cloFrom X.env.cells sc.names []) ((X.mg "__name__").getD .none) d ct)) I atP
      (fun b o nb e => Heap.get?_push_of_some _ (keep b o nb e)) (Heap.get?_push_of_some _ tab_) ge ⟨od, vs, t, Heap.get?_push_of_some _ hod, dat, nam⟩
    have ext : ExtN H (upd (upd H P (.tbl (tr ++ #[rawInt ps0.line, rawInt ps0.col, .ref d]))) d (CodeO d (X.env.qual ++ "<lambda>"))) := fun b o e nt => by
      have nd : b ≠ d := ne_of_none e noD
      have nP : b ≠ P := fun z => by
        rw [z, atP] at e
        exact nt tr (Option.some.inj e).symm
      rw [upd_ne nd, upd_ne nP]
      exact e
    have lst : (tr ++ #[rawInt ps0.line, rawInt ps0.col, .ref d]).toList = tr.toList ++ [rawInt ps0.line, rawInt ps0.col, .ref d] := by simp
    refine k g.objs.size d _ ct _ _ I2 ext (fun q xs e => ?_) (fun t ht => ?_) (Heap.get?_push_size _ rfl) ?_ (away _ big) upd_same
    · by_cases q1 : q = d
      · rw [q1, upd_same] at e
        unfold CodeO at e
        cases e
      · rw [upd_ne q1] at e
        by_cases q2 : q = P
        · rw [q2, upd_same] at e
          cases e
        · rw [upd_ne q2] at e
          exact e
    · by_cases tP : t.1 = P
      · rw [oneT t ht tP, tP]
        refine ⟨_, by rw [upd_ne (ne_of_none atP noD), upd_same], by rw [lst]; exact PySem.TriplesOk_snoc _ _ _ _ trOk, fun p2 cv hcv => ?_⟩
        rw [lst] at hcv
        rcases among_app _ trOk hcv with z | z
        · obtain ⟨d0, e1, e2⟩ := trIn p2 cv z
          exact ⟨d0, e1, ext _ _ e2 codeO_ne⟩
        · exact ⟨d, z, upd_same⟩
      · obtain ⟨tr', a1, a2, a3⟩ := tabs t ht
        refine ⟨tr', by rw [upd_ne (ne_of_none a1 noD), upd_ne tP]; exact a1, a2, fun p2 cv hcv => ?_⟩
        obtain ⟨d0, e1, e2⟩ := a3 p2 cv hcv
        exact ⟨d0, e1, ext _ _ e2 codeO_ne⟩
    · have nd : g.objs.size ≠ d := Nat.ne_of_gt lt
      have nP : g.objs.size ≠ P := fun z => by
        have lt2 := Heap.lt_size atP2
        rw [← z] at lt2
        exact absurd (Nat.lt_of_lt_of_le lt2 big) (Nat.lt_irrefl _)
      rw [upd_ne nd, upd_ne nP]
      exact I.hok.fresh big
end
def tLam3 (T : List (Addr × Str)) (TT : (XK → Hp → VK → Prop) → Hp → VK → Prop) (t : XK → TE) : TE := fun σ H Q => Tabs T H ∧ ∀ J, ExtN H J → TgE H J → Tabs T J → TT (fun E H' Q' => t E σ H' Q') J Q
section
variable {X : Cx}
/-- x(lambda: body) -/
theorem pe_lam3 {T : List (Addr × Str)} {TT : (XK → Hp → VK → Prop) → Hp → VK → Prop} {x a : Str} {g co P : Addr} {k : Nat} {pg : Arguments} {bg : List Stmt} {sg : Scope} {dV kV doc pm cdv ct oc : Value} {an od : Option Addr} {osl : Array (Option Value)} {Ng : List Str}
    {pa : Arguments} {bo : Expr} {sc : Scope} {t : XK → TE} {p lp pos : Pos} (hg : Gl X x) (hm : X.mg x = some (.ref g)) (hk : PySem.W.keepIn X.K (.ref g) = true)
    (lk : X.K.lookup g = some ⟨oc, od, .func (PySem.W.fnOf x x pg bg sg dV kV doc pm an cdv ct), osl⟩) (hcg : PySem.W.codeIn X.K cdv x = true) (hb : L2.Binds X.K (PySem.W.fnOf x x pg bg sg dV kV doc pm an cdv ct) [a] []) (Sg : FnScope Ng [a] sg) (hNg : Ng[0]? = some a) (hva : Vis sg a)
    (hG : GivesTo X Ng x sg g cdv bg a (X.env.qual ++ "<lambda>") TT)
    (B : TabB X.base X.mg co P) (hco : X.env.code = .ref co) (inT : (P, X.env.qual ++ "<lambda>") ∈ T) (oneT : ∀ t ∈ T, t.1 = P → t.2 = X.env.qual ++ "<lambda>") (hr : Room (k + 2) X.A) (L : LamS X.env.scope sc) (nodef : defaultsOf pa X.env = ([], []))
    (hbind : ∀ (q : Str) (cl : List (Str × Addr)) (pm cv ctv : Value), bindArgs (PySem.W.kla_fn "<lambda>" q pa bo sc cl pm cv ctv) ⟨[], []⟩ = pure [])
    (hbody : ∀ (A : Around) (outer : List PySem.Env) (s : Shared) (H : Hp) (E : XK) (f d : Addr), Room k (A.deeper (lamEnv X sc s.heap.objs.size f d)) → PE (lamCx X A outer s H E sc f d) bo (t E))
    (hdb : (x == ("__debug__" : Str)) = false := by decide) (hd : (a == ("__debug__" : Str)) = false := by decide) (hcd : (a == ("__classdict__" : Str)) = false := by decide) :
    PE X (.Call (.Name x p) [.Lambda pa bo sc lp] [] pos) (tLam3 T TT t) := ⟨fun pins s σ H Q I ⟨tabs, h⟩ => by
  refine wpAny_Call_Name_kw (ld_glob I hg hm ?_ hdb)
  refine PySem.W.callWith_K (h₀ := X.base) I.ok.mod.kin hk ?_ (by rfl) (by rfl)
  show wpAny _ _ (spliced ((false, eval (.Lambda pa bo sc lp) X.env) :: backTo pos (starEach [] X.env))) _ _ s
  refine Calls.spliced_cons (lam_new I B hco inT oneT tabs nodef (L.has I.ok) fun f d pm2 ct2 J s2 I2 eN tg T2 hf hfn hfr hd2 => ?_)
  refine Calls.spliced_nil ⟨I2.kIn, ?_⟩
  have run : codeAny (model X.prog X.w) X.A (.call (.ref g) ⟨[.ref f], []⟩) (CR C8.CX0 X.stack X.prog X.w J s2 Q C8.E0) s2 :=
    run_ofS (N := Ng) (ps := [a]) (us := [.ref f]) (vs := [.ref f]) lk hcg Sg hr I2.env0 (hb s2 [.ref f] I2.kIn rfl) (.cons rfl .nil) rfl fun hr2 => by
      obtain ⟨t2, ht2, hq2⟩ := hG f d s2 J Q (fun E H' Q' => t E σ H' Q') (fun W pn xe E p1 p2 tk hW => pe_act (i := 0) I2 L hf hfn hfr (hbind _ _ _ _ _) tk hW hr2 (fun A outer s H hr3 => hbody A outer s H E f d hr3) hNg hva hd hcd) hd2 (h J eN tg T2)
      exact ⟨t2, ht2.nox, hq2⟩
  refine wpAny_call (codeAny_mono run fun r s3 hq => ?_)
  match r, hq with
  | .ok (.ret u), hq => exact I2.after hq
  | .ok .next, hq => exact False.elim hq
  | .ok .brk, hq => exact False.elim hq
  | .ok .cont, hq => exact False.elim hq
  | .error e, hq => exact (show False from hq).elim⟩
/-- the M-reading: _law_refused(lambda: body) -/
theorem lam_ref {c : Ct} {m : ME} {σ : L2.St} {H : Hp} {Q : VK} {K : PySem.W.Frag} {mg : Str → Option Value} (hG : c.mg = mg) (h : tE c (mRef m) σ H Q) : tLam3 c.T (TTref K mg) (fun E => tE { c with W := fun cls d _ H => E cls d H } m) σ H Q := by
  obtain ⟨F, ρ, G, S, a⟩ := h
  refine ⟨S.tab, fun J eN tg tabs => ?_⟩
  have S1 := S.extN eN tabs fun q ks e => tg q _ e
  refine ⟨F, ρ, G, ⟨S1.sub, S1.fg, S1.wf, S1.dom, S1.tab, S1.tabG, S1.len, S1.sl, S1.apart, S1.io, S1.ios, S1.ioD, S1.tupG⟩, ?_⟩
  unfold mRef at a
  cases em : m ρ with
  | stuck => rw [em] at a; exact a.elim
  | ok d ρ' =>
    rw [em] at a
    exact fun v H' G' S' gl r => a (.str "") H' G' ⟨S'.sub, S'.fg, S'.wf, S'.dom, S'.tab, S'.tabG, S'.len, S'.sl, S'.apart, S'.io, S'.ios, S'.ioD, S'.tupG⟩ gl rfl
  | ex e ρ' =>
    rw [em] at a
    obtain ⟨x, ar⟩ := e
    cases ar with
    | some p =>
      obtain ⟨f, d⟩ := p
      simp only at a
      cases ec : codeFOf x with
      | none => rw [ec] at a; exact a.elim
      | some wf =>
        obtain ⟨w, f'⟩ := wf
        rw [ec] at a
        simp only at a
        by_cases hff : f = f'
        · subst hff
          rw [if_pos rfl] at a
          intro cls dx H' G' S' gl xo
          obtain ⟨C, hC, ecls, dd, v, edx, hdd, rv⟩ := xo
          have hj : ∃ j : Nat, fldNames[j]? = some x ∧ fldCodes[j]? = some w ∧ fldFields[j]? = some f := by
            unfold codeFOf at ec
            obtain ⟨j, hj⟩ := List.getElem?_of_mem (PySem.mem_of_lookup ec)
            rw [List.getElem?_zip_eq_some, List.getElem?_zip_eq_some] at hj
            exact ⟨j, hj.1, hj.2.1, hj.2.2⟩
          obtain ⟨j, j1, j2, j3⟩ := hj
          refine .inr ⟨j, x, w, f, C, dd, v, j1, j2, j3, by rw [← hG]; exact hC, ecls, edx, hdd, fun p hp => ?_⟩
          have S2 : State c F ρ' σ G' H' := ⟨S'.sub, S'.fg, S'.wf, S'.dom, S'.tab, S'.tabG, S'.len, S'.sl, S'.apart, S'.io, S'.ios, S'.ioD, S'.tupG⟩
          have gl2 : GLe G' (upd G' p (.tup [.str w, v])) := GLe.upd (S2.gnone hp)
          exact a (.ref p) _ _ (S2.add hp) (gl.trans gl2) ((ObjD.tup (ds := [.str w, d]) (xs := [.str w, v]) ⟨.str w, [v], rfl, rfl, v, [], rfl, Rp.mono gl2 _ _ rv, rfl⟩).rp upd_same)
        · rw [if_neg hff] at a
          exact a.elim
    | none =>
      simp only at a
      cases ec : codeOf x with
      | none => rw [ec] at a; exact a.elim
      | some w =>
        rw [ec] at a
        intro cls dx H' G' S' gl xo
        obtain ⟨C, hC, ecls, edx⟩ := xo
        refine .inl ⟨edx, ?_⟩
        have hj : ∃ j : Nat, errNames[j]? = some x ∧ errCodes[j]? = some w := by
          unfold codeOf at ec
          obtain ⟨j, hj⟩ := List.getElem?_of_mem (PySem.mem_of_lookup ec)
          rw [List.getElem?_zip_eq_some] at hj
          exact ⟨j, hj.1, hj.2⟩
        obtain ⟨j, j1, j2⟩ := hj
        refine ⟨j, x, w, C, j1, j2, by rw [← hG]; exact hC, ecls, fun H2 gr => ?_⟩
        have S2 : State c F ρ' σ G' H' := ⟨S'.sub, S'.fg, S'.wf, S'.dom, S'.tab, S'.tabG, S'.len, S'.sl, S'.apart, S'.io, S'.ios, S'.ioD, S'.tupG⟩
        exact a (.str w) H2 G' (S2.grown gr) gl rfl
end

set_option autoImplicit false
def SqK (K : PySem.W.Frag) (t : Bool) (H : Hp) (a : Addr) (xs : List V) : Prop := if t = true then SqT K H a xs else SqL K H a xs
def IsSq (t : Bool) (h : Heap) (a : Addr) (vs : Array Value) : Prop := if t = true then h.IsTuple a vs else h.IsList a vs
def IsIt (t : Bool) (h : Heap) (it a : Addr) (i : Nat) : Prop := if t = true then h.IsTupleIter it a i else h.IsListIter it a i
def itO (t : Bool) (a : Addr) : Obj := if t = true then { cls := .type "tuple_iterator", data := .fields #[.ref a, .int 0 0] } else { cls := .type "list_iterator", data := .fields #[.ref a, .int 0 0] }
section
variable {X : Cx} {pins : List (Addr × Obj)} {σ : L2.St} {H : Hp} {s : Shared}
theorem sq_of {t : Bool} {a : Addr} {xs : List V} (I : Inv X pins σ H s) (h : SqK X.K t H a xs) : ∃ its : List Value, Vals xs its ∧ IsSq t s.heap a its.toArray ∧ a < s.heap.objs.size := by
  cases t with
  | true =>
    obtain ⟨its, rv, p, _⟩ := I.tuple h
    obtain ⟨o, ho, _⟩ := id p
    exact ⟨its, rv, p, Heap.lt_size ho⟩
  | false =>
    obtain ⟨its, rv, p, _⟩ := I.list h
    exact ⟨its, rv, p.isList, p.lt⟩
theorem sq_inj {t : Bool} {a : Addr} {xs ys : List V} (I : Inv X pins σ H s) (h : SqK X.K t H a xs) (h' : SqK X.K t H a ys) : xs = ys := by
  cases t with
  | true => exact I.tuple_inj h h'
  | false => exact I.list_inj h h'
theorem draws_sq {P : Program} {w : World} {A : Around} (hh : A.handled = none) (t : Bool) (it a : Addr) (ne : a ≠ it) (vs : Array Value) : Draws P w A it [it, a] vs.size (fun i v => vs[i]? = some v) (fun i h => IsIt t h it a i ∧ IsSq t h a vs) := by
  cases t with
  | true => exact .tuple hh it a ne vs
  | false => exact .list hh it a ne vs
theorem begins_sq (t : Bool) (a : Addr) (vs : Array Value) : Begins (.ref a) (itO t a) fun h => IsSq t h a vs := by
  cases t with
  | true => exact begins_tuple a vs
  | false => exact begins_list a vs
theorem isIt_at {t : Bool} {h h' : Heap} {it a : Addr} {i : Nat} (x : IsIt t h it a i) (e : ∀ o, h.get? it = some o → h'.get? it = some o) : IsIt t h' it a i := by
  cases t with
  | true => exact Heap.IsTupleIter.at x e
  | false => exact Heap.IsListIter.at x e
theorem isIt_obj {t : Bool} {h : Heap} {it a : Addr} {i : Nat} (x : IsIt t h it a i) : ∃ o, h.get? it = some o ∧ ∀ v, o.data ≠ .cell v := by
  cases t with
  | true =>
    obtain ⟨o, e, _, d⟩ := (show h.IsTupleIter it a i from x)
    exact ⟨o, e, fun v q => by rw [d] at q; cases q⟩
  | false =>
    obtain ⟨o, e, _, d⟩ := (show h.IsListIter it a i from x)
    exact ⟨o, e, fun v q => by rw [d] at q; cases q⟩
theorem isIt_new {t : Bool} {h : Heap} {it a : Addr} (e : h.get? it = some (itO t a)) : IsIt t h it a 0 := by
  cases t with
  | true => exact ⟨_, e, rfl, rfl⟩
  | false => exact ⟨_, e, rfl, rfl⟩
end
/-- the two as they stand at each turn, the items in new pairs -/
def ItzK (K : PySem.W.Frag) (t u : Bool) (a b : Addr) : It :=
  ⟨fun i H => ∃ (xs ys : List V) (x y : V), SqK K t H a xs ∧ SqK K u H b ys ∧ xs[i]? = some x ∧ ys[i]? = some y,
    fun i H v H' => ∃ T x y, v = .ref T ∧ H T = none ∧ H' = upd H T (.tup [x, y]) ∧ (∀ xs, SqK K t H a xs → xs[i]? = some x) ∧ ∀ ys, SqK K u H b ys → ys[i]? = some y,
    fun i H => ∃ xs ys : List V, SqK K t H a xs ∧ SqK K u H b ys ∧ i ≤ xs.length ∧ i ≤ ys.length ∧ (xs.length = i ∨ ys.length = i)⟩
theorem turn_zipK {P : Program} {w : World} {K : PySem.W.Frag} {t u : Bool} {elts : List Expr} {kk : Nat} {tpos : Pos} {a b z TI TO i1 i2 : Addr} (D : ZipSep2 z TI TO i1 i2 [i1, a] [i2, b]) (na : a ≠ i1) (nb : b ≠ i2) :
    Turn P w K (.Tuple elts kk tpos) (ItzK K t u a b) [z, TI, TO, i1, i2] z (fun i h => IsZip h z TI TO .none ∧ IsTupOf2 h TI (.ref i1) (.ref i2) ∧ (∃ x y, IsTupOf2 h TO x y) ∧ IsIt t h i1 a i ∧ IsIt u h i2 b i) where
  mem := by simp
  obj := fun i h ⟨hz, hI, ⟨x, y, hO⟩, h1, h2⟩ c hc => by
    have hc' : c = z ∨ c = TI ∨ c = TO ∨ c = i1 ∨ c = i2 := by simpa using hc
    rcases hc' with e | e | e | e | e <;> subst e
    · exact ⟨_, hz, fun v q => nomatch q⟩
    · exact ⟨_, hI, fun v q => nomatch q⟩
    · exact ⟨_, hO, fun v q => nomatch q⟩
    · exact isIt_obj h1
    · exact isIt_obj h2
  keep := fun i h h' ⟨hz, hI, ⟨x, y, hO⟩, h1, h2⟩ k =>
    ⟨k z (by simp) _ hz, k TI (by simp) _ hI, ⟨x, y, k TO (by simp) _ hO⟩, isIt_at h1 fun o q => k i1 (by simp) o q, isIt_at h2 fun o q => k i2 (by simp) o q⟩
  item := by
    intro X hP hw hK hc i pins s σ H E I hf ⟨hz, hI, ⟨x0, y0, hO⟩, h1, h2⟩ ⟨xs, ys, x, y, qx, qy, ex, ey⟩
    subst hP hw hK
    obtain ⟨vs, rv, pv, la⟩ := sq_of I qx
    obtain ⟨us, ru, pu, lb⟩ := sq_of I qy
    obtain ⟨v1, gv, r1⟩ := rv.get ex
    obtain ⟨v2, gu, r2⟩ := ru.get ey
    have z_lt : z < s.heap.objs.size := Heap.lt_size hz
    refine wpAny_pyNext_zipD2_item (i := i) D (draws_sq (A := X.A.in1) (I.ok.hd hc) t i1 a na vs.toArray) (draws_sq (A := X.A.in1) (I.ok.hd hc) u i2 b nb us.toArray) hz hI hO ⟨h1, pv⟩ ⟨h2, pu⟩ (by have := (List.getElem?_eq_some_iff.mp gv).1; simpa using this) (by have := (List.getElem?_eq_some_iff.mp gu).1; simpa using this) fun w1 w2 g tk e1 e2 z2 o2 st1 st2 new2 sz keep => ?_
    have ew1 : w1 = v1 := by
      have e1' : vs[i]? = some w1 := by simpa using e1
      rw [gv] at e1'
      exact (Option.some.inj e1').symm
    have ew2 : w2 = v2 := by
      have e2' : us[i]? = some w2 := by simpa using e2
      rw [gu] at e2'
      exact (Option.some.inj e2').symm
    subst ew1 ew2
    refine ⟨_, rfl, wpAny_letOwnedTupleGo_zip (s := { s with heap := g, toks := tk }) z2 fun g2 z3 sb => ?_⟩
    have zN : s.heap.objs.size ≠ z := Nat.ne_of_gt z_lt
    have new3 : g2.get? s.heap.objs.size = some { cls := .type "tuple", data := .seq #[w1, w2] } := (sb.2 _ zN).trans new2
    have okT : ObjOk X.prog X.w (upd H s.heap.objs.size (.tup [x, y])) g2 s.heap.objs.size (.tup [x, y]) := ⟨by show 2 ≤ sizeLine; decide, [w1, w2], .cons r1 (.cons r2 .nil), ⟨_, new3, rfl, _, rfl⟩⟩
    have J : Inv X pins σ (upd H s.heap.objs.size (.tup [x, y])) { s with heap := g2, toks := tk } :=
      I.turnedNew (t' := tk) (ch := [z, TI, TO, i1, i2]) (fun c o nc q => by
        simp only [List.mem_cons, List.not_mem_nil, or_false, not_or] at nc
        exact (sb.2 c nc.1).trans (keep c o nc.1 nc.2.2.1 nc.2.2.2.1 nc.2.2.2.2 q)) hf (Nat.le_refl _) okT
    refine ⟨.ref s.heap.objs.size, _, J, rfl, ⟨_, x, y, rfl, I.hok.fresh (Nat.le_refl _), rfl, fun l hl => by rw [sq_inj I hl qx]; exact ex, fun l hl => by rw [sq_inj I hl qy]; exact ey⟩, ⟨z3, ?_, ⟨w1, w2, ?_⟩, ?_, ?_⟩, fun c cm => ?_⟩
    · exact (sb.2 _ D.TIz).trans (keep _ _ D.TIz D.TITO D.TIi1 D.TIi2 hI)
    · exact (sb.2 _ D.TOz).trans o2
    · exact isIt_at st1.1 fun o q => (sb.2 _ (fun e => D.zi1 e.symm)).trans q
    · exact isIt_at st2.1 fun o q => (sb.2 _ (fun e => D.zi2 e.symm)).trans q
    · obtain ⟨o, eo, _⟩ := (show ∃ o, s.heap.get? c = some o ∧ ∀ v, o.data ≠ .cell v from by
        have cm' : c = z ∨ c = TI ∨ c = TO ∨ c = i1 ∨ c = i2 := by simpa using cm
        rcases cm' with e | e | e | e | e <;> subst e
        · exact ⟨_, hz, fun v q => nomatch q⟩
        · exact ⟨_, hI, fun v q => nomatch q⟩
        · exact ⟨_, hO, fun v q => nomatch q⟩
        · exact isIt_obj h1
        · exact isIt_obj h2)
      rw [upd_ne (Nat.ne_of_lt (Heap.lt_size eo))]
      exact (hf c cm).1
  done := by
    intro X hP hw hK hc i pins s σ H E I hf ⟨hz, hI, ⟨x0, y0, hO⟩, h1, h2⟩ ⟨xs, ys, qx, qy, lx, ly, en⟩
    subst hP hw hK
    obtain ⟨vs, rv, pv, la⟩ := sq_of I qx
    obtain ⟨us, ru, pu, lb⟩ := sq_of I qy
    have l1 := rv.length
    have l2 := ru.length
    exact wpAny_pyNext_zipD2_end (i := i) D (draws_sq (A := X.A.in1) (I.ok.hd hc) t i1 a na vs.toArray) (draws_sq (A := X.A.in1) (I.ok.hd hc) u i2 b nb us.toArray) hz hI hO ⟨h1, pv⟩ ⟨h2, pu⟩ (by rw [List.size_toArray]; omega) (by rw [List.size_toArray]; omega) (by rw [List.size_toArray, List.size_toArray]; omega) fun g tk keep =>
      ⟨rfl, I.turnedL (t' := tk) (ch := [z, TI, TO, i1, i2]) (fun c o nc q => by
        simp only [List.mem_cons, List.not_mem_nil, or_false, not_or] at nc
        exact keep c o nc.1 nc.2.2.1 nc.2.2.2.1 nc.2.2.2.2 q) hf⟩
  self := fun A i s Q E st h => wpAny_pyIter_zip st.1 h
def iZipK (K : PySem.W.Frag) (ta : TA) : TI := fun σ H R => ta σ H fun vs H1 => ∃ a b t u xs ys, vs = [.ref a, .ref b] ∧ SqK K t H1 a xs ∧ SqK K u H1 b ys ∧ R (ItzK K t u a b) H1
theorem pi_zipK {X : Cx} {e e2 : Expr} {ta : TA} {p pos tpos : Pos} {elts : List Expr} {kk : Nat} (hg : Gl X "zip") (hm : X.mg "zip" = none) (ha : PA X [e, e2] ta)
    (hs : starEach [e, e2] X.env = (false, eval e X.env) :: starEach [e2] X.env := by rfl) (hpl : (backTo pos (starEach [e2] X.env)).any (·.1) = false := by rfl) :
    PI X (.Tuple elts kk tpos) (.Call (.Name "zip" p) [e, e2] [] pos) (iZipK X.K ta) := ⟨fun pins s σ H R I h => by
  refine Call_ (ld_blt I hg hm boot_zip (callWith_type1 (thn (ha.run pos pins s σ H _ I h) fun us s1 ⟨vs, H1, I1, r1, q1⟩ => ?_) hs hpl))
  obtain ⟨a, b, t, u, xs, ys, ex, qx, qy, q⟩ := q1
  subst ex
  obtain ⟨v1, v2, eu, k1, k2⟩ := vals2 r1
  subst eu
  obtain rfl : v1 = Value.ref a := k1
  obtain rfl : v2 = Value.ref b := k2
  obtain ⟨vs1, rv, pv, la⟩ := sq_of I1 qx
  obtain ⟨us1, ru, pu, lb⟩ := sq_of I1 qy
  refine zip_begins2 (begins_sq t a vs1.toArray) (begins_sq u b us1.toArray) pv pu fun g gz gI gO g1 g2 sz keep => wpAny_pyIter_zip gz ?_
  have I2 : Inv X pins σ H1 { s1 with heap := g } := I1.kept (t' := s1.toks) keep
  have apart := zip_sep2 (N := s1.heap.objs.size) (fp1 := [a]) (fp2 := [b]) (fun c hc => by rw [List.mem_singleton.mp hc]; exact la) (fun c hc => by rw [List.mem_singleton.mp hc]; exact lb)
  refine ⟨_, _, _, _, H1, rfl, I2, turn_zipK (t := t) (u := u) apart (Nat.ne_of_lt la) (Nat.ne_of_lt (Nat.lt_succ_of_lt lb)), ⟨gz, gI, ⟨_, _, gO⟩, isIt_new g1, isIt_new g2⟩, fun c cm => ?_, q⟩
  have le : s1.heap.objs.size ≤ c := by
    have cm' : c = s1.heap.objs.size + 4 ∨ c = s1.heap.objs.size + 2 ∨ c = s1.heap.objs.size + 3 ∨ c = s1.heap.objs.size ∨ c = s1.heap.objs.size + 1 := by simpa using cm
    rcases cm' with z | z | z | z | z <;> rw [z]
    · exact Nat.le_add_right _ _
    · exact Nat.le_add_right _ _
    · exact Nat.le_add_right _ _
    · exact Nat.le_refl _
    · exact Nat.le_add_right _ _
  exact I1.fpOk le (I1.hok.fresh le)⟩
section
variable {X : Cx} {c : Ct} {F : Fr} {ρ : Env} {σ : L2.St} {G H : Hp} {a b tg : Expr} {p pos tpos : Pos}
/-- a list's or a tuple's items -/
def seqOf : D → Option (Bool × List D)
  | .list ds => some (false, ds)
  | .tuple ds => some (true, ds)
  | _ => none
def zipD (ds es : List D) : List D := (ds.zip es).map fun p => .tuple [p.1, p.2]
def iZip (m1 m2 : ME) : MI := fun ρ => (evm [m1, m2] ρ).then fun ds ρ' => match ds with
  | [d1, d2] => (match seqOf d1, seqOf d2 with
    | some (_, xs), some (_, ys) => .ok (zipD xs ys) ρ'
    | _, _ => .stuck)
  | _ => .stuck
theorem seq_frz {K : PySem.W.Frag} {d : D} {t : Bool} {ds : List D} {v : V} (e : seqOf d = some (t, ds)) (r : Rp K G d v) : ∃ a xs, v = .ref a ∧ RpL K G ds xs ∧ (∀ G' H, GLe G G' → Sub G' H → SqK K t H a xs) := by
  cases d <;> simp only [seqOf] at e <;> first | cases e | skip
  · obtain ⟨a, xs, ev, hg, rx⟩ := r
    exact ⟨a, xs, ev, rx, fun G' H gl sb => .inl (.inl (sb.lst (gl _ _ hg)))⟩
  · obtain ⟨a, xs, ev, hg, rx⟩ := r
    exact ⟨a, xs, ev, rx, fun G' H gl sb => .inl (.inl (sb.tup (gl _ _ hg)))⟩
theorem it_zip {K : PySem.W.Frag} {t u : Bool} {a b : Addr} {xs ys : List V} {ds es : List D} (h1 : ∀ G' H, GLe G G' → Sub G' H → SqK K t H a xs) (h2 : ∀ G' H, GLe G G' → Sub G' H → SqK K u H b ys) (r1 : RpL K G ds xs) (r2 : RpL K G es ys) : ItOk K (ItzK K t u a b) G (zipD ds es) := fun i H G' gl sb => by
  have q1 := h1 G' H gl sb
  have q2 := h2 G' H gl sb
  have l1 := r1.length
  have l2 := r2.length
  refine ⟨fun d e => ?_, fun le => ?_⟩
  · unfold zipD at e
    rw [List.getElem?_map] at e
    cases ez : (ds.zip es)[i]? with
    | none => rw [ez] at e; cases e
    | some p =>
      rw [ez] at e
      cases e
      rw [List.getElem?_zip_eq_some] at ez
      obtain ⟨x, ex, rx⟩ := r1.get ez.1
      obtain ⟨y, ey, ry⟩ := r2.get ez.2
      refine ⟨⟨xs, ys, x, y, q1, q2, ex, ey⟩, fun v H' ⟨T, x', y', ev, hT, eH, f1, f2⟩ => ?_⟩
      have e1 := f1 xs q1
      have e2 := f2 ys q2
      rw [ex] at e1
      rw [ey] at e2
      cases e1
      cases e2
      exact .inr ⟨T, _, ev, hT, eH, .tup ⟨x, [y], rfl, Rp.mono gl _ _ rx, y, [], rfl, Rp.mono gl _ _ ry, rfl⟩⟩
  · unfold zipD at le
    rw [List.length_map, List.length_zip] at le
    exact ⟨xs, ys, q1, q2, by omega, by omega, by omega⟩
theorem mi_zip {m1 m2 : ME} {elts : List Expr} {kk : Nat} (hK : X.K = c.K) (hg : Gl X "zip") (hm : X.mg "zip" = none) (ha : PA X [a, b] (tMs c [m1, m2]))
    (hs : starEach [a, b] X.env = (false, eval a X.env) :: starEach [b] X.env := by rfl) (hpl : (backTo pos (starEach [b] X.env)).any (·.1) = false := by rfl) : PI X (.Tuple elts kk tpos) (.Call (.Name "zip" p) [a, b] [] pos) (tI c (iZip m1 m2)) :=
  pi_conseq (pi_zipK hg hm ha hs hpl) fun σ H R ⟨F, ρ, G, S, a⟩ => by
    refine tMs_ev S ((Ask.then a).imp (GLe.refl G) fun ds ρ1 k vs H1 G1 S1 gl1 r1 => ?_)
    split at k
    · rename_i d1 d2
      split at k
      · rename_i t xs u ys e1 e2
        obtain ⟨v1, r', ev, q1, v2, r'', ev2, q2, en⟩ := r1
        have en' : r'' = [] := en
        subst ev ev2 en'
        obtain ⟨p1, zs1, f1, g1, h1⟩ := seq_frz e1 q1
        obtain ⟨p2, zs2, f2, g2, h2⟩ := seq_frz e2 q2
        subst f1 f2
        rw [hK]
        exact fun _ => ⟨p1, p2, t, u, zs1, zs2, rfl, h1 G1 H1 (GLe.refl _) S1.sub, h2 G1 H1 (GLe.refl _) S1.sub, k _ H1 G1 S1 gl1 (it_zip h1 h2 g1 g2)⟩
      · exact k.elim
    · exact k.elim
end

set_option autoImplicit false
theorem ext_tupAt (l : Addr) (xs : Array Value) (n : Nat) (b : Addr) (ys : Array Value) (n2 : Nat) (dd : Option Addr) (sl : Array (Option Value)) (d0 : ¬(!xs.isEmpty && Builtin.List.listTooLong (xs.size + ys.size)) = true) (d1 : xs.size ≤ sizeLine) (d2 : xs.size + ys.size ≤ sizeLine + 1) :
    Meets (Builtin.«list.extend» ⟨[.ref l, .ref b], []⟩) (fun _ R s => s.heap.get? l = some { cls := .type "list", dict := none, data := .seq xs n, slots := #[] } ∧ s.heap.get? b = some { cls := .type "tuple", dict := dd, data := .seq ys n2, slots := sl } ∧
      R (.ok (.ret Value.none)) { s with heap := s.heap.update l (Obj.mapSeq fun x => x ++ ys), toks := s.toks }) :=
  .of_wp fun prog w A R s ⟨hl, hb, h⟩ => by
    obtain ⟨hp, g, d, tk, os⟩ := s
    have f1 := AutoSeq1.idx_int
    have f2 := AutoSeq1.sub_tuple_tuple
    have f3 := AutoSeq1.sub_list_list
    have f4 := AutoSeq1.sub_tuple_list
    have f5 := AutoSeq1.sub_list_tuple
    have fits : (xs ++ ys).size ≤ sizeLine + 1 := by rw [Array.size_append]; exact d2
    wp_walk using (wpAny_updateSeq hl rfl (hz := d1) (_hz' := fits)), wpAny_loadPart' hl, wpAny_loadPart' hb
    exact ⟨_, rfl, h⟩
section
variable {X : Cx} {c : Ct} {F : Fr} {ρ : Env} {σ : L2.St} {G H : Hp} {e : Expr} {pos : Pos}
def rExtT (K : PySem.W.Frag) : V → List V → Hp → VK → Prop := fun x vs H Q => ∃ l b xs zs, x = .ref l ∧ vs = [.ref b] ∧ H l = some (.lst xs) ∧ SqT K H b zs ∧ xs.length + zs.length ≤ sizeLine ∧ Q .non (upd H l (.lst (xs ++ zs)))
theorem mt_extT : MtM X "list.extend" (rExtT X.K) := by
  intro pins s σ H x vs v us Q I rx rv ⟨l, b, xs, zs, e1, e2, hl, hb, hz, q⟩
  subst e1 e2
  cases rx
  obtain ⟨u, eu, ru⟩ := rv.one
  subst eu
  cases ru
  obtain ⟨z, its, n, r, len, ol⟩ := I.lstM hl
  obtain ⟨jts, r2, ⟨⟨cls, dd, data, sl⟩, ob, hc, n2, hd⟩, _⟩ := I.tuple hb
  simp only at hc hd
  subst hc hd
  have l1 := r.length
  have l2 := r2.length
  have small : its.toArray.size + jts.toArray.size ≤ sizeLine := by rw [List.size_toArray, List.size_toArray]; omega
  have door : ¬ (!its.toArray.isEmpty && Builtin.List.listTooLong (its.toArray.size + jts.toArray.size)) = true := by
    rw [notLongL small, Bool.and_false]
    exact Bool.false_ne_true
  refine call_meets F.slot_list_extend ⟨_, ol, rfl⟩ F.entry_list_extend (F.args_list_extend_2 _ _) (ext_tupAt l its.toArray n b jts.toArray n2 dd sl door (Nat.le_trans (Nat.le_add_right _ _) small) (Nat.le_succ_of_le small)) ⟨ol, ob, ?_⟩
  refine ⟨.non, _, I.lset (its' := its ++ jts) hl ol (by simp) (r.append r2) ?_, rfl, q⟩
  rw [List.length_append]
  omega
theorem mt_extA : MtM X "list.extend" (fun x vs H Q => rExtend x vs H Q ∨ rExtT X.K x vs H Q) := fun pins s σ H x xs v us Q I rx rs q => q.elim (mt_extend pins s σ H x xs v us Q I rx rs) (mt_extT pins s σ H x xs v us Q I rx rs)
def mExt (i : Nat) (m : ME) : ME := fun ρ => match ρ[i]? with
  | some (.own (.list _)) => (m ρ).then fun d ρ' => (match seqOf d, ρ'[i]? with
    | some (_, es), some (.own (.list ds)) => if ds.length + es.length ≤ sizeLine then .ok .none (ρ'.set i (.own (.list (ds ++ es)))) else .stuck
    | _, _ => .stuck)
  | _ => .stuck
theorem me_ext {i : Nat} {m : ME} (hK : X.K = c.K) (h : PE X e (tBM X.K "list" (fun x vs H Q => rExtend x vs H Q ∨ rExtT X.K x vs H Q) (tVar i) (tMs c [m]))) : PE X e (tE c (mExt i m)) := pe_conseq h fun σ H Q ⟨F, ρ, G, S, a⟩ => by
  unfold mExt at a
  split at a
  · rename_i ds0 e0
    obtain ⟨p, es, ow, _⟩ := S.own_at e0
    obtain ⟨hg, o, ho, hd, _⟩ := id ow
    cases hd with
    | @lst _ xs r0 =>
      refine ⟨.ref p, es, .inl ⟨rfl, xs, .of ho⟩, F, ρ, G, S, (Ask.then a).imp (GLe.refl G) fun d ρ1 k v H1 G1 S1 gl1 r1 => ?_⟩
      split at k
      · rename_i t es2 ds e2 e1
        obtain ⟨p', es', ow', _⟩ := S1.own_at e1
        rw [es] at es'
        cases es'
        obtain ⟨hg', o', ho', hd', _⟩ := id ow'
        cases hd' with
        | @lst _ ys r2 =>
          by_cases hz : ds.length + es2.length ≤ sizeLine
          · rw [if_pos hz] at k
            cases d <;> simp only [seqOf] at e2 <;> first | cases e2 | skip
            · obtain ⟨b, zs, ev, hb, rz⟩ := r1
              subst ev
              exact .inl ⟨p, b, ys, zs, rfl, rfl, ho', S1.sub.lst hb, by rw [r2.length, rz.length]; exact hz, k .non _ G1 (S1.change e1 es (.lst (r2.append rz)) trivial) gl1 rfl⟩
            · obtain ⟨b, zs, ev, hb, rz⟩ := r1
              subst ev
              rw [hK]
              exact .inr ⟨p, b, ys, zs, rfl, rfl, ho', .inl (.inl (S1.sub.tup hb)), by rw [r2.length, rz.length]; exact hz, k .non _ G1 (S1.change e1 es (.lst (r2.append rz)) trivial) gl1 rfl⟩
          · rw [if_neg hz] at k
            exact k.elim
      · exact k.elim
  · exact a.elim
end

set_option autoImplicit false
inductive PT where
  | nm (i : Nat) | put (i j : Nat)
def tPT : PT → L2.TG
  | .nm i => gName i
  | .put i j => gSub (tVar i) (tVar j) rSetA
def tPTs : List PT → TGs
  | [] => gNil
  | t :: r => gCons (tPT t) (tPTs r)
def asg1 : PT → Bool → D → Env → Option Env
  | .nm i, f, d, ρ => some (ρ.set i (if f = true then .own d else .fz d))
  | .put i j, false, d, ρ => (match at_ ρ j, ρ[i]? with
    | some kd, some (.own cd) => (dPutAt cd kd d).map fun c' => ρ.set i (.own c')
    | _, _ => none)
  | _, _, _, _ => none
def asgP : List PT → List Bool → List D → Env → Option Env
  | [], [], [], ρ => some ρ
  | t :: ts, f :: fs, d :: ds, ρ => (asg1 t f d ρ).bind (asgP ts fs ds)
  | _, _, _, _ => none
section
variable {X : Cx} {c : Ct} {F : Fr} {ρ : Env} {σ : L2.St} {G H : Hp} {pos : Pos}
/-- what waits stands -/
theorem PVs.keep {G' H' : Hp} {ρ' : Env} {σ' : L2.St} (gl : GLe G G') (hk : ∀ (d : D) (p : Addr), NewAt c F ρ σ G H d p → NewAt c F ρ' σ' G' H' d p ∨ False) : ∀ {fs : List Bool} {ds : List D} {vs : List V}, PVs c F ρ σ G H fs ds vs → PVs c F ρ' σ' G' H' fs ds vs
  | [], [], [], _ => trivial
  | false :: fs, d :: ds, v :: vs, h => ⟨Rp.mono gl _ _ h.1, PVs.keep gl hk h.2⟩
  | true :: fs, d :: ds, v :: vs, h => by
    obtain ⟨⟨p, e, n⟩, r⟩ := h
    exact ⟨⟨p, e, (hk d p n).elim id False.elim⟩, PVs.keep gl hk r⟩
theorem PVs.keepN {G' H' : Hp} {ρ' : Env} {σ' : L2.St} (gl : GLe G G') : ∀ {fs : List Bool} {ds : List D} {vs : List V}, (∀ (d : D) (p : Addr), p ∈ newsOf fs vs → NewAt c F ρ σ G H d p → NewAt c F ρ' σ' G' H' d p) → PVs c F ρ σ G H fs ds vs → PVs c F ρ' σ' G' H' fs ds vs
  | [], [], [], _, _ => trivial
  | false :: fs, d :: ds, v :: vs, hk, h => by
    have e : newsOf (false :: fs) (v :: vs) = newsOf fs vs := by cases v <;> rfl
    rw [e] at hk
    exact ⟨Rp.mono gl _ _ h.1, PVs.keepN gl hk h.2⟩
  | true :: fs, d :: ds, v :: vs, hk, h => by
    obtain ⟨⟨p, e, n⟩, r⟩ := h
    subst e
    exact ⟨⟨p, rfl, hk d p List.mem_cons_self n⟩, PVs.keepN gl (fun d q hq => hk d q (List.mem_cons_of_mem _ hq)) r⟩
theorem asgP_ev : ∀ {ts : List PT} {fs : List Bool} {ds : List D} {vs : List V} {ρ : Env} {σ : L2.St} {H : Hp} {ρ' : Env} {Q : L2.St → Hp → Prop}, State c F ρ σ G H → PVs c F ρ σ G H fs ds vs → (newsOf fs vs).Nodup → asgP ts fs ds ρ = some ρ' →
    (∀ t ∈ ts, ∀ i, t = .nm i → i ∉ c.ios) → (∀ σ' H', State c F ρ' σ' G H' → Q σ' H') → tPTs ts vs σ H Q
  | [], [], [], [], ρ, σ, H, ρ', Q, S, _, _, e, _, k => by
    cases e
    exact ⟨rfl, k σ H S⟩
  | t :: ts, f :: fs, d :: ds, [], ρ, σ, H, ρ', Q, S, h, n, e, hio, k => by cases f <;> exact h.elim
  | t :: ts, f :: fs, d :: ds, v :: vs, ρ, σ, H, ρ', Q, S, h, n, e, hio, k => by
    have e' : (asg1 t f d ρ).bind (asgP ts fs ds) = some ρ' := e
    cases ea : asg1 t f d ρ with
    | none => rw [ea] at e'; cases e'
    | some ρ1 =>
      rw [ea] at e'
      have e2 : asgP ts fs ds ρ1 = some ρ' := e'
      have hio2 : ∀ t ∈ ts, ∀ i, t = .nm i → i ∉ c.ios := fun t ht => hio t (List.mem_cons_of_mem _ ht)
      refine ⟨v, vs, rfl, ?_⟩
      cases t with
      | nm i =>
        have hi := hio _ List.mem_cons_self i rfl
        cases ea
        cases f with
        | false =>
          have en : newsOf (false :: fs) (v :: vs) = newsOf fs vs := by cases v <;> rfl
          rw [en] at n
          refine asgP_ev (S.setFz h.1 hi) (PVs.keepN (GLe.refl _) (fun d' p hp n' => ?_) h.2) n e2 hio2 k
          obtain ⟨n1, n2, n3⟩ := n'
          refine ⟨n1, n2, fun j y ej es => ?_⟩
          rcases get_set ej with ⟨_, z⟩ | ⟨ne, ej⟩
          · cases z
          · rw [List.getElem?_set_ne ne] at es
            exact n3 j y ej es
        | true =>
          obtain ⟨⟨q, ev, hn⟩, hr⟩ := h
          subst ev
          have nn := List.nodup_cons.mp (show (q :: newsOf fs vs).Nodup from n)
          refine asgP_ev (S.setOwn hn hi) (PVs.keepN (GLe.refl _) (fun d' p hp n' => ?_) hr) nn.2 e2 hio2 k
          obtain ⟨n1, n2, n3⟩ := n'
          refine ⟨n1, n2, fun j y ej es => ?_⟩
          rcases get_set ej with ⟨rfl, _⟩ | ⟨ne, ej⟩
          · by_cases hlt : i < σ.length
            · rw [List.getElem?_set_self hlt] at es
              cases es
              exact nn.1 hp
            · rw [List.getElem?_eq_none (by rw [List.length_set]; omega)] at es
              cases es
          · rw [List.getElem?_set_ne ne] at es
            exact n3 j y ej es
      | put i j =>
        cases f with
        | true => cases ea
        | false =>
          have en : newsOf (false :: fs) (v :: vs) = newsOf fs vs := by cases v <;> rfl
          rw [en] at n
          have ea' : (match at_ ρ j, ρ[i]? with
            | some kd, some (.own cd) => (dPutAt cd kd d).map fun c' => ρ.set i (.own c')
            | _, _ => none) = some ρ1 := ea
          cases ej : at_ ρ j with
          | none => rw [ej] at ea'; cases ea'
          | some kd =>
            rw [ej] at ea'
            cases ei : ρ[i]? with
            | none => rw [ei] at ea'; cases ea'
            | some sl =>
              rw [ei] at ea'
              cases sl with
              | no => cases ea'
              | fz _ => cases ea'
              | own cd =>
                cases ep : dPutAt cd kd d with
                | none => simp only [ep] at ea'; cases ea'
                | some c' =>
                  simp only [ep] at ea'
                  cases ea'
                  obtain ⟨p, es, ow, _⟩ := S.own_at ei
                  obtain ⟨hg, o, ho, hd, hm⟩ := id ow
                  obtain ⟨y, ey, vy⟩ := S.vw ej
                  refine ⟨_, es, y, ey, ?_⟩
                  refine put_at S.sub ho hd hm vy h.1 ep fun o' H' eH hd' hm' => ?_
                  have e3 : upd H' p o' = upd H p o' := by
                    rcases eH with e | ⟨u, e⟩
                    · rw [e]
                    · rw [e, upd_upd]
                  rw [e3]
                  refine asgP_ev (S.change ei es hd' hm') (PVs.keepN (GLe.refl _) (fun d' q hq n' => ?_) h.2) n e2 hio2 k
                  obtain ⟨⟨m1, m2, m3, m4, m5⟩, n2, n3⟩ := n'
                  have ne : q ≠ p := fun z => n3 i cd ei (by rw [z]; exact es)
                  refine ⟨⟨m1, m2, by rw [upd_ne ne]; exact m3, m4, m5⟩, n2, fun k' x' ek es' => ?_⟩
                  rcases get_set ek with ⟨rfl, _⟩ | ⟨nk, ek⟩
                  · rw [es] at es'
                    cases es'
                    exact ne rfl
                  · exact n3 k' x' ek es'
def sParT (ts : List PT) (ms : List (Bool × ME)) : SM := fun ρ => (evm (ms.map (·.2)) ρ).sr fun ds ρ' => match asgP ts (ms.map (·.1)) ds ρ' with
  | some ρ2 => .nx ρ2
  | none => .stuck
theorem st_parT {ts : List PT} {ms : List (Bool × ME)} {es tgs : List Expr} {k1 k2 : Nat} {p1 p2 : Pos} (hc : X.calm = true) (hK : X.K = c.K) (ha : PA X es (tPs c ms)) (hg : PGs X tgs (tPTs ts)) (hio : ∀ t ∈ ts, ∀ i, t = .nm i → i ∉ c.ios) (hz : ms.length ≤ sizeLine := by decide) (hl : ms.length = ts.length := by rfl)
    (hn : (assignEach tgs X.env).length = ts.length := by rfl) (hst : (assignEach tgs X.env).findIdx? (·.1) = none := by rfl)
    (hs : swapsWithSole [.Tuple tgs k1 p1] (.Tuple es k2 p2) pos.line X.env = pure false := by rfl) (hw : swappedStores [.Tuple tgs k1 p1] (.Tuple es k2 p2) X.env = pure none := by rfl) (h1 : (assignEach [.Tuple tgs k1 p1] X.env).map (·.2) = [assign (.Tuple tgs k1 p1) X.env] := by rfl) :
    PS X (.Assign [.Tuple tgs k1 p1] (.Tuple es k2 p2) pos) (tS c (sParT ts ms)) := ps_conseq (ps_asg (pe_tup ha) (pg_tup hc hg hn hst) hs hw h1) fun D σ H ⟨F, ρ, G, S, a⟩ => by
  refine tPs_ev S ((SAsk.sr a).imp (GLe.refl G) fun ds ρ1 k vs H1 G1 S1 gl1 pv n => ?_)
  have lv := pv.len
  rw [List.length_map] at lv
  refine ⟨by rw [lv]; exact hz, fun T hT => ?_⟩
  have S2 := S1.add (o := .tup vs) hT
  have gT : GLe G1 (upd G1 T (.tup vs)) := GLe.upd (S1.gnone hT)
  refine ⟨T, vs, rfl, .of upd_same, by rw [lv, hl], ?_⟩
  cases e : asgP ts (ms.map (·.1)) ds ρ1 with
  | none => rw [e] at k; exact k.elim
  | some ρ2 =>
    rw [e] at k
    refine asgP_ev S2 (PVs.keepN gT (fun d p hp n' => ?_) pv) n e hio fun σ' H' S' => k σ' H' _ S' (gl1.trans gT)
    obtain ⟨⟨m1, m2, m3, m4, m5⟩, n2, n3⟩ := n'
    have ne : p ≠ T := fun z => by rw [z, hT] at m3; cases m3
    exact ⟨⟨by rw [upd_ne ne]; exact m1, m2, by rw [upd_ne ne]; exact m3, m4.mono gT, m5⟩, n2, n3⟩
theorem gt_nil : PGs X [] (tPTs []) := pgs_nil
theorem gt_nm {i : Nat} {x : Str} {tgs : List Expr} {ts : List PT} (hN : X.N.Nodup) (hi : X.N[i]? = some x) (hx : Loc X.env.scope x) (hr : PGs X tgs (tPTs ts)) (hf : X.fn x = true ∨ X.env.scope.names.lookup x = some .local := by first | exact .inl rfl | exact .inr rfl)
    (hs : (assignEach (.Name x pos :: tgs) X.env).map (·.2) = assign (.Name x pos) X.env :: (assignEach tgs X.env).map (·.2) := by rfl) : PGs X (.Name x pos :: tgs) (tPTs (.nm i :: ts)) := pgs_cons (pg_name hN hi hx hf) hr hs
end

set_option autoImplicit false
section
variable {X : Cx} {c : Ct}
/-- _law_refused(lambda: body) -/
theorem me_lam {x a : Str} {g co P : Addr} {k : Nat} {pg : Arguments} {bg : List Stmt} {sg : Scope} {dV kV doc pm cdv ct oc : Value} {an od : Option Addr} {osl : Array (Option Value)} {Ng : List Str}
    {pa : Arguments} {bo : Expr} {sc : Scope} {m : ME} {p lp pos : Pos} (hg : Gl X x) (hm : X.mg x = some (.ref g)) (hk : PySem.W.keepIn X.K (.ref g) = true)
    (lk : X.K.lookup g = some ⟨oc, od, .func (PySem.W.fnOf x x pg bg sg dV kV doc pm an cdv ct), osl⟩) (hcg : PySem.W.codeIn X.K cdv x = true) (hb : L2.Binds X.K (PySem.W.fnOf x x pg bg sg dV kV doc pm an cdv ct) [a] []) (Sg : FnScope Ng [a] sg) (hNg : Ng[0]? = some a) (hva : Vis sg a)
    (hG : GivesTo X Ng x sg g cdv bg a (X.env.qual ++ "<lambda>") (TTref X.K X.mg))
    (B : TabB X.base X.mg co P) (hco : X.env.code = .ref co) (inT : (P, X.env.qual ++ "<lambda>") ∈ c.T) (oneT : ∀ t ∈ c.T, t.1 = P → t.2 = X.env.qual ++ "<lambda>") (hr : Room (k + 2) X.A) (L : LamS X.env.scope sc) (nodef : defaultsOf pa X.env = ([], []))
    (hbind : ∀ (q : Str) (cl : List (Str × Addr)) (pm cv ctv : Value), bindArgs (PySem.W.kla_fn "<lambda>" q pa bo sc cl pm cv ctv) ⟨[], []⟩ = pure [])
    (hmg : c.mg = X.mg)
    (hbody : ∀ (A : Around) (outer : List PySem.Env) (s : Shared) (H : Hp) (E : XK) (f d : Addr), Room k (A.deeper (lamEnv X sc s.heap.objs.size f d)) → PE (lamCx X A outer s H E sc f d) bo (tE { c with W := fun cls d _ H => E cls d H } m))
    (hdb : (x == ("__debug__" : Str)) = false := by decide) (hd : (a == ("__debug__" : Str)) = false := by decide) (hcd : (a == ("__classdict__" : Str)) = false := by decide) :
    PE X (.Call (.Name x p) [.Lambda pa bo sc lp] [] pos) (tE c (mRef m)) :=
  pe_conseq (pe_lam3 hg hm hk lk hcg hb Sg hNg hva hG B hco inT oneT hr L nodef hbind hbody hdb hd hcd) fun _ _ _ h => lam_ref hmg h
end
/-- the law's own promise, from its M-function: at a script's marker it answers True -/
def scrD (ns : List Int) : D := .dict [(.none, .list (ns.map PyData.int))]
theorem law_sp {K : PySem.W.Frag} {mg : Str → Option Value} {T : List (Addr × Str)} {f : FM} {H : Hp} {a : Addr} {ns : List Int} (hT : ∀ t ∈ T, H t.1 = some (.tbl #[])) (hS : SqL K H a (ns.map V.int)) (hf : f [.fz (scrD ns)] = .ok (.bool true) []) :
    spM K T mg 1 f [.ref a] H (fun v _ => v = .bl true) fun _ _ _ => False := by
  let G : Hp := fun b => match H b with
    | some (.tbl _) => none
    | o => o
  have g1 : ∀ b u, G b = some u ↔ H b = some u ∧ ∀ ps, u ≠ .tbl ps := fun b u => by
    show (match H b with
      | some (.tbl _) => none
      | o => o) = some u ↔ _
    constructor
    · intro h
      split at h
      · cases h
      · rename_i o hn
        exact ⟨h, fun ps z => hn ps (by rw [h, z])⟩
    · rintro ⟨h, n⟩
      split
      · rename_i ps e
        rw [h] at e
        exact absurd (Option.some.inj e) (n ps)
      · exact h
  refine ⟨rfl, G, [.fz (scrD ns)], ⟨fun b u h => .inl ((g1 b u).mp h).1, fun b ps h => ((g1 b _).mp h).2 ps rfl⟩, fun t ht => TabS.nil (hT t ht), fun t ht => ?_, fun q ks h => (g1 q _).mpr ⟨h, fun ps z => nomatch z⟩, ⟨⟨a, rfl, .inr (.inr (.inl ⟨ns, rfl, ?_⟩))⟩, trivial⟩, List.nodup_nil, ?_⟩
  · cases e : G t.1 with
    | none => rfl
    | some u =>
      obtain ⟨h1, h2⟩ := (g1 _ _).mp e
      rw [hT t ht] at h1
      exact absurd (Option.some.inj h1).symm (h2 _)
  · rcases hS with (h | ⟨o, h⟩) | h
    · exact .inl (.inl ((g1 _ _).mpr ⟨h, fun ps z => nomatch z⟩))
    · exact .inl (.inr ⟨o, (g1 _ _).mpr ⟨h, fun ps z => nomatch z⟩⟩)
    · exact .inr h
  · rw [hf]
    intro v H' G' _ r _
    exact r
theorem cal_none {P : Program} {w : World} {K : PySem.W.Frag} {mg : Str → Option Value} {base : Heap} {T : List (Addr × Str)} {f : Addr} {fd : FuncData} {ps : List Str} {n : Nat} (hl : ps.length = n) : FnOk P w K mg base (L2.CX P w) 0 f fd ps (spM K T mg n fun _ => .stuck) :=
  ⟨fun vs H Q E h => by rw [h.1, hl], fun A outer s H args us vs Q E _ _ _ _ h => by
    obtain ⟨_, _, _, _, _, _, _, _, _, z⟩ := h
    exact z.elim⟩
theorem Cal.mono {P : Program} {w : World} {K : PySem.W.Frag} {mg : Str → Option Value} {base : Heap} {T : List (Addr × Str)} {x : Str} {i j n : Nat} {f : FM} (h : Cal P w K mg base T x i n f) (hij : i ≤ j) : Cal P w K mg base T x j n f := by
  obtain ⟨fa, fd, ps, F, r⟩ := h
  exact ⟨fa, fd, ps, F.mono hij, r⟩
theorem cx_no {P : Program} {w : World} {o : List PySem.Env} {H : Hp} {s : Shared} {e : Value} {s' : Shared} (h : L2.CX P w o H s (fun _ _ _ => False) e s') : False := by
  obtain ⟨_, _, _, _, _, h⟩ := h
  exact h.2.2.2.2.2.2.2

set_option autoImplicit false
/-- as LamX.GivesTo, whatever is known of the callee's state -/
def GivesP (X : Cx) (Ng : List Str) (x : Str) (sg : Scope) (g : Addr) (cdg : Value) (bg : List Stmt) (a : Str) (TT : (XK → Hp → VK → Prop) → Hp → VK → Prop) : Prop :=
  ∀ (f : Addr) (Φ : Hp → Prop) (s : Shared) (H : Hp) (Q : VK) (tl : XK → Hp → VK → Prop),
    (∀ (W : WX) (pn : List (Addr × Obj)) (xe : Value → Shared → Prop) (E : XK) (p1 p2 : Pos), Takes ((cxOf C8.CX0 X.prog X.w X.K X.mg X.base Ng x sg g cdg X.A X.stack s H C8.E0).tr pn xe) W → (∀ cls d σ' H', E cls d H' → W cls d σ' H') →
      PE ((cxOf C8.CX0 X.prog X.w X.K X.mg X.base Ng x sg g cdg X.A X.stack s H C8.E0).tr pn xe) (.Call (.Name a p1) [] [] p2) (fun σZ HZ Q => σZ[0]? = some (some (.ref f)) ∧ Φ HZ ∧ tl E HZ Q)) →
    Φ H → TT tl H Q →
    ∃ t, PSs (cxOf C8.CX0 X.prog X.w X.K X.mg X.base Ng x sg g cdg X.A X.stack s H C8.E0).nox bg t ∧ t { nx := fun _ H' => Q .non H', rt := Q } (L2.start Ng [.ref f]) H
theorem GivesP.to {X : Cx} {Ng : List Str} {x : Str} {sg : Scope} {g : Addr} {cdg : Value} {bg : List Stmt} {a q : Str} {TT : (XK → Hp → VK → Prop) → Hp → VK → Prop} (h : GivesP X Ng x sg g cdg bg a TT) : GivesTo X Ng x sg g cdg bg a q TT :=
  fun f c' s H Q tl act hc ht => h f (fun HZ => HZ c' = some (CodeO c' q)) s H Q tl act hc ht
/-- the lambda's names: its parameters are no names of the maker's -/
structure LamD (N : List Str) (sc scope : Scope) : Prop where
  kind : scope.kind = .function
  co : scope.isCoroutine = false
  gen : scope.isGenerator = false
  cell : ∀ y ∈ scope.names, y.2 ≠ .cell
  own : ∀ y ∈ scope.names, y.2 = .local → y.1 ∉ N
  free : ∀ y ∈ scope.names, y.2 = .free → sc.names.lookup y.1 = some .cell ∨ sc.names.lookup y.1 = some .free
def lamDB (N : List Str) (sc scope : Scope) : Bool :=
  decide (scope.kind = .function) && !scope.isCoroutine && !scope.isGenerator && (scope.names.all fun y => !decide (y.2 = .cell)) && (scope.names.all fun y => !decide (y.2 = .local) || !decide (y.1 ∈ N)) && scope.names.all fun y => !decide (y.2 = .free) || decide (sc.names.lookup y.1 = some .cell) || decide (sc.names.lookup y.1 = some .free)
theorem lamD_by {N : List Str} {sc scope : Scope} (h : lamDB N sc scope = true) : LamD N sc scope := by
  unfold lamDB at h
  simp only [Bool.and_eq_true, Bool.or_eq_true, Bool.not_eq_true', decide_eq_true_eq, decide_eq_false_iff_not, List.all_eq_true] at h
  obtain ⟨⟨⟨⟨⟨h1, h2⟩, h3⟩, h4⟩, h5⟩, h6⟩ := h
  refine ⟨h1, h2, h3, h4, fun y hy e => (h5 y hy).resolve_left (fun z => z e), fun y hy e => ?_⟩
  rcases h6 y hy with (z | z) | z
  · exact absurd e z
  · exact .inl z
  · exact .inr z
theorem LamD.has {X : Cx} {N : List Str} {scope : Scope} (L : LamD N X.env.scope scope) (ok : X.Ok) : ∀ y ∈ scope.names, y.2 = .free → ∃ c, X.env.cells.lookup y.1 = some c := fun y hy e => by
  rcases L.free y hy e with k | k
  · exact ok.has _ (.inl k)
  · exact ok.has _ (.inr k)
section
variable {X : Cx} {pins : List (Addr × Obj)} {σ : L2.St} {H HZ : Hp} {s s1 : Shared}
abbrev lamFn (q : Str) (pa : Arguments) (bo : Expr) (sc : Scope) (clz : List (Str × Addr)) (dV doc pmV cdv ct : Value) : FuncData := PySem.W.kdv_fn "<lambda>" q pa (.expr bo) sc clz dV doc pmV cdv ct
abbrev lamOb (q : Str) (pa : Arguments) (bo : Expr) (sc : Scope) (clz : List (Str × Addr)) (dV doc pmV : Value) (c' : Addr) (ct : Value) : Obj := PySem.W.kdv_obj "<lambda>" q pa (.expr bo) sc clz dV doc pmV c' ct
end

set_option autoImplicit false
theorem among_new {p : Pos} {c : Value} (l : Array Value) (h : TriplesOk l.toList) (hn : codeAmong p l.toList = none) : codeAmong p (l ++ #[rawInt p.line, rawInt p.col, c]).toList = some c := by
  rw [show (l ++ #[rawInt p.line, rawInt p.col, c]).toList = l.toList ++ [rawInt p.line, rawInt p.col, c] by simp]
  generalize l.toList = l at *
  fun_induction TriplesOk l with
  | case1 =>
    simp only [List.nil_append, rawInt, codeAmong]
    simp
  | case2 a t b u x rest ih =>
    simp only [List.cons_append, codeAmong] at hn ⊢
    split at hn
    · cases hn
    · rename_i q
      rw [if_neg q]
      exact ih h hn
  | case3 l h1 h2 => exact h.elim
theorem among_more {p : Pos} {c : Value} (l m : Array Value) (hl : codeAmong p l.toList = some c) : codeAmong p (l ++ m).toList = some c := by
  rw [show (l ++ m).toList = l.toList ++ m.toList by simp]
  generalize l.toList = l at *
  generalize m.toList = m at *
  fun_induction codeAmong p l with
  | case1 line a col b d rest h =>
    simp only [List.cons_append, codeAmong]
    rw [if_pos h]
    exact hl
  | case2 line a col b d rest h ih =>
    simp only [List.cons_append, codeAmong]
    rw [if_neg h]
    exact ih hl
  | case3 => cases hl
/-- what is asked of the making's continuation -/
abbrev MadeK (X : Cx) (pins : List (Addr × Obj)) (σ : L2.St) (s0 : Shared) (H : Hp) (T : List (Addr × Str)) (P : Addr) (ps0 : Pos) (pa : Arguments) (bo : Expr) (sc : Scope) (bnd : List (Str × Value) → Prop) (Q : Value → Shared → Prop) : Prop :=
  ∀ (f d : Addr) (dV doc pm ct : Value) (J : Hp) (s2 : Shared) (ts : List (Addr × Obj)) (binds : List (Str × Value)), Inv X pins σ J s2 → ExtN H J → TgE H J → Tabs T J →
    s2.heap.get? f = some (lamOb (X.env.qual ++ "<lambda>") pa bo sc (cloFrom X.env.cells sc.names []) dV doc pm d ct) → J f = none → f ∉ frs X.stack → J d = some (CodeO d (X.env.qual ++ "<lambda>")) → bnd binds →
    s0.heap.objs.size ≤ f → (∀ p ∈ ts, s2.heap.get? p.1 = some p.2 ∧ J p.1 = none ∧ p.1 ∉ frs X.stack ∧ p.1 ≠ f ∧ s0.heap.objs.size ≤ p.1) → (ts.map (·.1)).Nodup → (∃ tr tr' : Array Value, H P = some (.tbl tr) ∧ J P = some (.tbl tr') ∧ codeAmong ps0 tr'.toList = some (.ref d) ∧ ∃ more : Array Value, tr' = tr ++ more) →
    (∀ s3 : Shared, (∀ p ∈ ts, s3.heap.get? p.1 = some p.2) → BindsTo s3 (lamFn (X.env.qual ++ "<lambda>") pa bo sc (cloFrom X.env.cells sc.names []) dV doc pm (.ref d) ct) ⟨[], []⟩ binds) → Q (.ref f) s2
section
variable {X : Cx} {pins : List (Addr × Obj)} {σ : L2.St} {H : Hp} {s : Shared}
theorem lam_mkD {T : List (Addr × Str)} {co P : Addr} {pa : Arguments} {bo : Expr} {sc : Scope} {ps0 : Pos} {E : Value → Shared → Prop} {Q : Value → Shared → Prop} {i : Int} {kc : Nat} {pc : Pos} {an : Str} (I : Inv X pins σ H s) (B : TabB X.base X.mg co P) (hco : X.env.code = .ref co)
    (inT : (P, X.env.qual ++ "<lambda>") ∈ T) (oneT : ∀ t ∈ T, t.1 = P → t.2 = X.env.qual ++ "<lambda>") (tabs : Tabs T H) (hdef : pa.defaults = [.Constant (.int i) kc pc]) (hk0 : pa.kw_defaults = []) (fr : ∀ y ∈ sc.names, y.2 = .free → ∃ z, X.env.cells.lookup y.1 = some z)
    (hbind : ∀ (q : Str) (cl : List (Str × Addr)) (doc pm cv ctv : Value) (t : Addr) (tk : Tok), ∃ kk : Option (Array Value) → Sem (List (Str × Value)), bindArgs (lamFn q pa bo sc cl (.ref t) doc pm cv ctv) ⟨[], []⟩ = seqItems? (.ref t) >>= kk ∧ kk (some #[.int i tk]) = pure [(an, .int i tk)])
    (k : MadeK X pins σ s H T P ps0 pa bo sc (fun b => ∃ tk, b = [(an, .int i tk)]) Q) : wpAny (model X.prog X.w) X.A (eval (.Lambda pa bo sc ps0) X.env) Q E s := by
  refine PySem.W.kdv_lam (by rw [hdef]; rfl) hk0 ?_
  rw [hdef]
  refine PySem.W.kdv_all1 (wpAny_Constant_int ?_)
  have I1 : Inv X pins σ H { s with toks := s.toks + 1 } := I.tok _
  have hs1 : s.heap.objs.size ≤ ({ s with toks := s.toks + 1 } : Shared).heap.objs.size := Nat.le_refl _
  generalize s.toks = tk at I1 hs1 ⊢
  generalize ({ s with toks := tk + 1 } : Shared) = s1 at I1 hs1 ⊢
  refine PySem.W.kdv_all0 ?_
  rw [makeFunction_eq]
  simp only [List.zip_nil_right, List.filterMap_nil, List.isEmpty_nil, if_true, pure_bind, List.isEmpty_cons, Bool.false_eq_true, if_false]
  refine wpAny_bind (wpAny_newTextTuple ?_)
  have noT : H s1.heap.objs.size = none := I1.hok.fresh (Nat.le_refl _)
  have away : ∀ g, s1.heap.objs.size ≤ g → g ∉ frs X.stack := fun g hg mem => by
    rcases List.mem_cons.mp (I1.stkSub _ mem) with e | e
    · have lt := I1.lt
      rw [← e] at lt
      exact absurd (Nat.lt_of_lt_of_le lt hg) (Nat.lt_irrefl _)
    · exact I1.nofs hg e
  have I3 : Inv X pins σ H { s1 with heap := s1.heap.push (PySem.W.kdv_tup [.int i tk]) } := I1.kept fun b o e => Heap.get?_push_of_some _ e
  have atT : ({ s1 with heap := s1.heap.push (PySem.W.kdv_tup [.int i tk]) } : Shared).heap.get? s1.heap.objs.size = some (PySem.W.kdv_tup [.int i tk]) := Heap.get?_push_size _ rfl
  have szT : s1.heap.objs.size < (s1.heap.push (PySem.W.kdv_tup [.int i tk])).objs.size := by rw [Heap.size_push]; omega
  have frT := away s1.heap.objs.size (Nat.le_refl _)
  have away3 : ∀ g, (s1.heap.push (PySem.W.kdv_tup [.int i tk])).objs.size ≤ g → g ∉ frs X.stack := fun g hg => away g (Nat.le_trans (Nat.le_of_lt szT) hg)
  generalize hs3 : ({ s1 with heap := s1.heap.push (PySem.W.kdv_tup [.int i tk]) } : Shared) = s3 at I3 atT
  have eheap : s1.heap.push (PySem.W.kdv_tup [.int i tk]) = s3.heap := by rw [← hs3]
  rw [eheap] at szT away3
  obtain ⟨tr, atP, trOk, trIn⟩ := tabs _ inT
  have atP2 : s3.heap.get? P = some { cls := .none, data := .fields tr } := I3.hok P _ atP
  have bls : s3.heap.BuiltinsAt X.mg P := B.bm.keeps I3.bk
  have nTP : s1.heap.objs.size ≠ P := fun z => by
    rw [z, atP] at noT
    cases noT
  have bs : ∀ (q : Str) (cl : List (Str × Addr)) (doc pm cv ctv : Value) (s4 : Shared), (∀ p ∈ [(s1.heap.objs.size, PySem.W.kdv_tup [.int i tk])], s4.heap.get? p.1 = some p.2) → BindsTo s4 (lamFn q pa bo sc cl (.ref s1.heap.objs.size) doc pm cv ctv) ⟨[], []⟩ [(an, .int i tk)] := fun q cl doc pm cv ctv s4 h4 => by
    obtain ⟨kk, b1, b2⟩ := hbind q cl doc pm cv ctv s1.heap.objs.size tk
    exact BindsTo.of_defaults rfl (h4 (s1.heap.objs.size, PySem.W.kdv_tup [.int i tk]) (by simp)) rfl b1 b2
  cases found : codeAmong ps0 tr.toList with
  | some cv =>
    obtain ⟨d, ed, hd⟩ := trIn ps0 cv found
    subst ed
    refine PySem.W.kdv_makeTailHit (mg := X.mg) (c := co) (P := P) (ps := tr) (closure_ok fr) I3.ok.glob (I3.mod.glob.keeps I3.bk) hco (B.code.keeps I3.bk) atP2 trOk found bls fun ct doc g tk2 keep big => ?_
    refine k g.objs.size d (.ref s1.heap.objs.size) doc _ ct H _ [(s1.heap.objs.size, PySem.W.kdv_tup [.int i tk])] _ (I3.kept fun b o e => Heap.get?_push_of_some _ (keep b o e)) (ExtN.refl H) (fun _ _ e => e) tabs (Heap.get?_push_size _ rfl) (I3.hok.fresh big) (away3 _ big) hd ⟨tk, rfl⟩ (Nat.le_trans hs1 (Nat.le_trans (Nat.le_of_lt szT) big)) (fun p hp => ?_) (by simp) ⟨tr, tr, atP, atP, found, #[], by simp⟩ (bs _ _ _ _ _ _)
    cases List.mem_singleton.mp hp
    exact ⟨Heap.get?_push_of_some _ (keep _ _ atT), noT, frT, Nat.ne_of_lt (Nat.lt_of_lt_of_le szT big), hs1⟩
  | none =>
    refine PySem.W.kdv_makeTail (mg := X.mg) (c := co) (P := P) (ps := tr) (closure_ok fr) I3.ok.glob (I3.mod.glob.keeps I3.bk) hco (B.code.keeps I3.bk) atP2 trOk found B.gP bls fun d ct doc g tk2 keep ge lt rec_ tab_ => ?_
    obtain ⟨d2, od, vs, t, ed, hod, dat, nam⟩ := rec_
    cases ed
    have big : s3.heap.objs.size ≤ g.objs.size := Nat.le_trans ge (Nat.le_of_lt lt)
    have noD : H d = none := I3.hok.fresh ge
    have I2 := inv_table (t' := tk2) (more := #[rawInt ps0.line, rawInt ps0.col, .ref d]) (h' := g.push (lamOb (X.env.qual ++ "<lambda>") pa bo sc (cloFrom X.env.cells sc.names []) (.ref s1.heap.objs.size) doc ((X.mg "__name__").getD .none) d ct)) I3 atP
      (fun b o nb e => Heap.get?_push_of_some _ (keep b o nb e)) (Heap.get?_push_of_some _ tab_) ge ⟨od, vs, t, Heap.get?_push_of_some _ hod, dat, nam⟩
    have ext : ExtN H (upd (upd H P (.tbl (tr ++ #[rawInt ps0.line, rawInt ps0.col, .ref d]))) d (CodeO d (X.env.qual ++ "<lambda>"))) := fun b o e nt => by
      have nd : b ≠ d := ne_of_none e noD
      have nP : b ≠ P := fun z => by
        rw [z, atP] at e
        exact nt tr (Option.some.inj e).symm
      rw [upd_ne nd, upd_ne nP]
      exact e
    have lst : (tr ++ #[rawInt ps0.line, rawInt ps0.col, .ref d]).toList = tr.toList ++ [rawInt ps0.line, rawInt ps0.col, .ref d] := by simp
    refine k g.objs.size d (.ref s1.heap.objs.size) doc _ ct _ _ [(s1.heap.objs.size, PySem.W.kdv_tup [.int i tk])] _ I2 ext (fun q xs e => ?_) (fun t ht => ?_) (Heap.get?_push_size _ rfl) ?_ (away3 _ big) upd_same ⟨tk, rfl⟩ (Nat.le_trans hs1 (Nat.le_trans (Nat.le_of_lt szT) big)) (fun p hp => ?_) (by simp) ⟨tr, _, atP, by rw [upd_ne (ne_of_none atP noD), upd_same], among_new _ trOk found, _, rfl⟩ (bs _ _ _ _ _ _)
    · by_cases q1 : q = d
      · rw [q1, upd_same] at e
        unfold CodeO at e
        cases e
      · rw [upd_ne q1] at e
        by_cases q2 : q = P
        · rw [q2, upd_same] at e
          cases e
        · rw [upd_ne q2] at e
          exact e
    · by_cases tP : t.1 = P
      · rw [oneT t ht tP, tP]
        refine ⟨_, by rw [upd_ne (ne_of_none atP noD), upd_same], by rw [lst]; exact PySem.TriplesOk_snoc _ _ _ _ trOk, fun p2 cv hcv => ?_⟩
        rw [lst] at hcv
        rcases among_app _ trOk hcv with z | z
        · obtain ⟨d0, e1, e2⟩ := trIn p2 cv z
          exact ⟨d0, e1, ext _ _ e2 codeO_ne⟩
        · exact ⟨d, z, upd_same⟩
      · obtain ⟨tr', a1, a2, a3⟩ := tabs t ht
        refine ⟨tr', by rw [upd_ne (ne_of_none a1 noD), upd_ne tP]; exact a1, a2, fun p2 cv hcv => ?_⟩
        obtain ⟨d0, e1, e2⟩ := a3 p2 cv hcv
        exact ⟨d0, e1, ext _ _ e2 codeO_ne⟩
    · have nd : g.objs.size ≠ d := Nat.ne_of_gt lt
      have nP : g.objs.size ≠ P := fun z => by
        have lt2 := Heap.lt_size atP2
        rw [← z] at lt2
        exact absurd (Nat.lt_of_lt_of_le lt2 big) (Nat.lt_irrefl _)
      rw [upd_ne nd, upd_ne nP]
      exact I3.hok.fresh big
    · cases List.mem_singleton.mp hp
      have ntd : s1.heap.objs.size ≠ d := Nat.ne_of_lt (Nat.lt_of_lt_of_le szT ge)
      exact ⟨Heap.get?_push_of_some _ (keep _ _ nTP atT), by rw [upd_ne ntd, upd_ne nTP]; exact noT, frT, Nat.ne_of_lt (Nat.lt_of_lt_of_le szT big), hs1⟩
end

set_option autoImplicit false
def FnO (a : Addr) (o : Obj) : HO := .ext fun h => h.get? a = some o
section
variable {X : Cx} {pins : List (Addr × Obj)} {σ : L2.St} {H J : Hp} {s s2 : Shared}
end
/-- how a lambda is made, whatever it is -/
def LamMk (X : Cx) (T : List (Addr × Str)) (P : Addr) (pa : Arguments) (bo : Expr) (sc : Scope) (ps0 : Pos) (bnd : List (Str × Value) → Prop) : Prop :=
  ∀ (pins : List (Addr × Obj)) (σ : L2.St) (H : Hp) (s : Shared) (E Q : Value → Shared → Prop), Inv X pins σ H s → Tabs T H → MadeK X pins σ s H T P ps0 pa bo sc bnd Q → wpAny (model X.prog X.w) X.A (eval (.Lambda pa bo sc ps0) X.env) Q E s
section
variable {X : Cx}
end

set_option autoImplicit false
section
variable {X : Cx}
end

set_option autoImplicit false
structure LSp where
  pa : Arguments
  bo : Expr
  sc : Scope
  pos : Pos
  bnd : List (Str × Value) → Prop
  m : ME
abbrev lamOf (X : Cx) (sp : LSp) (dV doc pm : Value) (d : Addr) (ct : Value) : Obj := lamOb (X.env.qual ++ "<lambda>") sp.pa sp.bo sp.sc (cloFrom X.env.cells sp.sc.names []) dV doc pm d ct
/-- v is such a lambda, as G and the table tell -/
def LamG (X : Cx) (G : Hp) (tab : Array Value) (sp : LSp) (v : V) : Prop :=
  ∃ (f d : Addr) (dV doc pm ct : Value) (ts : List (Addr × Obj)) (binds : List (Str × Value)), v = .ref f ∧ G f = some (FnO f (lamOf X sp dV doc pm d ct)) ∧ codeAmong sp.pos tab.toList = some (.ref d) ∧ sp.bnd binds ∧ (∀ p ∈ ts, G p.1 = some (FnO p.1 p.2)) ∧
    ∀ s3 : Shared, (∀ p ∈ ts, s3.heap.get? p.1 = some p.2) → BindsTo s3 (lamFn (X.env.qual ++ "<lambda>") sp.pa sp.bo sp.sc (cloFrom X.env.cells sp.sc.names []) dV doc pm (.ref d) ct) ⟨[], []⟩ binds
theorem LamG.mono {X : Cx} {G G' : Hp} {tab : Array Value} {sp : LSp} {v : V} (h : LamG X G tab sp v) (gl : GLe G G') (more : Array Value) : LamG X G' (tab ++ more) sp v := by
  obtain ⟨f, d, dV, doc, pm, ct, ts, binds, e, hf, hc, hb, ht, hB⟩ := h
  exact ⟨f, d, dV, doc, pm, ct, ts, binds, e, gl _ _ hf, among_more _ _ hc, hb, fun p hp => gl _ _ (ht p hp), hB⟩
section
variable {X : Cx} {c : Ct} {F : Fr} {ρ : Env} {σ : L2.St} {G H : Hp} {P : Addr}
end

set_option autoImplicit false
section
variable {X : Cx} {c : Ct} {P : Addr}
end

set_option autoImplicit false
section
variable {X : Cx} {c : Ct} {P : Addr} {sps : List LSp} {i : Nat}
end

set_option autoImplicit false
section
variable {X : Cx} {c : Ct} {P co : Addr} {k : Nat} {pa : Arguments} {bo : Expr} {sc : Scope} {ps0 : Pos}
theorem bn_one {i : Int} {an : Str} (h : sc.names.lookup an = some .local) : ∀ b : List (Str × Value), (∃ tk, b = [(an, Value.int i tk)]) → ∀ y ∈ b, sc.names.lookup y.1 = some .local := fun b ⟨tk, e⟩ y hy => by
  rw [e] at hy
  cases List.mem_singleton.mp hy
  exact h
end

set_option autoImplicit false
section
variable {X : Cx} {c : Ct} {P : Addr} {e : Expr}
end

set_option autoImplicit false

set_option autoImplicit false
section
variable {X : Cx} {c : Ct} {F : Fr} {ρ : Env} {σ : L2.St} {G H : Hp} {a b d tg : Expr} {p pos tpos : Pos}
end

set_option autoImplicit false

set_option autoImplicit false
theorem tuple_mul1 (l : Addr) (items : Array Value) (n : Nat) (dd : Option Addr) (sl : Array (Option Value)) (u : Tok) :
    Meets (Builtin.«tuple.__mul__» ⟨[.ref l, .int 1 u], []⟩) (fun _ R s => s.heap.get? l = some { cls := .type "tuple", dict := dd, data := .seq items n, slots := sl } ∧ R (.ok (.ret (Value.ref l))) s) :=
  .of_wp fun prog w A R s h => by
    obtain ⟨hp, g, d, tk, os⟩ := s
    obtain ⟨hl, h⟩ := h
    have f1 := AutoSeq1.idx_int
    have c0 : (decide ((1 : Int) < -(2 ^ 63)) || decide ((1 : Int) ≥ 2 ^ 63)) = false := by decide
    have c1 : (items.isEmpty || (1 : Int) == 1) = true := by simp
    wp_walk using wpAny_loadPart' hl
    repeat (first
      | (refine wpAny_ite_false (decide_eq_false (by rw [c0]; exact Bool.false_ne_true)) ?_; wp_walk using wpAny_loadPart' hl)
      | (refine wpAny_ite_true (decide_eq_true (by rw [c1])) ?_; wp_walk using wpAny_loadPart' hl))
    exact ⟨_, rfl, h⟩
def rRepT1 (K : PySem.W.Frag) : R2 := fun x y H Q => ∃ l xs, x = .ref l ∧ y = .int 1 ∧ SqT K H l xs ∧ xs ≠ [] ∧ xs.length ≤ 1000 ∧ Q (.ref l) H
theorem op_repT1 {X : Cx} : OpR X (binaryOp .Mult) (rRepT1 X.K) := by
  intro pins s σ H x y v u Q I rx ry h
  obtain ⟨l, xs, rfl, rfl, hT, hne, hz, q⟩ := h
  cases rx
  obtain ⟨t, rfl⟩ := ry
  obtain ⟨its, r, ⟨⟨cls, dd, data, sl⟩, ho, hc, n, hd⟩, hs⟩ := I.tuple hT
  simp only at hc hd
  subst hc hd
  refine wpAny_binaryOp_repeat_ref (T := "tuple") (U := "int") (by decide) ⟨_, ho, rfl⟩ (fun s' => typeIs_int s' 1 t) noFill_tuple_mul F.fills_int_mul F.slot_int_rmul repeat_tuple F.slot_int_index.lookup
    (call_meets F.slot_int_rmul (typeIs_int s 1 t) F.entry_int_rmul (F.args_int_rmul_2 _ _) (int_rmul_tuple 1 t l its.toArray n dd sl)
      ⟨ho, rfl, ⟨_, ho, rfl⟩, call_meets F.slot_tuple_mul ⟨_, ho, rfl⟩ F.entry_tuple_mul (F.args_tuple_mul_2 _ _) (tuple_mul1 l its.toArray n dd sl t) ⟨ho, ?_⟩⟩)
  exact ⟨.ref l, H, I, rfl, q⟩
def dRepT : D → D → Option D
  | .tuple a, .int k => if a ≠ [] ∧ a.length ≤ 1000 ∧ 1 ≤ k ∧ k ≤ 1000 then some (.tuple (reps a k)) else none
  | _, _ => none
abbrev rRepTA (K : PySem.W.Frag) : R2 := fun x y H Q => rRepT1 K x y H Q ∨ rRepT K x y H Q
theorem op_repTA {X : Cx} : OpR X (binaryOp .Mult) (rRepTA X.K) := op_repT1.or op_repT
theorem p_repTA {K : PySem.W.Frag} : Prim2 K dRepT (rRepTA K) := fun G H x y d1 d2 d Q s v1 v2 e q => by
  cases d1 <;> cases d2 <;> simp only [dRepT] at e <;> first | cases e | skip
  rename_i ds k
  split at e
  · rename_i h
    cases e
    obtain ⟨hn, hl, h1, h2⟩ := h
    obtain ⟨a, xs, rfl, ha, ga, ra⟩ := v1.tup s
    have hxn : xs ≠ [] := fun z => hn (List.eq_nil_of_length_eq_zero (by rw [← ra.length, z]; rfl))
    by_cases hk : k = 1
    · subst hk
      refine .inl ⟨a, xs, rfl, v2.int, .inl (.inl ha), hxn, by rw [ra.length]; exact hl, q _ H (.inl ⟨rfl, a, xs, rfl, ga, ?_⟩)⟩
      show RpL K G (List.replicate 1 ds).flatten xs
      simpa using ra
    · exact .inr ⟨a, k, xs, rfl, v2.int, .inl (.inl ha), hxn, by omega, h2, by rw [ra.length]; exact hl, fun p hp => q _ _ (.inr ⟨p, _, rfl, hp, rfl, .tup (ra.reps _)⟩)⟩
  · cases e

set_option autoImplicit false
section
variable {X : Cx} {c : Ct} {F : Fr} {ρ : Env} {σ : L2.St} {G H : Hp} {K : PySem.W.Frag} {e : Expr} {p pos : Pos}
end

set_option autoImplicit false
section
variable {X : Cx} {o e f : Expr} {apos cpos : Pos} {td ty tx : TE}
end
section
variable {X : Cx} {c : Ct} {e : Expr}
end

set_option autoImplicit false
/-- the built-in __init__, bound, called: nothing of it is told -/
theorem call_mw {X : Cx} {pins : List (Addr × Obj)} {σ : L2.St} {H : Hp} {s : Shared} {a C u : Addr} {us : List Value} {A : Around} {E : Value → Shared → Prop} {Q : Value → Shared → Prop} (T : OexC X.K C) (I : Inv X pins σ H s) (e : H a = some (exo a C none))
    (hu : s.heap.get? u = some (PySem.W.kxs_mw "ValueError.__init__" a)) (hl : us.length ≤ sizeLine) (h : ∀ s', Inv X pins σ H s' → Q .none s') : wpAny (model X.prog X.w) A (call (.ref u) us) Q E s := by
  obtain ⟨nm, q, N, bs, bm, sn, sub, ab, col, dd, k0, k1, k2, k3, k5, hC, hbm⟩ := T.cls
  obtain ⟨t1, ho⟩ := exo_at I.hok e
  have fin : ∀ h', (∀ b o, b ≠ a → s.heap.get? b = some o → h'.get? b = some o) → h'.get? a = some ({ cls := .ref C, dict := none, data := .fields #[.ref s.heap.objs.size, .none, .none, .none, .bool false, .none] } : Obj) → Q .none { s with heap := h' } := fun h' k hx => by
    have J := I.write (t' := s.toks) (x := a) (e := a) (o := exo a C none) (by rw [e]; exact True.intro) (.inl rfl) k ⟨_, hx⟩ (exo_ok hx)
    have eu : upd H a (exo a C none) = H := by
      funext b
      by_cases hb : b = a
      · rw [hb, upd_same, e]
      · rw [upd_ne hb]
    rw [eu] at J
    exact h _ J
  have hC' := I.kIn _ _ hC
  obtain ⟨hh, g, d, tk, os⟩ := s
  refine wpAny_call (codeAny_of_tree ?_)
  show wpAny _ A.in1 (callAny (.ref u) ⟨us, []⟩) _ _ _
  simp only [callAny]
  refine wpAny_bind (wpAny_load hu ?_)
  simp only [PySem.W.kxs_mw, show (Value.type "method-wrapper" == Value.type "method" || Value.type "method-wrapper" == Value.type "builtin_function_or_method" || Value.type "method-wrapper" == Value.type "method-wrapper") = true by decide, if_true]
  refine PySem.W.KFB.if_so (by decide) ?_
  refine wpAny_bind (PySem.W.check_bound_init F.excBase_ValueError.toExcCallFacts hC' ho rfl ?_)
  refine wpAny_bind (wpAny_pure (wpAny_pure ?_))
  refine ⟨plainId_quiet F.excBase_ValueError.init.plain _, codeAny_builtin F.excBase_ValueError.initEntry ?_⟩
  exact PySem.W.exc_init_tree (cls := .ref C) (t0 := t1) (dv := none) (c2 := .none) (c3 := .none) (b4 := .bool false) ho hl fun h' k hx _ => fin h' k hx
theorem wpAt_mcall {prog : Program} {w : World} {A : Around} {c : Code} {E : Value → Shared → Prop} {s : Shared} {env : PySem.Env} {o : Expr} {name : Str} {apos pos : Pos} {e : Expr} {Q : Value → Shared → Prop}
    (he : starEach [e] env = (false, eval e env) :: starEach [] env) (hline : (apos.endLine == pos.line) = true)
    (h : ∀ pl, _root_.PySem.wpAt (model prog w) A c (attributeBase o name env (eval o env)) (fun ov s₁ => wpAny (model prog w) A (getMethod ov name pl) (fun fx s₂ => wpAny (model prog w) A (callWith pos fx.1 fx.2 (backTo pos (starEach [e] env)) []) Q E s₂) E s₁) E s) :
    _root_.PySem.wpAt (model prog w) A c (eval (.Call (.Attribute o name apos) [e] [] pos) env) Q E s := by
  rw [arm_eval_Call]
  refine _root_.PySem.wpAt_bind (_root_.PySem.wpAt_mono (h (do return (← importBound o env).getD true)) (fun ov s₁ h₁ => wpAt_of_wpAny (wpAny_bind (wpAny_standAt ?_))) fun _ _ x => x)
  have hform : methodCallForm (([e] : List Expr).length + ([] : List Keyword).length) (backTo pos (starEach [e] env)) (backToKw pos (keywordEach [] env)) = true := by
    rw [he]
    rfl
  have hpos : methodCallPos true o env apos pos = pure pos := by unfold methodCallPos; simp [hline]
  unfold methodCall
  rw [hform]
  refine wpAny_bind (wpAny_holding (wpAny_mono h₁ (fun fx s₂ h₂ => ?_) fun _ _ x => x))
  exact wpAny_bind (wpAny_of_eq hpos h₂)
/-- the body -/
def sinitBody (x fld : Str) (p0 p1 p2 p3 p4 p5 q0 q1 q2 q3 : Pos) : List Stmt :=
  [.Expr (.Call (.Attribute (.Call (.Name "super" p0) [] [] p1) "__init__" p2) [.Name x p3] [] p4) p5, .Assign [.Attribute (.Name "self" q0) fld q1] (.Name x q2) q3]
def spI (C : Addr) (fld : Str) : Sp := fun vs H Q E => ∃ a v, vs = [.ref a, v] ∧ H a = some (exo a C none) ∧ ∀ dx, H dx = none → dx ≠ a → Q .non (upd (upd H dx (exd dx [(fld, v)])) a (exo a C (some dx)))
theorem fnOk_sinit {P : Program} {w : World} {K : PySem.W.Frag} {mg : Str → Option Value} {base : Heap} {CX : CXT} {k : Nat} {C fI cda cc : Addr} {name qual fld x : Str} {params : Arguments} {scope : Scope} {p0 p1 p2 p3 p4 p5 q0 q1 q2 q3 : Pos}
    {doc pm ct kV oc : Value} {an od : Option Addr} {osl ccs csl : Array (Option Value)} {ccl cl : Value} {cdd cld : Option Addr} {vs : Array Value} {file : Str} {tf : Tok} {ar : PySem.Arg}
    (T : OexC K C)
    (hf : K.lookup fI = some ⟨oc, od, .func (PySem.W.fnX name qual params (sinitBody x fld p0 p1 p2 p3 p4 p5 q0 q1 q2 q3) scope [("__class__", cc)] .none kV doc pm an (.ref cda) ct), osl⟩)
    (hcd : PySem.W.codeIn K (.ref cda) qual = true)
    (hcode : K.lookup cda = some ⟨ccl, cdd, .fields vs, ccs⟩) (hvs : vs[2]? = some (.str file tf)) (hfile : ((P.main.file : Str) == file) = true)
    (hcell : K.lookup cc = some ⟨cl, cld, .cell (some (.ref C)), csl⟩)
    (hp : (params.posonlyargs ++ params.args).head? = some ar) (har : ar.arg = "self")
    (S : NdefX.NScope ["self", x, "__class__"] ["self", x] ["__class__"] scope)
    (hks : scope.names.lookup ("super" : Str) = some .globalImplicit) (htop : (P.main.scope.names.lookup ("super" : Str)).isSome = false) (hsuper : mg "super" = none)
    (hop : PySem.W.nsIn K cStatics "thirdparty.any" = some none)
    (hsub : PySem.W.mroIn K C (.ref C) = some true) (hVE : PySem.W.mroIn K C (.type "ValueError") = some true)
    (hinit : PySem.W.ks_superIn K C C "__init__" = some (some (.builtin "ValueError.__init__")))
    (hno : PySem.W.findIn K (.ref C) fld = some none) (hline : (p2.endLine == p4.line) = true) (hdb : (x == ("__debug__" : Str)) = false) (hdc : (x == ("__classdict__" : Str)) = false) : FnOk P w K mg base CX (k + 1) fI (PySem.W.fnX name qual params (sinitBody x fld p0 p1 p2 p3 p4 p5 q0 q1 q2 q3) scope [("__class__", cc)] .none kV doc pm an (.ref cda) ct) ["self", x] (spI C fld) := by
  refine ⟨fun vs H Q E ⟨a, v, e, _⟩ => by rw [e]; rfl, fun A outer s H args us vs Q E hr e0 hb hv ⟨a, v, ev, ha, hq⟩ => ?_⟩
  subst ev
  obtain ⟨hh, gs, dr, tk, os⟩ := s
  have KIn : K.In hh := e0.mod.kin.keeps fun b o e => (e0.bs b o e).1
  have lim : hh.NoLimit := e0.mod.nolimit.keeps fun b o e => (e0.bs b o e).1
  have kb : ∀ b o, K.lookup b = some o → H b = none := fun b o e => (e0.bs b o (e0.mod.kin b o e)).2
  let NFx : NdefX.NF := ⟨name, qual, params, sinitBody x fld p0 p1 p2 p3 p4 p5 q0 q1 q2 q3, scope, [("__class__", cc)], cda⟩
  have Cs : NdefX.CellsAt NFx.cl ["__class__"] [none] hh H := by
    have hone : ∀ (y : Str) (c : Addr), NFx.cl.lookup y = some c → y = ("__class__" : Str) ∧ c = cc := fun y c e => by
      have e' : (match y == ("__class__" : Str) with | true => some cc | false => none) = some c := e
      cases hy : y == ("__class__" : Str) with
      | true => rw [hy] at e'; cases e'; exact ⟨eq_of_beq hy, rfl⟩
      | false => rw [hy] at e'; cases e'
    refine ⟨rfl, fun y c e => ?_, fun y z c e1 e2 => ((hone y c e1).1).trans ((hone z c e2).1).symm, fun i y e => ?_⟩
    · obtain ⟨_, rfl⟩ := hone y c e
      exact ⟨kb _ _ hcell, _, _, KIn _ _ hcell, rfl⟩
    · cases i with
      | zero => cases e; exact ⟨cc, rfl, fun v z => by cases z⟩
      | succ i => cases e
  refine PySem.ks_codeAny_call_defAt (binds := (["self", x] : List Str).zip us) hr.depth (KIn _ _ hf) rfl lim (PySem.W.codeRec_of KIn hcd) rfl hb S.nocell (fun y hy => ?_) (fun h₁ hns hk₁ => ?_) S.co S.gen S.kind
  · obtain ⟨n, u⟩ := y
    exact S.par n (List.of_mem_zip hy).1
  have I1 := NdefX.inv_startN (CX := CX) (E := E) (f := fI) (F := NFx) (ws := [none]) (tk := tk + ((["self", x] : List Str).zip us).length) S hr.hd e0 rfl hv Cs hns hk₁
  obtain ⟨u0, u, rfl⟩ : ∃ u0 u, us = [u0, u] := by
    cases hv with
    | cons r t => cases t with
      | cons r2 t2 => cases t2; exact ⟨_, _, rfl⟩
  obtain rfl : u0 = Value.ref a := by cases hv with | cons r t => exact r
  obtain ⟨nm, q, N, bs, bm, sn, sub, ab, col, dd, k0, k1, k2, k3, k5, hC, hbm⟩ := T.cls
  have hcl : PySem.W.clsIn K C = some { name := nm, bases := bs, mro := .ref C :: bm, ns := N, qualname := q, hasDict := true, slotNames := sn, subclasses := sub, abstract := ab, collection := col, hasDel := false } := by unfold PySem.W.clsIn; rw [hC] <;> rfl
  obtain ⟨t1, ho⟩ := exo_at I1.hok ha
  have loc1 : ∀ (i : Nat) (y : Str) (v' : V), (["self", x, "__class__"] : List Str)[i]? = some y → y ∈ (["self", x] : List Str) → (NdefX.startF ["self", x, "__class__"] [V.ref a, v] [none])[i]? = some (some v') → ∃ m u, h₁.Ns hh.objs.size m ∧ m y = some u ∧ RelV v' u ∧ scope.names.lookup y = some .local := fun i y v' e1 e2 e3 => by
    obtain ⟨m, hn, hl⟩ := I1.loc
    have hlk := S.par y e2
    obtain ⟨u', r, l⟩ := hl i y v' e1 e3 (.inl hlk)
    rcases l with ⟨_, l⟩ | ⟨l, _⟩
    · exact ⟨m, u', hn, l, r, hlk⟩
    · have l' : scope.names.lookup y = some .cell ∨ scope.names.lookup y = some .free := l
      rw [hlk] at l'
      rcases l' with l' | l' <;> cases l'
  obtain ⟨m0, u1, hn0, hm0, ru1, hl0⟩ := loc1 0 "self" (.ref a) rfl (by simp) rfl
  obtain rfl : u1 = Value.ref a := ru1
  have hxC : a ≠ C := fun z => by rw [z] at ha; rw [kb _ _ hC] at ha; cases ha
  have hkc : scope.names.lookup ("__class__" : Str) = some .free := S.frk _ (by simp)
  unfold sinitBody
  have hD1 := hk₁ _ _ (KIn _ _ hC)
  obtain ⟨mb, b1, b2⟩ := I1.mod.blt
  refine PySem.ks_wpAt_execs_cons (PySem.ks_wpAt_Expr_any (wpAt_mcall rfl hline fun pl => PySem.ks_wpAt_super_base (f := fI) (cc := cda) (ar := ar) hks hkc (by decide) rfl (hk₁ _ _ (KIn _ _ hf)) rfl hp rfl (hk₁ _ _ (KIn _ _ hcode)) rfl hvs hfile htop ?_) (by show (scope.kind == .module && _) = false; rw [S.kind]; rfl))
  refine PySem.W.ks_loadName_global S.kind hks (Calls.loadGlobal_builtin (mg := mg) (mb := mb) (I1.mod.glob.keeps I1.bk) hsuper (b1.keeps I1.bk) ((b2 "super" (by decide)).trans (by decide +kernel : bootBuiltins "super" = some (.type "super"))) ⟨rfl, ?_⟩)
  refine wpAny_loadName_free S.kind hkc rfl ⟨_, hk₁ _ _ (KIn _ _ hcell), rfl⟩ ?_
  refine wpAny_loadName_local S.kind (by rw [har]; exact hl0) hn0 (by rw [har]; exact hm0) ?_
  refine PySem.ks_wpAny_isType_cls hD1 rfl ⟨rfl, ?_⟩
  refine PySem.ks_wpAny_call_super hD1 rfl ho rfl (fun c e => nomatch e) (PySem.W.looks_mroIn (KIn.keeps hk₁) hsub) (fun h2 hso keep => ?_)
  have I2 := I1.kept (t' := tk + ((["self", x] : List Str).zip [Value.ref a, u]).length) keep
  have KI2 : K.In h2 := (KIn.keeps hk₁).keeps keep
  have hin : PySem.W.alongIn K "__init__" (((Value.ref C :: bm).dropWhile (· != .ref C)).drop 1) = some (some (.builtin "ValueError.__init__")) := by
    unfold PySem.W.ks_superIn at hinit
    rw [hcl] at hinit
    exact hinit
  have IA : PySem.W.InstAt h2 a _ C none := ⟨keep _ _ ho, rfl, rfl, trivial⟩
  refine PySem.W.kxs_getMethod PySem.W.kxs_ValueError hso (PySem.W.looks_opaque KI2 hop) (l₀ := .ref C :: bm) (fun A Q E s k q => wpAny_bind ((PySem.W.looks_clsIn KI2 hcl) A _ E s k (wpAny_pure q))) rfl KI2 hin (IA.type.andThen (PySem.W.looks_mroIn KI2 hVE)) hxC (by decide) ?_
  have I3 := I2.kept (h' := h2.push (PySem.W.kxs_mw "ValueError.__init__" a)) (t' := tk + ((["self", x] : List Str).zip [Value.ref a, u]).length + 1) fun b o e => Heap.get?_push_of_some _ e
  have hmw : (h2.push (PySem.W.kxs_mw "ValueError.__init__" a)).get? h2.objs.size = some (PySem.W.kxs_mw "ValueError.__init__" a) := Heap.get?_push_size _ rfl
  obtain ⟨m3, hn3, hl3⟩ := I3.loc
  obtain ⟨u3, r3, l3⟩ := hl3 1 x v rfl rfl (.inl (S.par x (by simp)))
  have hm3 : m3 x = some u3 := by
    rcases l3 with ⟨_, l⟩ | ⟨l, _⟩
    · exact l
    · have l' : scope.names.lookup x = some .cell ∨ scope.names.lookup x = some .free := l
      rw [S.par x (by simp)] at l'
      rcases l' with l' | l' <;> cases l'
  show wpAny _ _ (callWith p4 (.ref h2.objs.size) [] [(false, eval (.Name x p3) _)] []) _ _ _
  refine PySem.W.kxs_callWith (i := "ValueError.__init__") (x := a) rfl (Calls.evalArgs_plain (Calls.spliced_cons (wpAny_Name (wpAny_loadName_local S.kind (S.par x (by simp)) hn3 hm3 (Calls.spliced_nil ⟨hmw, ?_⟩)) hdb)))
  refine call_mw (us := [u3]) T I3 ha hmw (by show 1 ≤ sizeLine; rw [sizeLine_eq]; omega) fun s4 I4 => ?_
  have hsw : swapsWith (.Name x q2) (some (.Attribute (.Name "self" q0) fld q1)) q3.line (NdefX.envF NFx fI hh.objs.size) = pure false := rfl
  have body := pss_one (ps_ost (f := fld) (pos := q3) (p' := q1) (pe_var (X := NdefX.ncx CX P w K mg base ["self", x, "__class__"] NFx fI A outer ⟨hh, gs, dr, tk, os⟩ H E) (i := 0) (x := "self") (pos := q0) rfl (.inl (S.par _ (by simp))) (by decide) (by decide))
    (pe_var (X := NdefX.ncx CX P w K mg base ["self", x, "__class__"] NFx fI A outer ⟨hh, gs, dr, tk, os⟩ H E) (i := 1) (x := x) (pos := q2) rfl (.inl (S.par x (by simp))) hdb hdc) hsw)
  refine wpAt_of_wpAny (wpAny_mono (body.run [] s4 _ H { nx := fun _ H' => Q .non H', rt := Q } I4 ?_) (fun fl s' hs => ?_) fun e s' hs => hs)
  · exact ⟨v, rfl, .ref a, rfl, a, C, rfl, T, hno, .inl ⟨ha, fun dx h1 h2 => hq dx h1 h2⟩⟩
  · have fin : ∀ {σ' : L2.St} {H' : Hp} {v : V} {u : Value}, Inv (NdefX.ncx CX P w K mg base ["self", x, "__class__"] NFx fI A outer ⟨hh, gs, dr, tk, os⟩ H E) [] σ' H' s' → RelV v u → Q v H' → CE outer P w H ⟨hh, gs, dr, tk, os⟩ Q u s' :=
      fun {σ' H' v u} J rv q => ⟨v, H', J.os, J.bare, J.base, J.hok, rv, q⟩
    cases fl with
    | ret u =>
      obtain ⟨v, σ', H', J, rv, q⟩ := hs
      exact fin J rv q
    | next =>
      obtain ⟨σ', H', J, q⟩ := hs
      exact fin (v := V.non) (u := Value.none) J rfl q
    | brk =>
      obtain ⟨_, _, _, q⟩ := hs
      exact False.elim q
    | cont =>
      obtain ⟨_, _, _, q⟩ := hs
      exact False.elim q

set_option autoImplicit false
open PySem PySem.Spec PySem.Calls PyProof.Rows L2 LamX PySem.W
section
variable {P0 : Program} {w0 : World} {A0 : Around} {E0 : Value → Shared → Prop} {s0 : Shared} {K0 : PySem.W.Frag} {y C : Addr} {oy : Obj} {oD : Option Obj}
theorem find_cls (hc : (clsIn K0 C).isSome = true) (ha : findIn K0 (.ref C) "__class__" = some (some (.builtin "object.__class__"))) (hn : specialIn K0 (.builtin "object.__class__") "__get__" = some (some (.builtin "getset_descriptor.__get__"))) (ht : takesIn K0 (.builtin "object.__class__") = some true) :
    findObj K0 C oD "__class__" = some (.bind (.builtin "getset_descriptor.__get__") (.builtin "object.__class__")) := by
  obtain ⟨cd, e⟩ := Option.isSome_iff_exists.mp hc
  unfold findObj
  rw [e, Option.bind_some, ha, Option.bind_some]
  simp [hn, ht]
theorem ask_cls {Q : Option Value → Shared → Prop} (T : ExcC K0 C) (KI : K0.In s0.heap) (J : InstAt s0.heap y oy C oD) (h : Q (some (.ref C)) { s0 with toks := s0.toks + 1 }) : wpAny (model P0 w0) A0 (getAttr? (.ref y) "__class__") Q E0 s0 := by
  have fo : findObj K0 C oD "__class__" = some (.bind (.builtin "getset_descriptor.__get__") (.builtin "object.__class__")) := find_cls (by obtain ⟨cd, hc, _⟩ := any_some T.hd; rw [hc]; rfl) T.ha T.hn T.ht
  obtain ⟨h0, gs, dr, tk, os⟩ := s0
  have la := J.type (M := model P0 w0); have lb := looks_findIn (M := model P0 w0) KI T.hg; have lc := looks_findIn (M := model P0 w0) KI T.hk; have ld := looks_find (M := model P0 w0) KI J fo
  have le : Looks (model P0 w0) h0 (isInstance (.ref y) (.type "BaseException")) true := la.andThen (looks_subIn KI T.hs)
  have ne : (Value.builtin "BaseException.__getattribute__" == Value.builtin "object.__getattribute__") = false := by decide +kernel
  unfold getAttr? getAttrBy? getAttrBy; refine wpAny_bind (wpAny_mkText (wpAny_bind (wpAny_attempt (wpAny_holding (wpAny_bind (la.at (wpAny_bind (lb.at ?_))))))))
  show wpAny _ _ (if (onTheHeap (Value.ref C) && Value.builtin "BaseException.__getattribute__" == Value.builtin "object.__getattribute__") = true then _ else _) _ _ _
  rw [if_neg (by rw [ne]; exact Bool.false_ne_true)]
  unfold getAttrByItsOwn hookBefore; refine wpAny_bind ?_; rw [if_pos (show onTheHeap (Value.ref C) = true from rfl)]
  refine lc.at (wpAny_bind (wpAny_attempt (wpAny_holding ?_)))
  unfold callGetattribute; rw [if_neg (show ¬ (false && onTheHeap (Value.builtin "BaseException.__getattribute__")) = true from Bool.false_ne_true)]
  unfold boundAndCalled; rw [PySem.F.excAttr_ValueError.ga.bind (.ref y)]; refine wpAny_bind (wpAny_pure ?_)
  show wpAny _ _ (call (.builtin "BaseException.__getattribute__") [.ref y, .str "__class__" tk]) _ _ _
  refine wpAny_call (codeAny_call_builtin PySem.F.excAttr_ValueError.ga.plain PySem.F.entry_bexc_ga (@check_slot (model P0 w0) _ _ ⟨h0, gs, dr, tk + 1, os⟩ "BaseException.__getattribute__" "BaseException" "__getattribute__" (.ref y) [.str "__class__" tk] [] _ (by decide +kernel) (by decide +kernel) le (PySem.F.args_bexc_ga (.ref y) (.str "__class__" tk)) ?_))
  unfold Builtin.«object.__getattribute__»; refine wpAny_bind (wpAny_of_eq (a := ((Value.ref y : Value), [Value.str "__class__" tk])) (by first | rfl | (simp only [slotArgs]; rfl)) ?_)
  refine wpAny_bind (wpAny_pure (wpAny_bind (la.at (wpAny_bind (ld.at ?_)))))
  show wpAny _ _ (holding [Value.builtin "object.__class__"] (call (.builtin "getset_descriptor.__get__") [.builtin "object.__class__", .ref y, .ref C]) >>= ret) _ _ _
  refine wpAny_bind (wpAny_holding (wpAny_call (class_get (s := ⟨h0, gs, dr, tk + 1, os⟩) (ox := oy) (od := oD) KI J T.hm ?_)))
  refine wpAny_pure ?_
  show wpAny _ _ (handedOut (.ref C)) _ _ _
  rw [handedOut_of (v := .ref C) rfl]; first | exact wpAny_pure (wpAny_pure h) | exact wpAny_pure h | exact wpAny_pure (wpAny_bind (wpAny_pure (wpAny_pure h)))
theorem kitx_err (T : ExcC K0 C) : KitX K0 (.ref y) (.ref C) (fun h => ∃ oD, InstAt h y oy C oD) where
  ty := fun _ _ _ ⟨_, J⟩ => J.type
  it := fun _ _ KI _ => by
    obtain ⟨cd, hc, _⟩ := any_some T.hd; unfold clsIn at hc; split at hc
    · rename_i c1 d1 cd1 sl1 lk
      intro A' Q' E' s' kp q
      unfold isType loadHead; exact wpAny_bind (wpAny_loadPart (kp _ _ (KI _ _ lk)) (wpAny_pure q))
    · cases hc
  ne := fun h tp dd its n sl KI htp => by
    obtain ⟨cd, hc, _⟩ := any_some T.hd; refine Bool.eq_false_iff.mpr fun q => ?_
    have e : C = tp := Value.ref.inj (beq_iff_eq.mp q); subst e; unfold clsIn at hc; split at hc
    · rename_i c1 d1 cd1 sl1 lk; cases (KI _ _ lk).symm.trans htp
    · cases hc
  ca := fun KI ⟨_, J⟩ kp => ask_cls T KI J kp
end
/-- isinstance(e, c), e a caught error whose dict lies at dd -/
def rIsD (K : PySem.W.Frag) (D a dd : Addr) : List V → Hp → VK → Prop := fun xs H Q => ∃ (c : V) (cv : Value) (b : Bool) (fs : List (Str × V)), xs = [.ref a, c] ∧ (∀ u, RelV c u → u = cv) ∧ H dd = some (.xd fs) ∧ PySem.W.kitOne K (.ref D) cv = some b ∧ Q (.bl b) H
theorem call_isD {X : Cx} {a D dd : Addr} {oe : Obj} {pn : List (Addr × Obj)} (T : ExcC X.K D) (hz : Zc (.ref D) (some dd) oe) (hf : ∃ vs, oe.data = .fields vs) : CallR (X.suite a ((a, oe) :: pn)) (.builtin "isinstance") (rIsD X.K D a dd) := by
  intro pins s σ H xs us Q I r ⟨c, cv, b, fs, exs, hcv, hdd, hk, q⟩
  subst exs
  obtain ⟨u1, u2, eu, r1, r2⟩ := vals2 r
  subst eu
  obtain rfl : u1 = Value.ref a := r1
  obtain rfl := hcv _ r2
  obtain ⟨ha, _⟩ := I.pin (a, oe) (List.mem_append_left _ List.mem_cons_self)
  obtain ⟨vs, hd⟩ := hf
  have hx : ObjOk X.prog X.w H s.heap dd (.xd fs) := I.hok dd _ hdd
  obtain ⟨mA, hns, _⟩ := hx
  obtain ⟨od, ho, _⟩ := lookIn_ns hns
  have J : PySem.W.InstAt s.heap a oe D (some od) := ⟨ha, hz.1, by unfold PySem.W.notCls; rw [hd] <;> rfl, by rw [hz.2]; exact ho⟩
  exact PySem.W.kia_one (kitx_err T) I.kIn ⟨_, J⟩ hk (fun z => nomatch z) fun tk => ⟨.bl b, H, I.kept (t' := tk) fun _ _ z => z, rfl, q⟩
def sRaiseF (x f : Str) (m : ME) : SM := fun ρ => (m ρ).sr fun d ρ' => .ex ⟨x, some (f, d)⟩ ρ'
/-- an own error of the text with an __init__ that keeps its argument in the field f -/
def ERF (P : Program) (w : World) (K : PySem.W.Frag) (mg : Str → Option Value) (base : Heap) (x f : Str) : Prop := ∃ C fI fd ps, mg x = some (.ref C) ∧ OexC K C ∧ PySem.W.findIn K (.ref C) "__init__" = some (some (.ref fI)) ∧ PySem.W.typeIn K (.ref fI) = some (.type "function") ∧
  (∀ k, FnOk P w K mg base C8.CX0 (k + 1) fI fd ps (spI C f)) ∧ Binds K fd ps []
theorem State.allocX {c : Ct} {F : Fr} {ρ : Env} {σ : L2.St} {G H : Hp} (S : State c F ρ σ G H) {p : Addr} {fs : List (Str × V)} (h : H p = none) : State c F ρ σ G (upd H p (.xd fs)) := by
  have tg : ∀ (q : Addr) (ks : List Key), upd H p (.xd fs) q = some (.tup (ks.map kV)) → G q = some (.tup (ks.map kV)) := fun q ks e => by
    by_cases z : q = p
    · rw [z, upd_same] at e; cases e
    · rw [upd_ne z] at e; exact S.tupG q ks e
  obtain ⟨h1, h2, h3, h4, h5⟩ := S.alloc0 h fun q ks e => .inl (tg q ks e)
  exact ⟨h1, h2, S.wf, h3, h4, S.tabG, S.len, h5, S.apart, S.io, S.ios, S.ioD, tg⟩
section
variable {X : Cx} {c : Ct} {e : Expr} {m : ME} {p pos pos' : Pos} {x f : Str} {k : Nat}
theorem st_raiseF (hc : X.calm = true) (tk : Takes X c.W) (h : ERF X.prog X.w X.K X.mg X.base x f) (hG : c.mg = X.mg) (hK : X.K = c.K) (hr : Room (k + 2) X.A) (hg : Gl X x) (he : PE X e (tE c m)) (hdb : (x == ("__debug__" : Str)) = false := by decide)
    (hst : starEach [e] X.env = (false, eval e X.env) :: starEach [] X.env := by rfl) : PS X (.Raise (some (.Call (.Name x p) [e] [] pos)) none pos') (tS c (sRaiseF x f m)) := by
  obtain ⟨C, fI, fd, ps, gC, T, iC, tI, F1, hb⟩ := h
  refine ps_conseq (ps_raise hc tk (pmk_oex (ta := tMs c [m]) T iC tI (F1 k) hr hb .nil (fun _ _ _ _ _ _ _ z => z.elim) hg gC (ms_cons he ms_nil (hs := hst)) hdb hst rfl)) fun D σ H ⟨F, ρ, G, S, a⟩ => ?_
  unfold sRaiseF at a
  refine ⟨F, ρ, G, S, (SAsk.sr a).imp (GLe.refl G) fun d ρ1 q v H1 G1 S1 gl1 r1 => ?_⟩
  refine ⟨by simp, fun y hy => ⟨y, v, rfl, upd_same, fun dx hdx ne => ⟨rfl, dx, [(f, v)], upd_same, by rw [upd_ne ne]; exact upd_same, ?_, ?_⟩⟩⟩
  · rw [upd_ne ne] at hdx; exact hdx
  · have hdx1 : H1 dx = none := by rw [upd_ne ne] at hdx; exact hdx
    have eH : upd (del (upd (upd (upd H1 y (exo y C none)) dx (exd dx [(f, v)])) y (exo y C (some dx))) y) dx (.xd [(f, v)]) = upd H1 dx (.xd [(f, v)]) := by
      funext b
      by_cases h1 : b = dx
      · rw [h1, upd_same, upd_same]
      · rw [upd_ne h1, upd_ne h1]
        by_cases h2 : b = y
        · rw [h2, del_same, hy]
        · rw [del_ne h2, upd_ne h2, upd_ne h1, upd_ne h2]
    rw [eH]
    exact q (.ref C) (some dx) σ _ G1 (S1.allocX hdx1) gl1 ⟨C, by rw [hG]; exact gC, rfl, dx, v, rfl, upd_same, r1⟩
end

set_option autoImplicit false
/-- the first def of a class -/
def initOf : Stmt → Stmt
  | .ClassDef (body := b :: _) .. => b
  | s => s
theorem erf_of {P : Program} {w : World} {K : PySem.W.Frag} {mg : Str → Option Value} {C fI cda cc : Addr} {name qual n fld x : Str} {params : Arguments} {body : List Stmt} {scope : Scope} {p0 p1 p2 p3 p4 p5 q0 q1 q2 q3 : Pos}
    {doc pm ct kV oc : Value} {an od : Option Addr} {osl ccs csl : Array (Option Value)} {ccl cl : Value} {cdd cld : Option Addr} {vs : Array Value} {file : Str} {tf : Tok} {ar : PySem.Arg}
    {nm q : Str} {N : Addr} {bs bm : List Value} {sn : List Str} {sub : List Value} {ab : Bool} {col : Option Bool} {dd : Option Addr} {k0 k1 k2 k3 k5 : Option Value}
    (gC : mg n = some (.ref C)) (hC : K.lookup C = some (excClassObj nm q C N bs bm true sn sub ab col dd k0 k1 k2 k3 k5 "ValueError.__new__")) (hbm : PySem.HandSPX.refsVE bm = true)
    (sa : PySem.W.findIn K (.ref C) "__setattr__" = some (some (.builtin "object.__setattr__"))) (exC : PySem.W.subIn K (.ref C) (.type "BaseException") = some true) (tyC : PySem.W.typeIn K (.ref C) = some (.type "type")) (kC : PySem.W.keepIn K (.ref C) = true)
    (iC : PySem.W.findIn K (.ref C) "__init__" = some (some (.ref fI))) (tI : PySem.W.typeIn K (.ref fI) = some (.type "function"))
    (hf : K.lookup fI = some ⟨oc, od, .func (PySem.W.fnX name qual params body scope [("__class__", cc)] .none kV doc pm an (.ref cda) ct), osl⟩) (hcd : PySem.W.codeIn K (.ref cda) qual = true)
    (hcode : K.lookup cda = some ⟨ccl, cdd, .fields vs, ccs⟩) (hvs : vs[2]? = some (.str file tf)) (hfile : ((P.main.file : Str) == file) = true) (htop : (P.main.scope.names.lookup ("super" : Str)).isSome = false)
    (hcell : K.lookup cc = some ⟨cl, cld, .cell (some (.ref C)), csl⟩) (hsuper : mg "super" = none) (hop : PySem.W.nsIn K cStatics "thirdparty.any" = some none)
    (hsub : PySem.W.mroIn K C (.ref C) = some true) (hVE : PySem.W.mroIn K C (.type "ValueError") = some true) (hinit : PySem.W.ks_superIn K C C "__init__" = some (some (.builtin "ValueError.__init__"))) (hno : PySem.W.findIn K (.ref C) fld = some none)
    (hbody : body = sinitBody x fld p0 p1 p2 p3 p4 p5 q0 q1 q2 q3 := by rfl) (hp : (params.posonlyargs ++ params.args).head? = some ar := by rfl) (har : ar.arg = "self" := by rfl) (S : NdefX.NScope ["self", x, "__class__"] ["self", x] ["__class__"] scope := by exact NdefX.nscope_by (by decide +kernel))
    (hks : scope.names.lookup ("super" : Str) = some .globalImplicit := by decide +kernel) (hline : (p2.endLine == p4.line) = true := by rfl) (hdb : (x == ("__debug__" : Str)) = false := by decide) (hdc : (x == ("__classdict__" : Str)) = false := by decide)
    (hb : ∀ us : List Value, us.length = 2 → bindArgs (PySem.W.fnX name qual params body scope [("__class__", cc)] .none kV doc pm an (.ref cda) ct) ⟨us, []⟩ = pure ((["self", x] : List Str).zip us) := by intro us hl; exact (match us, hl with | [_, _], _ => rfl)) : ∀ base, ERF P w K mg base n fld := fun base => by
  subst hbody
  have T : OexC K C := ⟨⟨nm, q, N, bs, bm, sn, sub, ab, col, dd, k0, k1, k2, k3, k5, hC, hbm⟩, sa, exC, tyC, kC⟩
  exact ⟨C, fI, _, ["self", x], gC, T, iC, tI, fun k => fnOk_sinit T hf hcd hcode hvs hfile hcell hp har S hks htop hsuper hop hsub hVE hinit hno hline hdb hdc, Binds.all fun us hl => hb us hl⟩

set_option autoImplicit false
section
variable {X : Cx} {c : Ct} {e : Expr}
end

set_option autoImplicit false
section
variable {P : Program} {w : World} {A : Around} {E : Value → Shared → Prop} {s : Shared}
set_option maxHeartbeats 6400000 in
end

set_option autoImplicit true
section
variable {X : Cx} {c : Ct} {F : Fr} {ρ : Env} {σ : L2.St} {G H : Hp} {e tg iter : Expr}
end

set_option autoImplicit true
section
variable {X : Cx} {c : Ct} {F : Fr} {ρ : Env} {σ : L2.St} {G H : Hp}
end
theorem RpT.at {K : PySem.W.Frag} {G : Hp} : ∀ {kvs : List (D × D)} {es : List (List Key × V)}, RpT K G kvs es → ∀ {i : Nat} {p : D × D}, kvs[i]? = some p → ∃ k v, es[i]? = some (k, v) ∧ p.1 = .tuple (k.map keyD) ∧ Rp K G p.2 v
  | [], _, _, i, p, e => by cases e
  | (k, d) :: kvs, _, ⟨x, v, r, e, ek, h, t⟩, i, p, e2 => by
    subst e
    cases i with
    | zero => cases e2; exact ⟨x, v, rfl, ek, h⟩
    | succ i => exact RpT.at t e2
theorem RpK.at {K : PySem.W.Frag} {G : Hp} : ∀ {kvs : List (D × D)} {es : List (Key × V)}, RpK K G kvs es → ∀ {i : Nat} {p : D × D}, kvs[i]? = some p → ∃ k v, es[i]? = some (k, v) ∧ p.1 = keyD k ∧ Rp K G p.2 v
  | [], _, _, i, p, e => by cases e
  | (k, d) :: kvs, _, ⟨x, v, r, e, ek, h, t⟩, i, p, e2 => by
    subst e
    cases i with
    | zero => cases e2; exact ⟨x, v, rfl, ek, h⟩
    | succ i => exact RpK.at t e2
section
variable {X : Cx} {c : Ct} {F : Fr} {ρ : Env} {σ : L2.St} {G H : Hp} {tg e : Expr} {body : List Stmt} {pos : Pos}
end

set_option autoImplicit true
section
variable {X : Cx}
end

set_option autoImplicit true
section
variable {X : Cx} {c : Ct} {F : Fr} {ρ : Env} {σ : L2.St} {G H : Hp} {kx vx tg iter : Expr} {scope : Scope} {own : List (Str × Nat)} {pos : Pos} {it : MI} {ts : List Nat} {tm : TM} {ek ev : ME}
end

set_option autoImplicit true
def mListRg (f : List D → Option (Int × Int)) (os : List Opd) : ME := fun ρ => (iRng f os ρ).then fun ds ρ' => if ds.length ≤ 16777216 then .ok (.list ds) ρ' else .stuck
theorem up_rp {K : PySem.W.Frag} {G : Hp} : ∀ (n : Nat) (lo : Int), RpL K G (up lo n) ((List.range n).map fun i => V.int (lo + (i : Nat)))
  | 0, lo => rfl
  | n + 1, lo => by
    rw [List.range_succ_eq_map, List.map_cons, List.map_map]
    refine ⟨V.int lo, _, ?_, rfl, up_rp n (lo + 1)⟩
    congr 1
    · simp
    · refine List.map_congr_left fun i _ => ?_
      show V.int (lo + ((i + 1 : Nat) : Int)) = V.int (lo + 1 + (i : Int))
      congr 1
      omega
section
variable {X : Cx} {c : Ct} {a b : Expr} {p p2 pos pos2 : Pos}
theorem fe_listRg2 {o1 o2 : Opd} (hc : X.calm = true) (hgl : Gl X "list") (hml : X.mg "list" = none) (hg : Gl X "range") (hm : X.mg "range" = none) (ha : PE X a (tO c o1)) (hb : PE X b (tO c o2)) (na : starEach [.Call (.Name "range" p) [a, b] [] pos] X.env = (false, eval (.Call (.Name "range" p) [a, b] [] pos) X.env) :: starEach [] X.env := by rfl)
    (hs : starEach [a, b] X.env = (false, eval a X.env) :: starEach [b] X.env := by rfl) (hs2 : starEach [b] X.env = (false, eval b X.env) :: starEach [] X.env := by rfl) (hpl : (backTo pos (starEach [b] X.env)).any (·.1) = false := by rfl) :
    PE X (.Call (.Name "list" p2) [.Call (.Name "range" p) [a, b] [] pos] [] pos2) (tF c (mListRg fR2 [o1, o2])) :=
  pe_conseq (pe_listRg hc hgl hml (prg_2 hg hm ha hb hs hs2 hpl) na) fun σ H Q ⟨F, ρ, G, S, q⟩ => by
    have q1 := Ask.then q
    exact tOs_rng (os := [o1, o2]) (R := fun vs H2 => match vs with
      | [x, y] => ∃ i j, x = V.int i ∧ y = V.int j ∧ (RgOk i j ∧ ∀ q, H2 q = none → Q (.ref q) (upd H2 q (.lst (rgV i j))))
      | _ => False) S q1 fun ρ2 G2 H2 xs ds i j S2 gl vw ef hb k => by
      match ds, ef with
      | [.int z, .int y], ef =>
        cases ef
        match xs, vw with
        | [x, u], vw =>
          have ex := Vw.int vw.1
          have eu := Vw.int vw.2.1
          subst ex
          subst eu
          by_cases hz : (up i (j - i).toNat).length ≤ 16777216
          · simp only [if_pos hz] at k
            refine ⟨i, j, rfl, rfl, ⟨hb.1, hb.2.1, hb.2.2.1, hb.2.2.2, by rw [up_len] at hz; exact hz⟩, fun q hq => ?_⟩
            have n := NewAt.of S2 hq (ObjD.lst (up_rp (K := c.K) (G := G2) (j - i).toNat i)) trivial
            exact k q _ G2 (S2.alloc hq trivial) gl n
          · simp only [if_neg hz] at k
            exact k.elim
theorem fe_listRg1 {o1 : Opd} (hc : X.calm = true) (hgl : Gl X "list") (hml : X.mg "list" = none) (hg : Gl X "range") (hm : X.mg "range" = none) (ha : PE X a (tO c o1)) (na : starEach [.Call (.Name "range" p) [a] [] pos] X.env = (false, eval (.Call (.Name "range" p) [a] [] pos) X.env) :: starEach [] X.env := by rfl)
    (hs : starEach [a] X.env = (false, eval a X.env) :: starEach [] X.env := by rfl) :
    PE X (.Call (.Name "list" p2) [.Call (.Name "range" p) [a] [] pos] [] pos2) (tF c (mListRg fR1 [o1])) :=
  pe_conseq (pe_listRg hc hgl hml (prg_1 hg hm ha hs) na) fun σ H Q ⟨F, ρ, G, S, q⟩ => by
    have q1 := Ask.then q
    exact tOs_rng (os := [o1]) (R := fun vs H2 => match vs with
      | [x] => ∃ n, x = V.int n ∧ (RgOk 0 n ∧ ∀ q, H2 q = none → Q (.ref q) (upd H2 q (.lst (rgV 0 n))))
      | _ => False) S q1 fun ρ2 G2 H2 xs ds i j S2 gl vw ef hb k => by
      match ds, ef with
      | [.int z], ef =>
        cases ef
        match xs, vw with
        | [x], vw =>
          have ex := Vw.int vw.1
          subst ex
          by_cases hz : (up 0 (j - 0).toNat).length ≤ 16777216
          · simp only [if_pos hz] at k
            refine ⟨j, rfl, ⟨hb.1, hb.2.1, hb.2.2.1, hb.2.2.2, by rw [up_len] at hz; exact hz⟩, fun q hq => ?_⟩
            have n := NewAt.of S2 hq (ObjD.lst (up_rp (K := c.K) (G := G2) (j - 0).toNat 0)) trivial
            exact k q _ G2 (S2.alloc hq trivial) gl n
          · simp only [if_neg hz] at k
            exact k.elim
end

set_option autoImplicit true
def rIndexTI (K : PySem.W.Frag) : V → List V → Hp → VK → Prop := fun x xs H Q => ∃ p, ∃ ys : List Int, ∃ z j, x = .ref p ∧ xs = [.int z] ∧ SqT K H p (ys.map V.int) ∧ ys[j]? = some z ∧ (∀ m, m < j → ys[m]? ≠ some z) ∧ Q (.int (j : Nat)) H
theorem mt_indexTI {X : Cx} : MtR X "tuple.index" (rIndexTI X.K) := fun pins s σ H x xs v us Q I rx rs ⟨p, ys, z, j, ex, exs, hq, hy, hno, q⟩ => by
  subst ex exs
  cases rx
  obtain ⟨u, rfl, t, rfl⟩ := vals1 rs
  obtain ⟨its, r, pl, hz⟩ := I.tuple hq
  obtain ⟨⟨cls, dd, dt, sl⟩, ho, hc, n, hd⟩ := pl
  simp only at hc hd
  subst hc hd
  have hlen : its.length = ys.length := by rw [← r.length, List.length_map]
  -- each item is the number that stands there
  have item : ∀ m, m < ys.length → ∀ (hm : m < its.toArray.size), ∃ y t', ys[m]? = some y ∧ its.toArray[m] = Value.int y t' := fun m hm' hm => by
    obtain ⟨w, hw, t', hw'⟩ := r.get (i := m) (x := .int ys[m]) (by simp [hm'])
    refine ⟨ys[m], t', List.getElem?_eq_getElem hm', ?_⟩
    have e := (List.getElem?_eq_some_iff.mp hw).2
    rw [← hw', ← e]
    simp
  have hsz : its.toArray.size = ys.length := by rw [List.size_toArray, hlen]
  have hj := (List.getElem?_eq_some_iff.mp hy).1
  have flat : (ys.map V.int).all flatV = true := by rw [List.all_map]; exact List.all_eq_true.mpr fun _ _ => rfl
  refine call_meets PySem.F.slot_tuple_index ⟨_, ho, rfl⟩ PySem.F.entry_tuple_index (PySem.F.args_tuple_index_2 _ _) (TI.tuple_indexAt p its.toArray n dd sl (.int z t) (eqU (.int z)) j (by omega) ?_ ?_)
    ⟨ho, fun w hw => mem_eqAt (x := .int z) ⟨t, rfl⟩ rfl r flat w (by simpa using hw), ⟨.int (j : Nat), H, I.tok _, ⟨_, rfl⟩, q⟩⟩
  · obtain ⟨y, t', h1, h2⟩ := item j hj (by omega)
    rw [hy] at h1
    cases h1
    rw [h2]
    show (z == z) = true
    exact beq_self_eq_true z
  · intro m hm hmj
    obtain ⟨y, t', h1, h2⟩ := item m (by omega) hm
    rw [h2]
    show (y == z) = false
    have := hno m hmj
    rw [h1] at this
    exact beq_false_of_ne fun e => this (by rw [e])

set_option autoImplicit false
section
variable {X : Cx} {x n x2 : Str} {c c2 : Value} {i : Nat} {body su su2 : List Stmt} {b₀ b₂ : Stmt} {np pos p1 np2 p2 : Pos} {tb : WX → TS} {ts ts2 : Addr → Value → Option Addr → TS}
end
section
variable {X : Cx} {c : Ct}
end

set_option autoImplicit false
def subN : List Str → List Str → Bool
  | [], [] => true
  | x :: xs, y :: ys => (decide (x = y) || decide (x = "")) && subN xs ys
  | _, _ => false
theorem subN_len : ∀ {N1 N : List Str}, subN N1 N = true → N1.length = N.length
  | [], [], _ => rfl
  | x :: xs, y :: ys, h => by
    unfold subN at h
    rw [Bool.and_eq_true] at h
    rw [List.length_cons, List.length_cons, subN_len h.2]
  | [], _ :: _, h => by cases h
  | _ :: _, [], h => by cases h
theorem subN_at : ∀ {N1 N : List Str} {i : Nat} {y : Str}, subN N1 N = true → N1[i]? = some y → N[i]? = some y ∨ y = ""
  | [], [], _, _, _, e => by simp at e
  | x :: xs, z :: zs, i, y, h, e => by
    unfold subN at h
    rw [Bool.and_eq_true, Bool.or_eq_true, decide_eq_true_eq, decide_eq_true_eq] at h
    cases i with
    | zero =>
      have e' : x = y := Option.some.inj e
      rw [← e']
      exact h.1.imp (fun z => by rw [z]; rfl) id
    | succ i => exact subN_at (i := i) h.2 e
  | [], _ :: _, _, _, h, _ => by cases h
  | _ :: _, [], _, _, h, _ => by cases h
section
variable {X : Cx} {pins : List (Addr × Obj)} {σ : L2.St} {H HZ : Hp} {s s1 : Shared}
theorem lamN_start {A : Around} {outs : List PySem.Env} {E : XK} {scp : Scope} {f c' : Addr} {heap1 : Heap} {tkx : Nat} {fs : Str → Option Value} (I : Inv X pins σ H s) {N1 : List Str} (L : LamD N1 X.env.scope scp) (hN1 : subN N1 X.N = true) (hv1 : scp.names.lookup ("" : Str) = none) (env0 : Env0 X.prog X.w X.K X.mg X.base A outs s1 HZ) (hd : A.handled = none)
    (ubs : Un (frs X.stack) [] H HZ s.heap s1.heap) (nsF : heap1.Ns s1.heap.objs.size fs) (keepF : ∀ b o, s1.heap.get? b = some o → heap1.get? b = some o) :
    Inv { lamCx X A outs s1 HZ E scp f c' with N := N1 } [] σ HZ { s1 with heap := heap1, toks := tkx } := by
  have haveC := L.has I.ok
  have upC : ∀ {y c}, (cloFrom X.env.cells scp.names []).lookup y = some c → X.env.cells.lookup y = some c := fun {y c} e => by
    rcases cloFrom_mem (PySem.mem_of_lookup e) with hm | ⟨h1, h2⟩
    · cases hm
    · obtain ⟨c1, hcx⟩ := haveC _ h1 rfl
      have hcx : X.env.cells.lookup y = some c1 := hcx
      have e2 : c = c1 := by
        rw [h2, hcx] <;> rfl
      rw [e2]
      exact hcx
  have inC : ∀ {y}, scp.names.lookup y = some .free → ∃ c, (cloFrom X.env.cells scp.names []).lookup y = some c := fun {y} lkx => by
    have hyx : (y, NameKind.free) ∈ scp.names := PySem.mem_of_lookup lkx
    exact mem_lookup (cloFrom_has (cells := X.env.cells) (acc := []) hyx)
  have cellS : ∀ {c : Addr} {v : Option Value}, H c = none → s.heap.IsCell c v → heap1.IsCell c v := fun {c v} n ⟨o, ho, hd⟩ => by
    obtain ⟨sl, q⟩ := ubs.any ho n (by simp)
    exact ⟨_, keepF _ _ q, hd⟩
  have none0 : ∀ b : Addr, b ∉ ({ lamCx X A outs s1 HZ E scp f c' with N := N1 } : Cx).ex := fun b z => absurd (show b ∈ ([] : List Addr) from z) (by simp)
  refine ⟨⟨env0.mod, L.kind, rfl, rfl, Nat.le_refl _, fun y z c e1 e2 => I.ok.inj y z c (upC e1) (upC e2), fun y hyx => ?_, fun y c z _ => ?_, fun _ => hd, Around.frames_deeper env0.frames, .inr ⟨rfl, rfl⟩, fun b z => absurd z (none0 b), env0.bs, env0.bsz, fun b _ _ => none0 b,
      fun b z => absurd z (none0 b), env0.funs, env0.frf⟩,
    rfl, env0.bare, Un.kept keepF, ⟨_, nsF, fun i y v e1 e2 e3 => ?_⟩, fun y c e => ?_, env0.hok.fresh (Nat.le_refl _), fun y c e => ?_, fun q hqx => absurd (show q ∈ ([] : List (Addr × Obj)) ++ [] from hqx) (by simp), env0.hok.kept keepF, by show σ.length = N1.length; rw [subN_len hN1]; exact I.len⟩
  · have hyx : scp.names.lookup y = some .cell ∨ scp.names.lookup y = some .free := hyx
    rcases hyx with hyx | hyx
    · exact absurd rfl (L.cell _ (PySem.mem_of_lookup hyx))
    · exact inC hyx
  · have z : false = true := z
    cases z
  · have e3 : Vis scp y := e3
    rcases e3 with k | k | k
    · exact absurd (List.mem_of_getElem? (show N1[i]? = some y from e1)) (L.own _ (PySem.mem_of_lookup k) rfl)
    · exact absurd rfl (L.cell _ (PySem.mem_of_lookup k))
    · obtain ⟨m, nsx, lkx⟩ := I.loc
      have e1 : X.N[i]? = some y := (subN_at hN1 e1).resolve_right fun z => by
        rw [z, hv1] at k
        cases k
      have visX : Vis X.env.scope y := (L.free _ (PySem.mem_of_lookup k) rfl).elim (fun k => .inr (.inl k)) (fun k => .inr (.inr k))
      obtain ⟨wv, r, q⟩ := lkx i y v e1 e2 visX
      obtain ⟨cc2, h2⟩ := inC k
      refine ⟨wv, r, .inr ⟨.inr k, cc2, h2, ?_⟩⟩
      have c1 := upC h2
      rcases q with ⟨kdx, _⟩ | ⟨_, cc3, e', z⟩
      · have kdx : X.env.scope.names.lookup y = some .local := kdx
        rcases L.free _ (PySem.mem_of_lookup k) rfl with kd2 | kd2 <;> rw [show X.env.scope.names.lookup y = _ from kd2] at kdx <;> cases kdx
      · rw [c1] at e'
        cases e'
        exact cellS (I.freeC y _ c1) z
  · obtain ⟨wv, z⟩ := I.cell y c (upC e)
    exact ⟨wv, cellS (I.freeC y c (upC e)) z⟩
  · obtain ⟨v, o, ho, hd⟩ := I.cell y c (upC e)
    exact ubs.free c o ho (I.freeC y c (upC e)) (by simp)
end
section
variable {X : Cx} {pins : List (Addr × Obj)} {σ : L2.St} {H HZ : Hp} {s s1 : Shared}
/-- x(), in the def that got the lambda, whatever tells it -/
theorem pe_actN {CXg : CXT} {Eg : XK} {Ng : List Str} {qg : Str} {sg : Scope} {g f c' : Addr} {cdG dV doc pmV ctV : Value} {pas : Arguments} {bod : Expr} {scp : Scope} {k i : Nat} {a : Str} {pn : List (Addr × Obj)} {xe : Value → Shared → Prop} {W : WX} {E : XK} {tb : TE} {p1 p2 : Pos} {Φ : Hp → Prop} {binds : List (Str × Value)}
    (I : Inv X pins σ H s) {N1 : List Str} (L : LamD N1 X.env.scope scp) (hN1 : subN N1 X.N = true) (hv1 : scp.names.lookup ("" : Str) = none)
    (hf : ∀ (HZ : Hp) (s1 : Shared), Un (frs X.stack) [] H HZ s.heap s1.heap → HOk X.prog X.w HZ s1.heap → Φ HZ → s1.heap.get? f = some (lamOb (X.env.qual ++ "<lambda>") pas bod scp (cloFrom X.env.cells scp.names []) dV doc pmV c' ctV) ∧
      BindsTo s1 (lamFn (X.env.qual ++ "<lambda>") pas bod scp (cloFrom X.env.cells scp.names []) dV doc pmV (.ref c') ctV) ⟨[], []⟩ binds ∧ HZ c' = some (CodeO c' (X.env.qual ++ "<lambda>")))
    (hbl : ∀ y ∈ binds, scp.names.lookup y.1 = some .local)
    (tkx : Takes ((cxOf CXg X.prog X.w X.K X.mg X.base Ng qg sg g cdG X.A X.stack s H Eg).tr pn xe) W) (hW : ∀ cls d σ' H', E cls d H' → W cls d σ' H') (hr : Room (k + 1) (X.A.deeper (envOfC qg sg s.heap.objs.size g cdG)))
    (hbody : ∀ (A : Around) (outs : List PySem.Env) (s : Shared) (H : Hp), Room k (A.deeper (lamEnv X scp s.heap.objs.size f c')) → PE { lamCx X A outs s H E scp f c' with N := N1 } bod tb)
    (hN : Ng[i]? = some a) (hv : Vis sg a) (hd : (a == ("__debug__" : Str)) = false := by decide) (hcd : (a == ("__classdict__" : Str)) = false := by decide) :
    PE ((cxOf CXg X.prog X.w X.K X.mg X.base Ng qg sg g cdG X.A X.stack s H Eg).tr pn xe) (.Call (.Name a p1) [] [] p2)
      (fun σZ HZ Q => σZ[i]? = some (some (.ref f)) ∧ Φ HZ ∧ tb σ HZ Q) := by
  refine ⟨fun pz stZ σZ HZ Q IvZ h => ?_⟩
  obtain ⟨hs, hcx, ht⟩ := h
  refine wpAny_Call_Name_kw (thn ((pe_var (pos := p1) (i := i) hN hv hd hcd).run pz stZ σZ HZ (fun v H1 => v = .ref f ∧ H1 = HZ) IvZ ⟨.ref f, hs, rfl, rfl⟩) fun u s1 ⟨v, H1, J1, r1, qq1⟩ => ?_)
  obtain ⟨eqV, eqH⟩ := qq1
  subst eqV
  rw [eqH] at J1
  obtain rfl : u = Value.ref f := r1
  have ubs : Un (frs X.stack) [] H HZ s.heap s1.heap := J1.base
  obtain ⟨objF, hb1, hc1⟩ := hf HZ s1 ubs J1.hok hcx
  refine PySem.W.callWith_F0 ⟨_, _, _, _, objF⟩ ?_
  obtain ⟨⟨oc, vs, t, ocx, dcx, vcx⟩, _, _⟩ := J1.hok c' _ hc1
  have runF : codeAny (model X.prog X.w) (X.A.deeper (envOfC qg sg s.heap.objs.size g cdG)) (.call (.ref f) ⟨[], []⟩) (CR (L2.CX X.prog X.w) (envOfC qg sg s.heap.objs.size g cdG :: X.stack) X.prog X.w HZ s1 Q E) s1 := by
    refine PySem.W.kla_callFunE hr.depth objF rfl L.co L.gen rfl ⟨c', oc, vs, t, rfl, ocx, dcx, vcx⟩ ?_
    refine hb1 _ _ _ _ (wpAny_newFunctionEnv (fun y hyx => L.cell y hyx) hbl (fun heap1 nsF sbF => ⟨J1.nolimit.fresh _ sbF, ?_⟩) L.kind)
    show codeAny _ _ (.expr bod (lamEnv X scp s1.heap.objs.size f c')) _ _
    have keepF : ∀ b o, s1.heap.get? b = some o → heap1.get? b = some o := fun b o e => sbF.extBut b o (Nat.ne_of_lt (Heap.lt_size e)) (Heap.get?_push_of_some _ e)
    have J : Inv { lamCx X (X.A.deeper (envOfC qg sg s.heap.objs.size g cdG)) (envOfC qg sg s.heap.objs.size g cdG :: X.stack) s1 HZ E scp f c' with N := N1 } [] σ HZ { s1 with heap := heap1, toks := s1.toks + binds.length } :=
      lamN_start I L hN1 hv1 J1.env0 hr.hd ubs nsF keepF
    refine PySem.W.kla_codeExpr (wpAny_mono ((hbody _ _ s1 HZ (hr.deeper _)).run [] _ _ HZ Q J ht) (fun v s' hqx => ?_) fun e s' hqx => hqx)
    obtain ⟨wv, H', J', rvx, q⟩ := hqx
    exact ⟨wv, H', J'.os, J'.bare, J'.base, J'.hok, rvx, q⟩
  have passX : Passes (L2.CX X.prog X.w) ((cxOf CXg X.prog X.w X.K X.mg X.base Ng qg sg g cdG X.A X.stack s H Eg).tr pn xe) E := passes_call tkx hW
  refine wpAny_call (codeAny_mono runF fun r s' hqx => ?_)
  cases r with
  | error e => exact passX pz σZ HZ s1 e s' J1 hqx
  | ok fl =>
    cases fl with
    | ret u => exact J1.after hqx
    | next => exact False.elim hqx
    | brk => exact False.elim hqx
    | cont => exact False.elim hqx
end
section
variable {X : Cx}
/-- x(lambda ..: body), with or without a default -/
theorem pe_lamN {T : List (Addr × Str)} {TT : (XK → Hp → VK → Prop) → Hp → VK → Prop} {x a : Str} {g P : Addr} {k : Nat} {pg : Arguments} {bg : List Stmt} {sg : Scope} {dV kV doc pm cdv ct oc : Value} {an od : Option Addr} {osl : Array (Option Value)} {Ng : List Str}
    {pa : Arguments} {bo : Expr} {sc : Scope} {t : XK → TE} {p lp pos : Pos} {bnd : List (Str × Value) → Prop} (hg : Gl X x) (hm : X.mg x = some (.ref g)) (hk : PySem.W.keepIn X.K (.ref g) = true)
    (lk : X.K.lookup g = some ⟨oc, od, .func (PySem.W.fnOf x x pg bg sg dV kV doc pm an cdv ct), osl⟩) (hcg : PySem.W.codeIn X.K cdv x = true) (hb : L2.Binds X.K (PySem.W.fnOf x x pg bg sg dV kV doc pm an cdv ct) [a] []) (Sg : FnScope Ng [a] sg) (hNg : Ng[0]? = some a) (hva : Vis sg a)
    (hG : GivesP X Ng x sg g cdv bg a TT) (mk : LamMk X T P pa bo sc lp bnd) (hr : Room (k + 2) X.A) {N1 : List Str} (L : LamD N1 X.env.scope sc) (hN1 : subN N1 X.N = true) (hv1 : sc.names.lookup ("" : Str) = none) (hbn : ∀ b, bnd b → ∀ y ∈ b, sc.names.lookup y.1 = some .local)
    (hbody : ∀ (A : Around) (outer : List PySem.Env) (s : Shared) (H : Hp) (E : XK) (f d : Addr), Room k (A.deeper (lamEnv X sc s.heap.objs.size f d)) → PE { lamCx X A outer s H E sc f d with N := N1 } bo (t E))
    (hdb : (x == ("__debug__" : Str)) = false := by decide) (hd : (a == ("__debug__" : Str)) = false := by decide) (hcd : (a == ("__classdict__" : Str)) = false := by decide) :
    PE X (.Call (.Name x p) [.Lambda pa bo sc lp] [] pos) (tLam3 T TT t) := ⟨fun pins s σ H Q I ⟨tabs, h⟩ => by
  refine wpAny_Call_Name_kw (ld_glob I hg hm ?_ hdb)
  refine PySem.W.callWith_K (h₀ := X.base) I.ok.mod.kin hk ?_ (by rfl) (by rfl)
  show wpAny _ _ (spliced ((false, eval (.Lambda pa bo sc lp) X.env) :: backTo pos (starEach [] X.env))) _ _ s
  refine Calls.spliced_cons (mk pins σ H s _ _ I tabs fun f d dV2 doc2 pm2 ct2 J s2 ts binds I2 eN tg T2 hf hfn hfr hd2 hbd _ hts _ _ hB => ?_)
  refine Calls.spliced_nil ⟨I2.kIn, ?_⟩
  have run : codeAny (model X.prog X.w) X.A (.call (.ref g) ⟨[.ref f], []⟩) (CR C8.CX0 X.stack X.prog X.w J s2 Q C8.E0) s2 :=
    run_ofS (N := Ng) (ps := [a]) (us := [.ref f]) (vs := [.ref f]) lk hcg Sg hr I2.env0 (hb s2 [.ref f] I2.kIn rfl) (.cons rfl .nil) rfl fun hr2 => by
      obtain ⟨t2, ht2, hq2⟩ := hG f (fun HZ => HZ d = some (CodeO d (X.env.qual ++ "<lambda>"))) s2 J Q (fun E H' Q' => t E σ H' Q')
        (fun W pn xe E p1 p2 tk hW => pe_actN (i := 0) I2 L hN1 hv1 (fun HZ s1 un _ hc => ⟨un.keep f _ hf hfn hfr (by simp), hB s1 fun q hq => un.keep q.1 _ (hts q hq).1 (hts q hq).2.1 (hts q hq).2.2.1 (by simp), hc⟩) (hbn _ hbd) tk hW hr2 (fun A outer s H hr3 => hbody A outer s H E f d hr3) hNg hva hd hcd) hd2 (h J eN tg T2)
      exact ⟨t2, ht2.nox, hq2⟩
  refine wpAny_call (codeAny_mono run fun r s3 hq => ?_)
  match r, hq with
  | .ok (.ret u), hq => exact I2.after hq
  | .ok .next, hq => exact False.elim hq
  | .ok .brk, hq => exact False.elim hq
  | .ok .cont, hq => exact False.elim hq
  | .error e, hq => exact (show False from hq).elim⟩
end
section
variable {X : Cx} {c : Ct}
end
section
variable {X : Cx} {c : Ct}
theorem me_lamN {x a : Str} {g P : Addr} {k : Nat} {pg : Arguments} {bg : List Stmt} {sg : Scope} {dV kV doc pm cdv ct oc : Value} {an od : Option Addr} {osl : Array (Option Value)} {Ng : List Str} {pa : Arguments} {bo : Expr} {sc : Scope} {m : ME} {p lp pos : Pos} {bnd : List (Str × Value) → Prop} {N1 : List Str} (hg : Gl X x) (hm : X.mg x = some (.ref g)) (hk : PySem.W.keepIn X.K (.ref g) = true)
    (lk : X.K.lookup g = some ⟨oc, od, .func (PySem.W.fnOf x x pg bg sg dV kV doc pm an cdv ct), osl⟩) (hcg : PySem.W.codeIn X.K cdv x = true) (hb : L2.Binds X.K (PySem.W.fnOf x x pg bg sg dV kV doc pm an cdv ct) [a] []) (Sg : FnScope Ng [a] sg) (hNg : Ng[0]? = some a) (hva : Vis sg a)
    (hG : GivesP X Ng x sg g cdv bg a (TTref X.K X.mg)) (mk : LamMk X c.T P pa bo sc lp bnd) (hr : Room (k + 2) X.A) (L : LamD N1 X.env.scope sc) (hN1 : subN N1 X.N = true) (hv1 : sc.names.lookup ("" : Str) = none) (hbn : ∀ b, bnd b → ∀ y ∈ b, sc.names.lookup y.1 = some .local) (hmg : c.mg = X.mg)
    (hbody : ∀ (A : Around) (outer : List PySem.Env) (s : Shared) (H : Hp) (E : XK) (f d : Addr), Room k (A.deeper (lamEnv X sc s.heap.objs.size f d)) → PE { lamCx X A outer s H E sc f d with N := N1 } bo (tE { c with W := fun cls d _ H => E cls d H } m))
    (hdb : (x == ("__debug__" : Str)) = false := by decide) (hd : (a == ("__debug__" : Str)) = false := by decide) (hcd : (a == ("__classdict__" : Str)) = false := by decide) :
    PE X (.Call (.Name x p) [.Lambda pa bo sc lp] [] pos) (tE c (mRef m)) :=
  pe_conseq (pe_lamN hg hm hk lk hcg hb Sg hNg hva hG mk hr L hN1 hv1 hbn hbody hdb hd hcd) fun _ _ _ h => lam_ref hmg h
end
section
variable {X : Cx} {c : Ct} {P co : Addr} {k : Nat} {pa : Arguments} {bo : Expr} {sc : Scope} {ps0 : Pos}
theorem mk_dfltN {i : Int} {kc : Nat} {pc : Pos} {an : Str} (B : TabB X.base X.mg co P) (hco : X.env.code = .ref co) (inT : (P, X.env.qual ++ "<lambda>") ∈ c.T) (oneT : ∀ t ∈ c.T, t.1 = P → t.2 = X.env.qual ++ "<lambda>") {N1 : List Str} (nm : LamD N1 X.env.scope sc) (hdef : pa.defaults = [.Constant (.int i) kc pc]) (hk0 : pa.kw_defaults = [])
    (hbind : ∀ (q : Str) (cl : List (Str × Addr)) (doc pm cv ctv : Value) (t : Addr) (tk : Tok), ∃ kk : Option (Array Value) → Sem (List (Str × Value)), bindArgs (lamFn q pa bo sc cl (.ref t) doc pm cv ctv) ⟨[], []⟩ = seqItems? (.ref t) >>= kk ∧ kk (some #[.int i tk]) = pure [(an, .int i tk)]) : LamMk X c.T P pa bo sc ps0 (fun b => ∃ tk, b = [(an, .int i tk)]) :=
  fun pins σ H s E Q I tabs kk => lam_mkD I B hco inT oneT tabs hdef hk0 (nm.has I.ok) hbind kk
end

set_option autoImplicit false
section
variable {X : Cx} {pins : List (Addr × Obj)} {σ : L2.St} {J : Hp} {s2 : Shared}
end
section
variable {X : Cx} {pins : List (Addr × Obj)} {σ : L2.St} {H : Hp} {s : Shared}
end

set_option autoImplicit false
def flD (ns : List Int) : D := .dict [(.none, .tuple (ns.map PyData.int))]
def unF : D → D
  | .dict [(.none, .tuple ds)] => .tuple ds
  | d => d
theorem unF_else {d : D} (h : ¬ ∃ ds, d = .dict [(.none, .tuple ds)]) : unF d = d := by
  unfold unF
  split
  · exact absurd ⟨_, rfl⟩ h
  · rfl
section
variable {X : Cx} {e : Expr} {es : List Expr} {t : TA} {pos : Pos}
def tTupX (t : TA) : TE := fun σ H Q => t σ H fun xs H1 => xs.length ≤ sizeLine ∧ ∀ (p : Addr) (o : Obj), H1 p = none → o.dict = none → Q (.ref p) (upd H1 p (.frz o (.tup xs)))
theorem pe_tupX {x1} (h : PA X es t) : PE X (.Tuple es x1 pos) (tTupX t) := by
  refine ⟨fun pins s σ H Q I hq => ?_⟩
  refine wpAny_Tuple_spliced (thn (h.run pos pins s σ H _ I hq) fun us s1 ⟨xs, H1, I1, r, z, q⟩ => ⟨by rw [← r.length]; exact z, ?_⟩)
  have hf : H1 s1.heap.objs.size = none := I1.hok.fresh (Nat.le_refl _)
  exact ⟨.ref s1.heap.objs.size, upd H1 s1.heap.objs.size (.frz { cls := .type "tuple", data := .seq us.toArray 0 } (.tup xs)), I1.laid (t' := s1.toks) (fun b u e => Heap.get?_push_of_some _ e) (Nat.le_refl _) ⟨Heap.get?_push_size _ rfl, z, us, r, ⟨_, Heap.get?_push_size _ rfl, rfl, _, rfl⟩⟩, rfl, q _ _ hf rfl⟩
def rSnoc (K : PySem.W.Frag) : R2 := fun x y H Q => ∃ (a b : Addr) (xs : List V) (i : Int), x = .ref a ∧ y = .ref b ∧ SqT K H a xs ∧ SqT K H b [.int i] ∧ xs.length + 1 ≤ sizeLine ∧
  (xs = [] → Q (.ref b) H) ∧ (xs ≠ [] → ∀ (p : Addr) (o : Obj), H p = none → o.dict = none → Q (.ref p) (upd H p (.frz o (.tup (xs ++ [.int i])))))
theorem op_snoc : OpR X (binaryOp .Add) (rSnoc X.K) := by
  intro pins s σ H x y v u Q I rx ry h
  obtain ⟨a, b, xs, i, rfl, rfl, ha, hb, hz, q0, q1⟩ := h
  cases rx
  cases ry
  obtain ⟨its, r1, p1, _⟩ := I.tuple ha
  obtain ⟨its2, r2, p2, _⟩ := I.tuple hb
  by_cases hx : xs = []
  · subst hx
    cases r1
    exact cat_tup0 p1 p2 ⟨.ref b, H, I, rfl, q0 rfl⟩
  · refine HT.cat_tup p1 p2 (fun z => hx (r1.nil_iff.mp z)) (fun z => ?_) (fun z => ?_) (by rw [← r1.length, ← r2.length]; exact hz)
    · have := r2.nil_iff.mp z
      cases this
    · refine ⟨.ref s.heap.objs.size, _, I.laid (t' := s.toks) (o := .frz _ (.tup (xs ++ [.int i]))) (fun b ob q => Heap.get?_push_of_some _ q) (Nat.le_refl _) ⟨Heap.get?_push_size _ rfl, ?_⟩, rfl, q1 hx _ _ (I.hok.fresh (Nat.le_refl _)) rfl⟩
      exact ⟨by rw [List.length_append]; exact hz, _, r1.append r2, IsTup.new _ _⟩
end
def snocD : D → D → Option D
  | .tuple [], .int i => some (flD [i])
  | .dict [(.none, .tuple (x :: ds))], .int i => (dInts (x :: ds)).bind fun ns => if ns.length ≤ 1000 then some (flD (ns ++ [i])) else none
  | _, _ => none
def mSnoc (m1 m2 : ME) : ME := fun ρ => (m1 ρ).then fun d ρ1 => (m2 ρ1).then fun x ρ2 => match snocD d x with
  | some r => .ok r ρ2
  | none => .stuck
section
variable {X : Cx} {c : Ct} {a e : Expr} {p pos : Pos}
theorem me_snoc {m1 m2 : ME} {x1 : Nat} (hK : X.K = c.K) (h1 : PE X a (tE c m1)) (h2 : PE X e (tE c m2)) (he : starEach [e] X.env = (false, eval e X.env) :: starEach [] X.env := by rfl) : PE X (.BinOp a .Add (.Tuple [e] x1 p) pos) (tE c (mSnoc m1 m2)) :=
  pe_conseq (pe_op op_snoc h1 (pe_tupX (pa_cons h2 pa_nil he))) fun σ H Q ⟨F, ρ, G, S, a⟩ => by
    refine ⟨F, ρ, G, S, (Ask.then a).imp (GLe.refl G) fun d ρ1 k1 v H1 G1 S1 g1 r1 => ?_⟩
    refine ⟨F, ρ1, G1, S1, (Ask.then k1).imp g1 fun x ρ2 k2 w H2 G2 S2 g2 r2 => ?_⟩
    refine ⟨(show 1 ≤ sizeLine by decide), fun p o hp hd => ?_⟩
    rw [hK]
    have S3 := S2.add (o := .frz o (.tup [w])) hp
    have gl3 : GLe G2 (upd G2 p (.frz o (.tup [w]))) := GLe.upd (S2.gnone hp)
    cases es : snocD d x with
    | none => rw [es] at k2; exact k2.elim
    | some r =>
      rw [es] at k2
      unfold snocD at es
      split at es
      · rename_i i
        cases es
        have ew : w = .int i := r2
        subst ew
        obtain ⟨b, xs, eb, hq, hr⟩ := r1
        cases (show xs = [] from hr)
        have hq2 := S2.sub.tup (g2 _ _ hq)
        refine ⟨b, p, [], i, eb, rfl, .inl (.inl (by rw [upd_ne (ne_of_none hq2 hp)]; exact hq2)), .inl (.inr ⟨o, upd_same⟩), (show 1 ≤ sizeLine by decide), fun _ => ?_, fun z => absurd rfl z⟩
        exact k2 _ _ _ S3 ((g1.trans g2).trans gl3) ⟨p, rfl, .inr (.inr (.inr ⟨[i], o, rfl, upd_same, hd⟩))⟩
      · rename_i x0 ds0 i
        cases ei : dInts (x0 :: ds0) with
        | none => rw [ei] at es; cases es
        | some ns =>
          rw [ei] at es
          have es : (if ns.length ≤ 1000 then some (flD (ns ++ [i])) else none) = some r := es
          split at es
          · rename_i hz
            cases es
            have ew : w = .int i := r2
            subst ew
            have ed := dInts_map ei
            rw [ed] at r1
            obtain ⟨ns', o', b, e1, eb, hq, hd'⟩ := Rp.fl r1
            have en : ns' = ns := by
              have := congrArg dInts e1
              rw [dInts_of, dInts_of] at this
              exact (Option.some.inj this).symm
            subst en
            have hq2 := S2.sub.frz (g2 _ _ hq)
            have hne : ns'.map V.int ≠ [] := fun z => by
              cases ns' with
              | nil => cases ed
              | cons _ _ => cases z
            refine ⟨b, p, ns'.map V.int, i, eb, rfl, .inl (.inr ⟨o', by rw [upd_ne (ne_of_none hq2 hp)]; exact hq2⟩), .inl (.inr ⟨o, upd_same⟩), by rw [List.length_map]; unfold sizeLine; omega, fun z => absurd z hne, fun _ q o2 hq3 hd2 => ?_⟩
            have S4 := S3.add (o := .frz o2 (.tup (ns'.map V.int ++ [.int i]))) hq3
            have gl4 : GLe (upd G2 p (.frz o (.tup [.int i]))) (upd (upd G2 p (.frz o (.tup [.int i]))) q (.frz o2 (.tup (ns'.map V.int ++ [.int i])))) := GLe.upd (S3.gnone hq3)
            exact k2 _ _ _ S4 (((g1.trans g2).trans gl3).trans gl4) ⟨q, rfl, .inr (.inr (.inr ⟨ns' ++ [i], o2, rfl, by rw [upd_same, List.map_append]; rfl, hd2⟩))⟩
          · cases es
      · cases es
def tyF (x : V) (H : Hp) : Prop := ∃ (p : Addr) (o : Obj) (xs : List V), x = .ref p ∧ H p = some (.frz o (.tup xs)) ∧ o.dict = none
def tBMF (r : V → List V → Hp → VK → Prop) (to : TE) (t : TA) : TE := fun σ H Q => to σ H fun x H1 => tyF x H1 ∧ t σ H1 fun xs H2 => r x xs H2 Q
theorem pe_bmF {o e : Expr} {es : List Expr} {to : TE} {t : TA} {name : Str} {apos cpos : Pos} {id : String} {r : V → List V → Hp → VK → Prop} (slot : Slot "tuple" name id) (hty : typeOf (.builtin id) = pure (.type "method_descriptor")) (hm : MtR X id r) (ho : PE X o to) (ha : PA X (e :: es) t)
    (hbase : attributeBase o name X.env (eval o X.env) = eval o X.env := by rfl)
    (hfew : ((backTo cpos (starEach (e :: es) X.env)).all (fun x => !x.1) && (backToKw cpos (keywordEach [] X.env)).all (fun x => x.1.isSome)
      && decide ((e :: es).length + ([] : List Keyword).length + (if ([] : List Keyword).isEmpty then 0 else 1) < 30)) = true := by rfl)
    (hline : (apos.endLine == cpos.line) = true := by rfl) (hs : starEach (e :: es) X.env = (false, eval e X.env) :: starEach es X.env := by rfl) (hplain : (backTo cpos (starEach es X.env)).any (·.1) = false := by rfl) :
    PE X (.Call (.Attribute o name apos) (e :: es) [] cpos) (tBMF r to t) := by
  refine ⟨fun pins s σ H Q I h => ?_⟩
  refine wpAny_Call_method_late hbase hfew hline rfl (thn (ho.run pins s σ H _ I h) fun v s1 ⟨x, H1, I1, r1, ty, q1⟩ => ?_)
  obtain ⟨p, ob, xs0, ex, hq, hd⟩ := ty
  subst ex
  cases r1
  obtain ⟨hg, _, its, rv, ob2, hg2, hc, _⟩ := I1.hok p _ hq
  rw [hg] at hg2
  cases hg2
  refine ⟨"tuple", id, PySem.F.plainAttrs_tuple, slot, hty, ⟨ob, hg, hc⟩, fun a ea => ?_, ?_⟩
  · cases ea
    exact ⟨ob, hg, hd⟩
  · have hA := ha.run cpos pins s1 σ H1 _ I1 q1
    rw [hs] at hA ⊢
    refine Calls.callWith_builtin (by show (false || (backTo cpos (starEach es X.env)).any (·.1)) = false; rw [hplain] <;> rfl) (Calls.evalArgs_plain ?_)
    exact thn hA fun us s2 ⟨vs, H2, I2, r2, q2⟩ => hm pins s2 σ H2 (.ref p) vs (.ref p) us Q I2 rfl r2 q2
def indexF : D → D → Option D
  | .dict [(.none, .tuple ds)], .int i => (dInts ds).bind fun ns => (ns.findIdx? (fun z => z == i)).map fun j => .int (j : Nat)
  | _, _ => none
def mIndexF (i : Nat) (m1 : ME) : ME := fun ρ => match at_ ρ i with
  | some (.dict [(.none, .tuple ds)]) => (m1 ρ).then fun x ρ2 => (match indexF (.dict [(.none, .tuple ds)]) x with
    | some r => .ok r ρ2
    | none => .stuck)
  | _ => .stuck
theorem me_indexF {m1 : ME} {i : Nat} (hK : X.K = c.K) (h : PE X e (tBMF (rIndexTI X.K) (tVar i) (tMs c [m1]))) : PE X e (tE c (mIndexF i m1)) := pe_conseq h fun σ H Q ⟨F, ρ, G, S, a⟩ => by
  unfold mIndexF at a
  split at a
  · rename_i ds e0
    obtain ⟨v0, es, w0⟩ := S.vw e0
    obtain ⟨ns, o, p, ed, ev, hp, hd⟩ := Rp.fl w0.flR
    subst ev
    refine ⟨.ref p, es, ⟨p, o, _, rfl, S.sub.frz hp, hd⟩, F, ρ, G, S, (Ask.then a).imp (GLe.refl G) fun x ρ1 k w H1 G1 S1 g1 r1 => ?_⟩
    cases er : indexF (.dict [(.none, .tuple ds)]) x with
    | none => rw [er] at k; exact k.elim
    | some r =>
      rw [er] at k
      unfold indexF at er
      split at er
      · rename_i ds2 i2 h1
        injection h1 with h1
        injection h1 with h1 _
        injection h1 with _ h1
        injection h1 with h1
        subst h1
        rw [ed, dInts_of] at er
        have er : (ns.findIdx? (fun z => z == i2)).map (fun j => (PyData.int (j : Nat))) = some r := er
        cases ef : ns.findIdx? (fun z => z == i2) with
        | none => rw [ef] at er; cases er
        | some j =>
          rw [ef] at er
          cases er
          have ew : w = .int i2 := r1
          subst ew
          obtain ⟨hj, hz, hno⟩ := List.findIdx?_eq_some_iff_getElem.mp ef
          refine ⟨p, ns, i2, j, rfl, rfl, .inl (.inr ⟨o, S1.sub.frz (g1 _ _ hp)⟩), ?_, fun m hm hz' => ?_, k _ H1 G1 S1 g1 rfl⟩
          · rw [List.getElem?_eq_getElem hj]
            exact congrArg some (eq_of_beq hz)
          · have := hno m hm
            rw [List.getElem?_eq_getElem (by omega)] at hz'
            rw [Option.some.inj hz'] at this
            simp at this
      · cases er
  · exact a.elim
end

set_option autoImplicit false
open PySem PySem.Calls PyProof.Rows PySem.W
section
variable {prog : Program} {w : World} {A : Around} {E : Value → Shared → Prop} {s : Shared}
theorem collect_tupM {l : Addr} {vs : List Value} {Q : List Value → Shared → Prop} (hl : IsTup s.heap l vs.toArray)
    (h : Q vs { s with heap := (s.heap.push (seqObj "list" #[] 0)).update s.heap.objs.size (Obj.mapSeq (· ++ vs.toArray)) }) (hsz : vs.length ≤ sizeLine) :
    wpAny (model prog w) A (collect (.ref l)) Q E s := by
  obtain ⟨o, ho, hc, n, hd⟩ := id hl
  unfold collect
  refine wpAny_bind (wpAny_runValue (codeAny_builtin entry_proto_collect' ?_))
  show wpAny _ _ (do again (.builtin "list.__iadd__" ⟨[← newList [], .ref l], []⟩)) _ _ s
  refine wpAny_bind (wpAny_newList (wpAny_pure ⟨Code.quiet_builtin _ (by decide +kernel), codeAny_builtin entry_list_iadd' ?_⟩))
  show wpAny _ _ (Builtin.List.listExtendWith (.ref s.heap.objs.size) (.ref l) (.ref s.heap.objs.size)) _ _ { s with heap := s.heap.push (seqObj "list" #[] 0) }
  unfold Builtin.List.listExtendWith
  have ho' : (s.heap.push (seqObj "list" #[] 0)).get? l = some o := Heap.get?_push_of_some _ ho
  refine wpAny_bind (wpAny_typeOf (T := "tuple") ⟨o, ho', hc⟩ ?_)
  have ht : (Value.type "tuple" == Value.type "tuple") = true := by rfl
  rw [if_pos (by rw [ht]; simp)]
  refine wpAny_bind (listItems_at ho' hd ?_)
  refine wpAny_bind (listItems_at (xs := #[]) (n := 0) (Heap.get?_push_size _ rfl) rfl ?_)
  rw [if_neg (by simp)]
  refine wpAny_bind (listUpdate_at (xs := #[]) (n := 0) (Heap.get?_push_size _ rfl) rfl ?_ (Nat.zero_le _) (by show (#[] ++ vs.toArray).size ≤ sizeLine + 1; simp only [Array.size_append, List.size_toArray, List.length_nil]; omega))
  refine wpAny_pure ?_
  show wpAny (model prog w) A (do
      let o ← load s.heap.objs.size
      match o.data with
      | .seq xs _ => pure xs.toList
      | _ => unsupported "internal:collect") Q E { s with heap := (s.heap.push (seqObj "list" #[] 0)).update s.heap.objs.size (Obj.mapSeq (· ++ vs.toArray)) }
  refine wpAny_bind (wpAny_load (get?_update_seq (Heap.get?_push_size _ rfl) _) ?_)
  show wpAny _ _ (pure ((#[] : Array Value) ++ vs.toArray).toList) Q E _
  rw [show ((#[] : Array Value) ++ vs.toArray).toList = vs by simp]
  exact wpAny_pure h
theorem sorted_of_sortT {l : Addr} {vs : List Value} {kw : List (Str × Value)} {Q : Value → Shared → Prop} (hl : IsTup s.heap l vs.toArray) (hL : vs.length ≤ sizeLine) (ha1 : argsOk "sorted" ⟨[.ref l], kw⟩) (ha2 : ∀ x, argsOk "list.sort" ⟨[.ref x], kw⟩)
    (body : ∀ E' : Value → Shared → Prop, wpAny (model prog w) A.in1.in1 (Builtin.«list.sort» ⟨[.ref (s.heap.objs.size + 1)], kw⟩) (fun f s' => f = .done (.ret .none) ∧ Q (.ref (s.heap.objs.size + 1)) s') E' { s with heap := copyHeap s.heap vs }) :
    wpAny (model prog w) A (call (.builtin "sorted") [.ref l] kw) Q E s := by
  refine call_function_entry_kw kind_sorted plain_sorted entry_sorted ha1 ?_
  unfold Builtin.«sorted»
  refine wpAny_bind (m := checkCount "sorted" 1 1 _) (wpAny_pure ?_)
  refine wpAny_bind (collect_tupM hl ?_ hL)
  refine wpAny_bind (wpAny_newList ?_ hL)
  have hsz : ((s.heap.push (seqObj "list" #[] 0)).update s.heap.objs.size (Obj.mapSeq (· ++ vs.toArray))).objs.size = s.heap.objs.size + 1 := by
    rw [Heap.size_update, size_push']
  show wpAny _ _ _ _ _ { s with heap := copyHeap s.heap vs }
  rw [hsz]
  refine wpAny_bind (wpAny_holding (wpAny_call_entry_kw slot_list_sort ⟨_, copyHeap_at s.heap vs, rfl⟩ entry_list_sort ?body (ha2 _)))
  case body =>
    show wpAny (model prog w) A.in1.in1 (Builtin.«list.sort» ⟨[.ref (s.heap.objs.size + 1)], kw⟩) _ _ _
    refine wpAny_mono (body _) (fun f s' hf => ?_) fun _ _ e => e
    obtain ⟨rfl, hq⟩ := hf
    exact ⟨_, rfl, wpAny_pure ⟨_, rfl, hq⟩⟩
theorem sorted_valsT {κ : PyProof.Rows.KeyKind} {l : Addr} {vs : List Value} {Q : Value → Shared → Prop} (hl : IsTup s.heap l vs.toArray) (S : SortsAt prog w A.in1.in1 { s with heap := sortingHeap (copyHeap s.heap vs) (s.heap.objs.size + 1) vs } κ vs) (hL : vs.length ≤ sizeLine)
    (h : Q (.ref (s.heap.objs.size + 1)) { s with heap := sortedAll s.heap vs (sortVals κ false vs vs).toArray }) : wpAny (model prog w) A (call (.builtin "sorted") [.ref l]) Q E s :=
  sorted_of_sortT hl hL (args_sorted1 _) (fun _ => args_list_sort _) fun _ => list_sort_vals (s := { s with heap := copyHeap s.heap vs }) (copyHeap_at s.heap vs) S hL ⟨rfl, h⟩
theorem bound_mapM {β : Type} {enc : β → PyData} {n : Nat} {bs : List β} (hu : ∀ b, b ∈ bs → A.units + n + (enc b).depth < cLine) : ∀ d, d ∈ bs.map enc → A.units + n + d.depth < cLine := by
  intro d hd
  obtain ⟨b, hb, rfl⟩ := List.mem_map.mp hd
  exact hu b hb
theorem sorted_dataT {β : Type} {R : Value → β → Prop} {enc : β → PyData} {vs : List Value} {bs : List β} {l : Addr} {Q : Value → Shared → Prop} (hl : IsTup s.heap l vs.toArray) (e : EachIs R vs bs) (er : EachIs (fun v b => ∃ as, Reads s.heap v (enc b) as) vs bs) (hal : AllAlike (bs.map enc)) (hk : Sortable (bs.map enc)) (hL : bs.length ≤ sizeLine)
    (hu : ∀ b, b ∈ bs → A.units + 2 + (enc b).depth < cLine) (h : ∀ out, out.length = bs.length → EachIs R out (bs.mergeSort (dataLe false enc)) → Q (.ref (s.heap.objs.size + 1)) { s with heap := sortedAll s.heap vs (List.toArray out) }) :
    wpAny (model prog w) A (call (.builtin "sorted") [.ref l]) Q E s := by
  have er' : EachIs (fun v b => ∃ as, Reads (sortingHeap (copyHeap s.heap vs) (s.heap.objs.size + 1) vs) v (enc b) as) vs bs := er.mono fun _ _ ⟨as, r⟩ => ⟨as, PyProof.Rows.Reads.keeps (fun _ _ => sorting_copy_old) r⟩
  exact sorted_valsT hl (SortsAt.data (s := { s with heap := sortingHeap (copyHeap s.heap vs) (s.heap.objs.size + 1) vs }) (each_map (R := fun v d => ∃ as, Reads (sortingHeap (copyHeap s.heap vs) (s.heap.objs.size + 1) vs) v d as) enc er') hal hk (bound_mapM (n := 2) hu)) (by rw [e.length]; exact hL)
    (h _ (by rw [sortVals_length false rfl]; exact e.length) (sortVals_data false e er' hal))
end
/-- what an item reads as: flagged tuples as tuples, one level down -/
def encD : D → PyData
  | .tuple ds => .tuple (ds.map unF)
  | d => unF d
def goodD : D → Bool
  | .tuple ds => ds.all fun d => noDi (unF d)
  | d => noDi (unF d)
def tup1 : D → Bool
  | .tuple (_ :: _) => true
  | _ => false
def isI : D → Bool
  | .int _ => true
  | _ => false
def okSort (ds : List D) : Bool := (ds.all goodD && ds.all fun b => ds.all fun b' => PySem.W.alike (encD b) (encD b')) && ((ds.all fun b => tup1 (encD b)) || (ds.all fun b => isI (encD b))) && ds.all fun b => decide ((encD b).depth ≤ 8)
def sortM (ds : List D) : List D := ds.mergeSort (PySem.W.dataLe false encD)
def dSortM : List D → Option D
  | [.list ds] => if okSort ds = true then some (.list (sortM ds)) else none
  | [.tuple ds] => if okSort ds = true then some (.list (sortM ds)) else none
  | [.dict [(.none, .tuple ds)]] => if okSort ds = true then some (.list (sortM ds)) else none
  | _ => none
section
variable {X : Cx} {c : Ct} {F : Fr} {ρ : Env} {σ : L2.St} {G H : Hp} {K : PySem.W.Frag} {e : Expr} {p pos : Pos}
theorem Rp.dpF (s : Sub G H) {d : D} {v : V} (h : Rp K G d v) (n : noDi (unF d) = true) : Dp K H v (unF d) := by
  by_cases hf : ∃ ds, d = .dict [(.none, .tuple ds)]
  · obtain ⟨ds, rfl⟩ := hf
    obtain ⟨ns, o, a, ed, ev, hq, _⟩ := Rp.fl h
    subst ed ev
    exact .tup (.inl (.inr ⟨o, s.frz hq⟩)) (dpAll_ints ns)
  · rw [unF_else hf] at n ⊢
    exact Vw.dp s n (.inl h)
theorem RpL.dpF (s : Sub G H) : ∀ {ds : List D} {vs : List V}, RpL K G ds vs → (ds.all fun d => noDi (unF d)) = true → DpAll K H vs (ds.map unF)
  | [], _, h, _ => by cases (show _ = _ from h); exact .nil
  | d :: ds, _, ⟨v, r, e, h, t⟩, n => by
    subst e
    rw [List.all_cons, Bool.and_eq_true] at n
    exact .cons (Rp.dpF s h n.1) (RpL.dpF s t n.2)
theorem Rp.dpE (s : Sub G H) {d : D} {v : V} (h : Rp K G d v) (n : goodD d = true) : Dp K H v (encD d) := by
  by_cases hf : ∃ ds, d = .tuple ds
  · obtain ⟨ds, rfl⟩ := hf
    obtain ⟨a, xs, ev, hq, hr⟩ := h
    subst ev
    exact .tup (.inl (.inl (s.tup hq))) (RpL.dpF s hr n)
  · have e1 : encD d = unF d := by
      unfold encD
      split
      · exact absurd ⟨_, rfl⟩ hf
      · rfl
    have e2 : goodD d = noDi (unF d) := by
      unfold goodD
      split
      · exact absurd ⟨_, rfl⟩ hf
      · rfl
    rw [e1]
    exact Rp.dpF s h (by rw [← e2]; exact n)
def rSortD (K : PySem.W.Frag) : List V → Hp → VK → Prop := fun vs H Q => ∃ (a : Addr) (xs : List V) (bs : List D) (Rx : V → D → Prop), vs = [V.ref a] ∧ (SqL K H a xs ∨ SqT K H a xs) ∧ PySem.W.EachIs Rx xs bs ∧ (∀ x b, Rx x b → Dp K H x (encD b)) ∧ okSort bs = true ∧
  ∀ (ys : List V) (p : Addr), PySem.W.EachIs Rx ys (sortM bs) → H p = none → Q (.ref p) (upd H p (.lst ys))
theorem each_valsD {Rx : V → D → Prop} : ∀ {xs : List V} {us : List Value} {bs : List D}, Vals xs us → PySem.W.EachIs Rx xs bs → PySem.W.EachIs (fun v b => ∃ x, RelV x v ∧ Rx x b) us bs
  | _, _, _, .nil, .nil => .nil
  | _, _, _, .cons r t, .cons h e => .cons ⟨_, r, h⟩ (each_valsD t e)
theorem vals_eachD {Rx : V → D → Prop} : ∀ {us : List Value} {bs : List D}, PySem.W.EachIs (fun v b => ∃ x, RelV x v ∧ Rx x b) us bs → ∃ xs, Vals xs us ∧ PySem.W.EachIs Rx xs bs
  | _, _, .nil => ⟨[], .nil, .nil⟩
  | _, _, .cons ⟨x, r, h⟩ e => by
    obtain ⟨xs, t, e'⟩ := vals_eachD e
    exact ⟨x :: xs, .cons r t, .cons h e'⟩
theorem cr_sortD {X : Cx} (hu : X.A.units + 65 < cLine) : CallR X (.builtin "sorted") (rSortD X.K) := by
  intro pins s σ H vs us Q I r h
  obtain ⟨a, xs, bs, Rx, rfl, hs, he, hd, hok, q⟩ := h
  unfold okSort at hok
  rw [Bool.and_eq_true, Bool.and_eq_true, Bool.and_eq_true] at hok
  obtain ⟨⟨⟨h1, h2⟩, h3⟩, h4⟩ := hok
  have hal : PySem.W.AllAlike (bs.map encD) := fun d hd d' hd' => by
    obtain ⟨b, hb, rfl⟩ := List.mem_map.mp hd
    obtain ⟨b', hb', rfl⟩ := List.mem_map.mp hd'
    exact List.all_eq_true.mp (List.all_eq_true.mp h2 b hb) b' hb'
  have hsrt : PySem.W.Sortable (bs.map encD) := by
    rw [Bool.or_eq_true] at h3
    rcases h3 with h3 | h3
    · refine .inl fun d hd => ?_
      obtain ⟨b, hb, rfl⟩ := List.mem_map.mp hd
      have := List.all_eq_true.mp h3 b hb
      unfold tup1 at this
      split at this
      · rename_i x r e0
        exact ⟨x, r, e0⟩
      · cases this
    · refine .inr fun d hd => ?_
      obtain ⟨b, hb, rfl⟩ := List.mem_map.mp hd
      have := List.all_eq_true.mp h3 b hb
      unfold isI at this
      split at this
      · rename_i i e0
        rw [e0]
        exact ⟨(fun z => by cases z), fun _ z => by cases z⟩
      · cases this
  have hdep : ∀ b, b ∈ bs → X.A.units + 2 + (encD b).depth < cLine := fun b hb => by
    have := of_decide_eq_true (List.all_eq_true.mp h4 b hb)
    omega
  have fin : ∀ (its : List Value), Vals xs its → xs.length ≤ sizeLine → ∀ out : List Value, out.length = bs.length → PySem.W.EachIs (fun v b => ∃ x, RelV x v ∧ Rx x b) out (bs.mergeSort (PySem.W.dataLe false encD)) →
      EP X pins σ Q (.ref (s.heap.objs.size + 1)) { s with heap := PyProof.Rows.sortedAll s.heap its (List.toArray out) } := fun its rv hz out hlen ho => by
    obtain ⟨ys, hy, hy2⟩ := vals_eachD ho
    obtain ⟨ep, he'⟩ := PyProof.Rows.sortedAll_at s.heap its out.toArray
    have hl2 : ys.length ≤ sizeLine := by
      rw [hy.length, hlen, ← he.length]
      exact hz
    exact ⟨.ref _, upd H (s.heap.objs.size + 1) (.lst ys), I.laid (t' := s.toks) (fun _ _ => PyProof.Rows.sortedAll_old) (Nat.le_succ _) ⟨hl2, out, ep, hy, he'⟩, rfl, q _ _ hy2 (I.hok.fresh (Nat.le_succ _))⟩
  rw [Vals.ref1 r]
  rcases hs with hs | hs
  · obtain ⟨its, rv, hl, hz⟩ := I.list hs
    have e1 := each_valsD rv he
    exact PySem.W.sorted_data (enc := encD) hl.isList e1 (e1.mono fun v b ⟨x, r, h⟩ => Dp.reads I _ x v (hd x b h) r) hal hsrt (by rw [← he.length]; exact hz) hdep (fin its rv hz)
  · obtain ⟨its, rv, hl, hz⟩ := I.tuple hs
    have e1 := each_valsD rv he
    exact sorted_dataT (enc := encD) hl e1 (e1.mono fun v b ⟨x, r, h⟩ => Dp.reads I _ x v (hd x b h) r) hal hsrt (by rw [← he.length]; exact hz) hdep (fin its rv hz)
theorem RpL.eachD {G : Hp} : ∀ {bs : List D} {vs : List V}, RpL K G bs vs → (bs.all goodD) = true → PySem.W.EachIs (fun v b => Rp K G b v ∧ goodD b = true) vs bs
  | [], _, h, _ => by cases (show _ = _ from h); exact .nil
  | b :: bs, _, ⟨v, r, e, h, t⟩, n => by
    subst e
    rw [List.all_cons, Bool.and_eq_true] at n
    exact .cons ⟨h, n.1⟩ (RpL.eachD t n.2)
theorem RpL.of_eachD {G : Hp} : ∀ {bs : List D} {vs : List V}, PySem.W.EachIs (fun v b => Rp K G b v ∧ goodD b = true) vs bs → RpL K G bs vs
  | _, _, .nil => rfl
  | _, _, .cons h t => ⟨_, _, rfl, h.1, RpL.of_eachD t⟩
theorem okSort_good {ds : List D} (h : okSort ds = true) : (ds.all goodD) = true := by
  unfold okSort at h
  rw [Bool.and_eq_true, Bool.and_eq_true, Bool.and_eq_true] at h
  exact h.1.1.1
theorem p_sortM : PrimNL K dSortM (rSortD K) := fun G H xs ds d Q s vw e q => by
  unfold dSortM at e
  split at e
  · split at e
    · rename_i hok
      cases e
      obtain ⟨v, rfl, v⟩ := vwl1 vw
      obtain ⟨a, xs, rfl, ha, ra⟩ := v.lst s
      exact ⟨a, xs, _, fun v b => Rp K G b v ∧ goodD b = true, rfl, .inl (.inl (.inl ha)), ra.eachD (okSort_good hok), fun x b h => Rp.dpE s h.1 h.2, hok, fun ys p hy hp => q _ _ ⟨p, _, rfl, hp, rfl, .lst (RpL.of_eachD hy), trivial⟩⟩
    · cases e
  · split at e
    · rename_i hok
      cases e
      obtain ⟨v, rfl, v⟩ := vwl1 vw
      obtain ⟨a, xs, rfl, ha, _, ra⟩ := v.tup s
      exact ⟨a, xs, _, fun v b => Rp K G b v ∧ goodD b = true, rfl, .inr (.inl (.inl ha)), ra.eachD (okSort_good hok), fun x b h => Rp.dpE s h.1 h.2, hok, fun ys p hy hp => q _ _ ⟨p, _, rfl, hp, rfl, .lst (RpL.of_eachD hy), trivial⟩⟩
    · cases e
  · split at e
    · rename_i hok
      cases e
      obtain ⟨v, rfl, v⟩ := vwl1 vw
      obtain ⟨ns, o, a, ed, ex, hq, _⟩ := v.fl s
      subst ex
      have ra : RpL K G _ (ns.map V.int) := RpL.of_int ns
      rw [← ed] at ra
      exact ⟨a, _, _, fun v b => Rp K G b v ∧ goodD b = true, rfl, .inr (.inl (.inr ⟨o, hq⟩)), ra.eachD (okSort_good hok), fun x b h => Rp.dpE s h.1 h.2, hok, fun ys p hy hp => q _ _ ⟨p, _, rfl, hp, rfl, .lst (RpL.of_eachD hy), trivial⟩⟩
    · cases e
  · cases e
theorem fe_sortM {o : Opd} (hu : X.A.units + 65 < cLine) (hK : X.K = c.K) (hg : Gl X "sorted") (hm : X.mg "sorted" = none) (ha : PA X [e] (tOs c [o]))
    (he : starEach [e] X.env = (false, eval e X.env) :: starEach [] X.env := by rfl) : PE X (.Call (.Name "sorted" p) [e] [] pos) (tF c (mFn dSortM [o])) := by
  refine fe_fnB (c := c) (r := rSortD X.K) (cr_sortD hu) ?_ hg hm boot_sorted ha (he := he)
  rw [hK]
  exact p_sortM
end

set_option autoImplicit false
section
variable {X : Cx} {c : Ct} {o ie e : Expr} {pos tpos : Pos}
end

set_option autoImplicit false
/-- is_number -/
def m_is_number : SM := sRet (mAnd (mIsi ["int"] (.sl 0)) (mAnd (mNot (mIsi ["bool"] (.sl 0))) (mChain dLe dLe (.sl 1) (.sl 0) (.sl 2))))
def f_is_number : FM := fnM 3 3 [] m_is_number
/-- is_street -/
def m_is_street : SM := sSeq (sIf (bOr (bNot (mB (mIsi ["tuple"] (.sl 1)))) (bOr (mB (mOp2 dNe (.ex (mFn dLen [.sl 1])) (.ex (mLit (.int 2))))) (bNot (mB (mCall f_is_number [.v (mOp2 dAt (.sl 1) (.ex (mLit (.int 0)))), .v (mLit (.int 0)), .v (mOp2 dSub (.sl 0) (.ex (mLit (.int 1))))]))))) (sRet (mLit (.bool false))) (sNil))
  (sRet (mCall f_is_number [.v (mOp2 dAt (.sl 1) (.ex (mLit (.int 1)))), .v (mOp2 dAdd (.ex (mOp2 dAt (.sl 1) (.ex (mLit (.int 0))))) (.ex (mLit (.int 1)))), .v (mOp2 dSub (.sl 0) (.ex (mLit (.int 1))))]))
def f_is_street : FM := fnM 2 2 [] m_is_street
/-- need_web -/
def m_need_web : SM := sSeq (sIf (bOr (bNot (mB (mIsi ["tuple"] (.sl 0)))) (bOr (mB (mOp2 dNe (.ex (mFn dLen [.sl 0])) (.ex (mLit (.int 2))))) (bNot (mB (mCall f_is_number [.v (mOp2 dAt (.sl 0) (.ex (mLit (.int 0)))), .v (mLit (.int 1)), .v (mLit (.int 10))]))))) (sRaiseF "BadWeb" "index" (mLit .none)) (sNil))
  (sSeq (sIf (bNot (mB (mIsi ["tuple"] (.ex (mOp2 dAt (.sl 0) (.ex (mLit (.int 1)))))))) (sRaiseF "BadWeb" "index" (mLit .none)) (sNil))
  (sSeq (sAsg (mVar 0) (tmTup [([1], tmName 1), ([2], tmName 2)]))
  (sFor (iRng fR1 [.ex (mFn dLen [.sl 2])]) (tmName 3) (sIf (bOr (bNot (mB (mCall f_is_street [.v (mVar 1), .v (mOp2 dAt (.sl 2) (.sl 3))]))) (bAnd (mB (mOp2 dGt (.sl 3) (.ex (mLit (.int 0))))) (mB (mOp2 dGe (.ex (mOp2 dAt (.sl 2) (.ex (mOp2 dSub (.sl 3) (.ex (mLit (.int 1))))))) (.ex (mOp2 dAt (.sl 2) (.sl 3))))))) (sRaiseF "BadWeb" "index" (mVar 3)) (sNil)))))
def f_need_web : FM := fnM 4 1 [] m_need_web
/-- need_one -/
def m_need_one : SM := sIf (bNot (mB (mCall f_is_number [.v (mVar 1), .v (mLit (.int 0)), .v (mOp2 dSub (.ex (mOp2 dAt (.sl 0) (.ex (mLit (.int 0))))) (.ex (mLit (.int 1))))]))) (sRaise "BadFolk") (sNil)
def f_need_one : FM := fnM 2 2 [] m_need_one
/-- are_neighbours -/
def m_are_neighbours : SM := sRet (mOp2 dIn (.ex (mTup [mFn dMin2 [.sl 1, .sl 2], mFn dMax2 [.sl 1, .sl 2]])) (.ex (mOp2 dAt (.sl 0) (.ex (mLit (.int 1))))))
def f_are_neighbours : FM := fnM 3 3 [] m_are_neighbours
/-- are_moods -/
def m_are_moods : SM := sRet (mAnd (mIsi ["tuple"] (.sl 0)) (mAnd (mOp2 dEq (.ex (mFn dLen [.sl 0])) (.sl 1)) (mFn dAll [.ex (mComp (iSeq (mVar 0)) (tmName 2) (bYes) (mCall f_is_number [.v (mVar 2), .v (mLit (.int 0)), .v (mOp2 dSub (.ex (mLit (.int 3))) (.ex (mLit (.int 1))))]) [2])])))
def f_are_moods : FM := fnM 3 2 [] m_are_moods
/-- need_both -/
def m_need_both : SM := sSeq (sDo (mCall f_need_web [.v (mVar 0)]))
  (sIf (bNot (mB (mCall f_are_moods [.v (mVar 1), .v (mOp2 dAt (.sl 0) (.ex (mLit (.int 0))))]))) (sRaise "BadState") (sNil))
def f_need_both : FM := fnM 2 2 [] m_need_both
/-- need_ends -/
def m_need_ends : SM := sSeq (sDo (mCall f_need_one [.v (mVar 0), .v (mVar 1)]))
  (sSeq (sDo (mCall f_need_one [.v (mVar 0), .v (mVar 2)]))
  (sIf (bOr (mB (mOp2 dEq (.sl 1) (.sl 2))) (mB (mOp2 dNe (.ex (mCall f_are_neighbours [.v (mVar 0), .v (mVar 1), .v (mVar 2)])) (.sl 3)))) (sRaise "BadStreet") (sNil)))
def f_need_ends : FM := fnM 4 4 [] m_need_ends
/-- with_street -/
def m_with_street : SM := sSeq (sDo (mCall f_need_web [.v (mVar 0)]))
  (sSeq (sDo (mCall f_need_ends [.v (mVar 0), .v (mVar 1), .v (mVar 2), .v (mLit (.bool false))]))
  (sRet (mTup [mOp2 dAt (.sl 0) (.ex (mLit (.int 0))), mFn dTuple [.ex (mFn dSortM [.ex (mOp2 dAdd (.ex (mOp2 dAt (.sl 0) (.ex (mLit (.int 1))))) (.ex (mTup [mTup [mFn dMin2 [.sl 1, .sl 2], mFn dMax2 [.sl 1, .sl 2]]])))])]])))
def f_with_street : FM := fnM 3 3 [] m_with_street
/-- without -/
def m_without : SM := sRet (mTup [mOp2 dAt (.sl 0) (.ex (mLit (.int 0))), mFn dTuple [.ex (mComp (iSeq (mOp2 dAt (.sl 0) (.ex (mLit (.int 1))))) (tmName 3) (mB (mOp2 dNe (.sl 3) (.ex (mTup [mFn dMin2 [.sl 1, .sl 2], mFn dMax2 [.sl 1, .sl 2]])))) (mVar 3) [3])]])
def f_without : FM := fnM 4 3 [] m_without
/-- without_street -/
def m_without_street : SM := sSeq (sDo (mCall f_need_web [.v (mVar 0)]))
  (sSeq (sDo (mCall f_need_ends [.v (mVar 0), .v (mVar 1), .v (mVar 2), .v (mLit (.bool true))]))
  (sRet (mCall f_without [.v (mVar 0), .v (mVar 1), .v (mVar 2)])))
def f_without_street : FM := fnM 3 3 [] m_without_street
/-- joined -/
def m_joined : SM := sSeq (sDo (mCall f_need_web [.v (mVar 0)]))
  (sSeq (sDo (mCall f_need_web [.v (mVar 1)]))
  (sSeq (sIf (mB (mOp2 dGt (.ex (mOp2 dAdd (.ex (mOp2 dAt (.sl 0) (.ex (mLit (.int 0))))) (.ex (mOp2 dAt (.sl 1) (.ex (mLit (.int 0))))))) (.ex (mLit (.int 10))))) (sRaiseF "TooMany" "most" (mLit (.int 10))) (sNil))
  (sRet (mTup [mOp2 dAdd (.ex (mOp2 dAt (.sl 0) (.ex (mLit (.int 0))))) (.ex (mOp2 dAt (.sl 1) (.ex (mLit (.int 0))))), mOp2 dAdd (.ex (mOp2 dAt (.sl 0) (.ex (mLit (.int 1))))) (.ex (mFn dTuple [.ex (mComp (iSeq (mOp2 dAt (.sl 1) (.ex (mLit (.int 1))))) (tmTup [([2], tmName 2), ([3], tmName 3)]) (bYes) (mTup [mOp2 dAdd (.sl 2) (.ex (mOp2 dAt (.sl 0) (.ex (mLit (.int 0))))), mOp2 dAdd (.sl 3) (.ex (mOp2 dAt (.sl 0) (.ex (mLit (.int 0)))))]) [2, 3])]))]))))
def f_joined : FM := fnM 4 2 [] m_joined
/-- stretched -/
def m_stretched : SM := sSeq (sDo (mCall f_need_both [.v (mVar 0), .v (mVar 1)]))
  (sSeq (sDo (mCall f_need_ends [.v (mVar 0), .v (mVar 2), .v (mVar 3), .v (mLit (.bool true))]))
  (sSeq (sIf (bOr (bNot (mB (mIsi ["tuple"] (.sl 4)))) (bOr (bNot (mB (mChain dLe dLe (.ex (mLit (.int 1))) (.ex (mFn dLen [.sl 4])) (.ex (mLit (.int 9)))))) (bNot (mB (mCall f_are_moods [.v (mVar 4), .v (mFn dLen [.sl 4])]))))) (sRaise "BadState") (sNil))
  (sSeq (sSet 5 (mOp2 dAdd (.ex (mOp2 dAt (.sl 0) (.ex (mLit (.int 0))))) (.ex (mFn dLen [.sl 4]))))
  (sSeq (sIf (mB (mOp2 dGt (.sl 5) (.ex (mLit (.int 10))))) (sRaiseF "TooMany" "most" (mLit (.int 10))) (sNil))
  (sSeq (sSet 6 (mOp2 dCat (.ex (mOp2 dCat (.ex (mLst [mVar 2])) (.ex (mListRg fR2 [.ex (mOp2 dAt (.sl 0) (.ex (mLit (.int 0)))), .sl 5])))) (.ex (mLst [mVar 3]))))
  (sSeq (sOwn 7 (mComp (iRng fR2 [.ex (mLit (.int 1)), .ex (mFn dLen [.sl 6])]) (tmName 8) (bYes) (mTup [mFn dMin2 [.ex (mOp2 dAt (.sl 6) (.ex (mOp2 dSub (.sl 8) (.ex (mLit (.int 1)))))), .ex (mOp2 dAt (.sl 6) (.sl 8))], mFn dMax2 [.ex (mOp2 dAt (.sl 6) (.ex (mOp2 dSub (.sl 8) (.ex (mLit (.int 1)))))), .ex (mOp2 dAt (.sl 6) (.sl 8))]]) [8]))
  (sRet (mTup [mTup [mVar 5, mFn dTuple [.ex (mFn dSort [.ex (mOp2 dCat (.ex (mFn dList [.ex (mOp2 dAt (.ex (mCall f_without [.v (mVar 0), .v (mVar 2), .v (mVar 3)])) (.ex (mLit (.int 1))))])) (.sl 7))])]], mOp2 dAdd (.sl 1) (.sl 4)]))))))))
def f_stretched : FM := fnM 9 5 [] m_stretched
/-- named -/
def m_named : SM := sSeq (sSet 3 (mComp (iRng fR1 [.ex (mOp2 dAt (.sl 0) (.ex (mLit (.int 0))))]) (tmName 4) (bYes) (mIndexF 2 (mVar 4)) [4]))
  (sSeq (sOwn 5 (mComp (iSeq (mOp2 dAt (.sl 0) (.ex (mLit (.int 1))))) (tmTup [([6], tmName 6), ([7], tmName 7)]) (bYes) (mTup [mFn dMin2 [.ex (mOp2 dAt (.sl 3) (.sl 6)), .ex (mOp2 dAt (.sl 3) (.sl 7))], mFn dMax2 [.ex (mOp2 dAt (.sl 3) (.sl 6)), .ex (mOp2 dAt (.sl 3) (.sl 7))]]) [6, 7]))
  (sRet (mTup [mTup [mOp2 dAt (.sl 0) (.ex (mLit (.int 0))), mFn dTuple [.ex (mFn dSort [.sl 5])]], mFn dTuple [.ex (mComp (iSeq (mVar 2)) (tmName 4) (bYes) (mOp2 dAt (.sl 1) (.sl 4)) [4])]])))
def f_named : FM := fnM 8 3 [] m_named
/-- renamed -/
def m_renamed : SM := sSeq (sDo (mCall f_need_both [.v (mVar 0), .v (mVar 1)]))
  (sSeq (sIf (bOr (bNot (mB (mIsi ["tuple"] (.sl 2)))) (bNot (mB (mFn dAll [.ex (mComp (iSeq (mVar 2)) (tmName 3) (bYes) (mCall f_is_number [.v (mVar 3), .v (mLit (.int 0)), .v (mOp2 dSub (.ex (mOp2 dAt (.sl 0) (.ex (mLit (.int 0))))) (.ex (mLit (.int 1))))]) [3])])))) (sRaise "BadOrder") (sNil))
  (sSeq (sIf (mB (mOp2 dNe (.ex (mFn dSortM [.sl 2])) (.ex (mListRg fR1 [.ex (mOp2 dAt (.sl 0) (.ex (mLit (.int 0))))])))) (sRaise "BadOrder") (sNil))
  (sRet (mCall f_named [.v (mVar 0), .v (mVar 1), .v (mVar 2)]))))
def f_renamed : FM := fnM 4 3 [] m_renamed
/-- orders_of -/
def m_orders_of : SM := sSeq (sSet 1 (mLst [mTup []]))
  (sSeq (sFor (iRng fR1 [.sl 0]) (tmName 2) (sSeq (sOwn 3 (mLst []))
  (sSeq (sFor (iSeq (mVar 1)) (tmName 4) (sDo (mExt 3 (mComp (iRng fR1 [.sl 0]) (tmName 5) (mB (mOp2 dNotIn (.sl 5) (.sl 4))) (mSnoc (mVar 4) (mVar 5)) [5]))))
  (sSet 1 (mVar 3)))))
  (sRet (mVar 1)))
def f_orders_of : FM := fnM 6 1 [] m_orders_of
/-- likenesses -/
def m_likenesses : SM := sSeq (sDo (mCall f_need_both [.v (mVar 0), .v (mVar 1)]))
  (sSeq (sIf (mB (mOp2 dGt (.ex (mOp2 dAt (.sl 0) (.ex (mLit (.int 0))))) (.ex (mLit (.int 7))))) (sRaiseF "TooMany" "most" (mLit (.int 7))) (sNil))
  (sSeq (sOwn 2 (mLst []))
  (sSeq (sFor (iSeq (mCall f_orders_of [.v (mOp2 dAt (.sl 0) (.ex (mLit (.int 0))))])) (tmName 3) (sSeq (sAsg (mCall f_named [.v (mVar 0), .v (mVar 1), .v (mVar 3)]) (tmTup [([4], tmName 4), ([5], tmName 5)]))
  (sSeq (sSet 6 (mOp2 dMod (.ex (mOp2 dSub (.ex (mOp2 dAt (.sl 5) (.ex (mLit (.int 0))))) (.ex (mOp2 dAt (.sl 1) (.ex (mLit (.int 0))))))) (.ex (mLit (.int 3)))))
  (sIf (bAnd (mB (mOp2 dEq (.sl 4) (.sl 0))) (mB (mFn dAll [.ex (mComp (iZip (mVar 1) (mVar 5)) (tmTup [([7], tmName 7), ([8], tmName 8)]) (bYes) (mOp2 dEq (.ex (mOp2 dMod (.ex (mOp2 dAdd (.sl 7) (.sl 6))) (.ex (mLit (.int 3))))) (.sl 8)) [7, 8])]))) (sDo (mApp 2 (mTup [mVar 3, mVar 6]))) (sNil)))))
  (sRet (mFn dTuple [.sl 2])))))
def f_likenesses : FM := fnM 9 2 [] m_likenesses
/-- _law_taken -/
def m__law_taken : SM := sSeq (sIf (mB (mOp2 dGt (.ex (mOp2 dAt (.sl 0) (.ex (mLit (.int 3))))) (.ex (mLit (.int 0))))) (sSeq (sSet 2 (mOp2 dMod (.ex (mFn dInt [.ex (mOp2 dAt (.sl 0) (.ex (mLit (.int 3))))])) (.sl 1)))
  (sSeq (sAsg (mOp2 dFdiv (.ex (mOp2 dAt (.sl 0) (.ex (mLit (.int 3))))) (.sl 1)) (mPutAt 0 (.ex (mLit (.int 3)))))
  (sRet (mVar 2)))) (sNil))
  (sSeq (sAsg (mOp2 dAdd (.ex (mOp2 dAt (.sl 0) (.ex (mLit (.int 1))))) (.ex (mLit (.int 1)))) (mPutAt 0 (.ex (mLit (.int 1)))))
  (sSeq (sIf (mB (mOp2 dGt (.ex (mOp2 dAt (.sl 0) (.ex (mLit (.int 1))))) (.ex (mFn dLen [.ex (mOp2 dAt (.sl 0) (.ex (mLit (.int 0))))])))) (sSeq (sAsg (mOp2 dMod (.ex (mFn dInt [.ex (mOp2 dAdd (.ex (mOp2 dMul (.ex (mOp2 dAt (.sl 0) (.ex (mLit (.int 2))))) (.ex (mLit (.int 48271))))) (.ex (mLit (.int 11))))])) (.ex (mLit (.int 2147483647)))) (mPutAt 0 (.ex (mLit (.int 2)))))
  (sRet (mOp2 dMod (.ex (mFn dInt [.ex (mOp2 dFdiv (.ex (mOp2 dAt (.sl 0) (.ex (mLit (.int 2))))) (.ex (mLit (.int 7))))])) (.sl 1)))) (sNil))
  (sSeq (sSet 3 (mOp2 dAt (.ex (mOp2 dAt (.sl 0) (.ex (mLit (.int 0))))) (.ex (mOp2 dSub (.ex (mOp2 dAt (.sl 0) (.ex (mLit (.int 1))))) (.ex (mLit (.int 1)))))))
  (sSeq (sAsg (mOp2 dMod (.ex (mFn dInt [.ex (mOp2 dAdd (.ex (mOp2 dAdd (.ex (mOp2 dMul (.ex (mOp2 dAt (.sl 0) (.ex (mLit (.int 2))))) (.ex (mLit (.int 48271))))) (.sl 3))) (.ex (mLit (.int 11))))])) (.ex (mLit (.int 2147483647)))) (mPutAt 0 (.ex (mLit (.int 2)))))
  (sSeq (sIf (mB (mOp2 dGe (.sl 3) (.ex (mOp2 dPow (.ex (mLit (.int 10))) (.ex (mLit (.int 18))))))) (sAsg (mOp2 dFdiv (.sl 3) (.sl 1)) (mPutAt 0 (.ex (mLit (.int 3))))) (sNil))
  (sRet (mOp2 dMod (.ex (mFn dInt [.sl 3])) (.sl 1))))))))
def f__law_taken : FM := fnM 4 2 [0] m__law_taken
/-- _law_pick -/
def m__law_pick : SM := sRet (mOp2 dAt (.sl 1) (.ex (mCall f__law_taken [.io 0, .v (mFn dLen [.sl 1])])))
def f__law_pick : FM := fnM 2 2 [0] m__law_pick
/-- _law_alike -/
def m__law_alike (self : FM) : SM := sSeq (sIf (mB (mIsi ["tuple", "list"] (.sl 1))) (sSeq (sIf (bOr (bNot (mB (mIsi ["tuple", "list"] (.sl 0)))) (mB (mOp2 dNe (.ex (mIsi ["list"] (.sl 0))) (.ex (mIsi ["list"] (.sl 1)))))) (sRet (mLit (.bool false))) (sNil))
  (sSeq (sIf (mB (mOp2 dNe (.ex (mFn dLen [.sl 0])) (.ex (mFn dLen [.sl 1])))) (sRet (mLit (.bool false))) (sNil))
  (sRet (mOp2 dEq (.ex (mComp (iRng fR1 [.ex (mFn dLen [.sl 1])]) (tmName 2) (bNot (mB (mCall self [.v (mOp2 dAt (.sl 0) (.sl 2)), .v (mOp2 dAt (.sl 1) (.sl 2))]))) (mVar 2) [2])) (.ex (mLst [])))))) (sNil))
  (sSeq (sIf (bOr (mB (mOp2 dIsN (.sl 1) (.ex (mLit .none)))) (mB (mIsi ["str"] (.sl 1)))) (sRet (mAnd (mOp2 dEq (.sl 0) (.sl 1)) (mOp2 dEq (.ex (mIsi ["str"] (.sl 0))) (.ex (mIsi ["str"] (.sl 1)))))) (sNil))
  (sRet (mAnd (mIsi ["int"] (.sl 0)) (mAnd (mOp2 dEq (.ex (mIsi ["bool"] (.sl 0))) (.ex (mIsi ["bool"] (.sl 1)))) (mOp2 dEq (.sl 0) (.sl 1))))))
def f__law_alike : Nat → FM
  | 0 => fun _ => .stuck
  | k + 1 => fnM 3 2 [] (m__law_alike (f__law_alike k))
/-- _law_web -/
def m__law_web : SM := sSeq (sPar [2, 3, 4] [(false, mOp2 dAdd (.ex (mLit (.int 1))) (.ex (mCall f__law_taken [.io 0, .v (mVar 1)]))), (false, mCall f__law_taken [.io 0, .v (mLit (.int 5))]), (true, mDict0)])
  (sSeq (sFor (iRng fR2 [.ex (mLit (.int 1)), .sl 2]) (tmName 5) (sIf (bOr (mB (mOp2 dGt (.sl 3) (.ex (mLit (.int 0))))) (mB (mOp2 dGt (.ex (mCall f__law_taken [.io 0, .v (mLit (.int 3))])) (.ex (mLit (.int 0)))))) (sAsg (mLit (.bool true)) (mPutAt 4 (.ex (mTup [mIf (mB (mOp2 dLt (.sl 3) (.ex (mLit (.int 3))))) (mOp2 dSub (.sl 5) (.ex (mLit (.int 1)))) (mCall f__law_taken [.io 0, .v (mVar 5)]), mVar 5])))) (sNil)))
  (sSeq (sIf (bAnd (mB (mOp2 dIn (.sl 3) (.ex (mLst [mLit (.int 1), mLit (.int 2)])))) (mB (mOp2 dGt (.sl 2) (.ex (mLit (.int 2)))))) (sAsg (mLit (.bool true)) (mPutAt 4 (.ex (mTup [mLit (.int 0), mOp2 dSub (.sl 2) (.ex (mLit (.int 1)))])))) (sNil))
  (sSeq (sFor (iRng fR1 [.ex (mIf (mB (mOp2 dNe (.sl 3) (.ex (mLit (.int 1))))) (mCall f__law_taken [.io 0, .v (mVar 2)]) (mLit (.int 0)))]) (tmName 6) (sSeq (sPar [5, 7] [(false, mCall f__law_taken [.io 0, .v (mVar 2)]), (false, mCall f__law_taken [.io 0, .v (mVar 2)])])
  (sIf (mB (mOp2 dNe (.sl 5) (.sl 7))) (sAsg (mLit (.bool true)) (mPutAt 4 (.ex (mTup [mFn dMin2 [.sl 5, .sl 7], mFn dMax2 [.sl 5, .sl 7]])))) (sNil))))
  (sRet (mTup [mVar 2, mFn dTuple [.ex (mFn dSort [.ex (mKeys (.sl 4))])]])))))
def f__law_web : FM := fnM 8 2 [0] m__law_web
/-- _law_state -/
def m__law_state : SM := sSeq (sPar [2, 3] [(false, mCall f__law_taken [.io 0, .v (mLit (.int 4))]), (true, mLst [])])
  (sSeq (sFor (iRng fR1 [.ex (mOp2 dAt (.sl 1) (.ex (mLit (.int 0))))]) (tmName 4) (sSeq (sSet 5 (mCall f__law_taken [.io 0, .v (mLit (.int 3))]))
  (sDo (mApp 3 (mIf (mB (mOp2 dGt (.sl 2) (.ex (mLit (.int 0))))) (mVar 5) (mOp2 dMod (.ex (mFn dInt [.ex (mOp2 dAdd (.sl 4) (.ex (mFn dInt [.ex (mOp2 dEq (.sl 5) (.ex (mLit (.int 0))))])))])) (.ex (mLit (.int 3)))))))))
  (sRet (mFn dTuple [.sl 3])))
def f__law_state : FM := fnM 6 2 [0] m__law_state
/-- _law_orders -/
def m__law_orders : SM := sSeq (sSet 1 (mLst [mTup []]))
  (sSeq (sFor (iRng fR1 [.sl 0]) (tmName 2) (sSeq (sSet 3 (mLst []))
  (sSeq (sFor (iSeq (mVar 1)) (tmName 4) (sSet 3 (mOp2 dCat (.sl 3) (.ex (mComp (iRng fR1 [.sl 0]) (tmName 5) (mB (mOp2 dNotIn (.sl 5) (.sl 4))) (mSnoc (mVar 4) (mVar 5)) [5])))))
  (sSet 1 (mVar 3)))))
  (sRet (mVar 1)))
def f__law_orders : FM := fnM 6 1 [] m__law_orders
/-- _law_named -/
def m__law_named : SM := sSeq (sSet 3 (mLst []))
  (sSeq (sFor (iRng fR1 [.ex (mOp2 dAt (.sl 0) (.ex (mLit (.int 0))))]) (tmName 4) (sFor (iRng fR2 [.ex (mOp2 dAdd (.sl 4) (.ex (mLit (.int 1)))), .ex (mOp2 dAt (.sl 0) (.ex (mLit (.int 0))))]) (tmName 5) (sSeq (sSet 6 (mFn dTuple [.ex (mFn dSort [.ex (mLst [mOp2 dAt (.sl 2) (.sl 4), mOp2 dAt (.sl 2) (.sl 5)])])]))
  (sSet 3 (mOp2 dAdd (.sl 3) (.ex (mIf (mB (mOp2 dIn (.sl 6) (.ex (mOp2 dAt (.sl 0) (.ex (mLit (.int 1))))))) (mLst [mTup [mVar 4, mVar 5]]) (mLst []))))))))
  (sRet (mTup [mTup [mOp2 dAt (.sl 0) (.ex (mLit (.int 0))), mFn dTuple [.ex (mFn dSort [.sl 3])]], mFn dTuple [.ex (mComp (iSeq (mVar 2)) (tmName 7) (bYes) (mOp2 dAt (.sl 1) (.sl 7)) [7])]])))
def f__law_named : FM := fnM 8 3 [] m__law_named
/-- law -/
def m_law : SM := sSeq (sOwn 1 (mLst [mVar 0, mLit (.int 0), mLit (.int 15562), mLit (.int 0)]))
  (sSeq (sSet 2 (mCall f__law_web [.io 1, .v (mLit (.int 5))]))
  (sSeq (sParT [.nm 3, .nm 4, .nm 5] [(false, mCall f__law_state [.io 1, .v (mVar 2)]), (false, mOp2 dAt (.sl 2) (.ex (mLit (.int 0)))), (false, mOp2 dAt (.sl 2) (.ex (mLit (.int 1))))])
  (sSeq (sParT [.nm 6, .nm 7] [(false, mCall f__law_taken [.io 1, .v (mVar 4)]), (false, mCall f__law_taken [.io 1, .v (mVar 4)])])
  (sSeq (sSet 8 (mTup [mFn dMin2 [.sl 6, .sl 7], mFn dMax2 [.sl 6, .sl 7]]))
  (sSeq (sIf (bOr (mB (mOp2 dEq (.sl 6) (.sl 7))) (mB (mOp2 dIn (.sl 8) (.sl 5)))) (sIf (mB (mOp2 dNe (.ex (mRef (mCall f_with_street [.v (mVar 2), .v (mVar 6), .v (mVar 7)]))) (.ex (mLit (.str "street"))))) (sRet (mLit (.bool false))) (sNil)) (sIf (bNot (mB (mCall (f__law_alike 50) [.v (mCall f_with_street [.v (mVar 2), .v (mVar 6), .v (mVar 7)]), .v (mTup [mVar 4, mFn dTuple [.ex (mFn dSortM [.ex (mOp2 dAdd (.sl 5) (.ex (mTup [mVar 8])))])]])]))) (sRet (mLit (.bool false))) (sNil)))
  (sSeq (sSet 9 (mFn dTuple [.ex (mComp (iRng fR1 [.ex (mOp2 dAdd (.ex (mLit (.int 1))) (.ex (mCall f__law_taken [.io 1, .v (mLit (.int 6))])))]) (tmName 10) (bYes) (mCall f__law_taken [.io 1, .v (mLit (.int 3))]) [10])]))
  (sSeq (sSet 11 (mFn dTuple [.ex (mComp (iSeq (mVar 5)) (tmName 12) (mB (mOp2 dNe (.sl 12) (.sl 8))) (mVar 12) [12])]))
  (sSeq (sIf (mB (mOp2 dNotIn (.sl 8) (.sl 5))) (sIf (mB (mOp2 dNe (.ex (mLst [mRef (mCall f_without_street [.v (mVar 2), .v (mVar 6), .v (mVar 7)]), mRef (mCall f_stretched [.v (mVar 2), .v (mVar 3), .v (mVar 6), .v (mVar 7), .v (mVar 9)])])) (.ex (mOp2 dRep (.ex (mLst [mLit (.str "street")])) (.ex (mLit (.int 2))))))) (sRet (mLit (.bool false))) (sNil)) (sSeq (sIf (bNot (mB (mCall (f__law_alike 50) [.v (mCall f_without_street [.v (mVar 2), .v (mVar 6), .v (mVar 7)]), .v (mTup [mVar 4, mVar 11])]))) (sRet (mLit (.bool false))) (sNil))
  (sSeq (sPar [13, 14] [(false, mOp2 dAdd (.sl 4) (.ex (mFn dLen [.sl 9]))), (false, mOp2 dCat (.ex (mOp2 dCat (.ex (mLst [mVar 6])) (.ex (mListRg fR2 [.sl 4, .ex (mOp2 dAdd (.sl 4) (.ex (mFn dLen [.sl 9])))])))) (.ex (mLst [mVar 7])))])
  (sSeq (sOwn 15 (mComp (iZip (mVar 14) (mCut (.sl 14) (some (mLit (.int 1))) (none))) (tmTup [([16], tmName 16), ([17], tmName 17)]) (bYes) (mTup [mFn dMin2 [.sl 16, .sl 17], mFn dMax2 [.sl 16, .sl 17]]) [16, 17]))
  (sSeq (sIf (mB (mOp2 dGt (.sl 13) (.ex (mLit (.int 10))))) (sIf (mB (mOp2 dNe (.ex (mRef (mCall f_stretched [.v (mVar 2), .v (mVar 3), .v (mVar 6), .v (mVar 7), .v (mVar 9)]))) (.ex (mTup [mLit (.str "many"), mLit (.int 10)])))) (sRet (mLit (.bool false))) (sNil)) (sIf (bNot (mB (mCall (f__law_alike 50) [.v (mCall f_stretched [.v (mVar 2), .v (mVar 3), .v (mVar 6), .v (mVar 7), .v (mVar 9)]), .v (mTup [mTup [mVar 13, mFn dTuple [.ex (mFn dSort [.ex (mOp2 dCat (.ex (mFn dList [.sl 11])) (.sl 15))])]], mOp2 dAdd (.sl 3) (.sl 9)])]))) (sRet (mLit (.bool false))) (sNil)))
  (sFor (iSeq (mLst [mLit .none, mTup [], mFn dList [.sl 9], mTup [mLit (.int 3)], mTup [mLit (.bool true)], mOp2 dRepT (.ex (mTup [mLit (.int 0)])) (.ex (mLit (.int 10))), mLit (.str "0")])) (tmName 18) (sIf (mB (mOp2 dNe (.ex (mRef (mCall f_stretched [.v (mVar 2), .v (mVar 3), .v (mVar 6), .v (mVar 7), .v (mVar 18)]))) (.ex (mLit (.str "state"))))) (sRet (mLit (.bool false))) (sNil))))))))
  (sSeq (sSet 19 (mCall f__law_web [.io 1, .v (mLit (.int 8))]))
  (sSeq (sSet 20 (mTup [mOp2 dAdd (.sl 4) (.ex (mOp2 dAt (.sl 19) (.ex (mLit (.int 0))))), mOp2 dAdd (.sl 5) (.ex (mFn dTuple [.ex (mComp (iSeq (mOp2 dAt (.sl 19) (.ex (mLit (.int 1))))) (tmTup [([16], tmName 16), ([17], tmName 17)]) (bYes) (mTup [mOp2 dAdd (.sl 16) (.sl 4), mOp2 dAdd (.sl 17) (.sl 4)]) [16, 17])]))]))
  (sSeq (sIf (mB (mOp2 dGt (.ex (mOp2 dAt (.sl 20) (.ex (mLit (.int 0))))) (.ex (mLit (.int 10))))) (sIf (mB (mOp2 dNe (.ex (mRef (mCall f_joined [.v (mVar 2), .v (mVar 19)]))) (.ex (mTup [mLit (.str "many"), mLit (.int 10)])))) (sRet (mLit (.bool false))) (sNil)) (sIf (bNot (mB (mCall (f__law_alike 50) [.v (mCall f_joined [.v (mVar 2), .v (mVar 19)]), .v (mVar 20)]))) (sRet (mLit (.bool false))) (sNil)))
  (sSeq (sOwn 21 (mLst []))
  (sSeq (sFor (iSeq (mCall f__law_orders [.v (mVar 4)])) (tmName 22) (sSeq (sSet 23 (mCall f__law_named [.v (mVar 2), .v (mVar 3), .v (mVar 22)]))
  (sFor (iSeq (mTup [mLit (.int 0), mLit (.int 1), mLit (.int 2)])) (tmName 10) (sIf (bAnd (mB (mOp2 dEq (.ex (mOp2 dAt (.sl 23) (.ex (mLit (.int 0))))) (.sl 2))) (mB (mOp2 dEq (.ex (mOp2 dAt (.sl 23) (.ex (mLit (.int 1))))) (.ex (mFn dTuple [.ex (mComp (iSeq (mVar 3)) (tmName 24) (bYes) (mOp2 dMod (.ex (mFn dInt [.ex (mOp2 dAdd (.sl 24) (.sl 10))])) (.ex (mLit (.int 3)))) [24])]))))) (sDo (mApp 21 (mTup [mVar 22, mVar 10]))) (sNil)))))
  (sSeq (sSet 22 (mCall f__law_pick [.io 1, .v (mCall f__law_orders [.v (mVar 4)])]))
  (sSeq (sIf (bNot (mB (mCall (f__law_alike 50) [.v (mCall f_renamed [.v (mVar 2), .v (mVar 3), .v (mVar 22)]), .v (mCall f__law_named [.v (mVar 2), .v (mVar 3), .v (mVar 22)])]))) (sRet (mLit (.bool false))) (sNil))
  (sSeq (sIf (bNot (mB (mCall (f__law_alike 50) [.v (mCall f_likenesses [.v (mVar 2), .v (mVar 3)]), .v (mFn dTuple [.ex (mFn dSortM [.sl 21])])]))) (sRet (mLit (.bool false))) (sNil))
  (sSeq (sSet 25 (mLst [mLit .none, mTup [], mFn dList [.sl 22], mOp2 dAdd (.sl 22) (.ex (mTup [mLit (.int 0)])), mCut (.sl 22) (some (mLit (.int 1))) (none), mOp2 dRepT (.ex (mTup [mLit (.bool true)])) (.sl 4), mOp2 dRepT (.ex (mTup [mLit (.int 0)])) (.ex (mOp2 dAdd (.sl 4) (.ex (mLit (.int 1)))))]))
  (sRet (mOp2 dEq (.ex (mComp (iSeq (mVar 25)) (tmName 18) (mB (mOp2 dNe (.ex (mRef (mCall f_renamed [.v (mVar 2), .v (mVar 3), .v (mVar 18)]))) (.ex (mLit (.str "order"))))) (mVar 18) [18])) (.ex (mLst [])))))))))))))))))))))
def f_law : FM := fnM 26 1 [] m_law

set_option autoImplicit false

set_option autoImplicit false
def top (i : Nat) : Stmt := PySem.Challenge.pw_threemoods_k16_whole_other_webs.main.body.getD i (.Pass ⟨0, 0, 0, 0⟩)
theorem sc_ref : FnScope ["_law_work", "e", "_law_known"] ["_law_work"] (defScope (top 43)) := ⟨rfl, rfl, rfl, by decide +kernel, rfl, by decide +kernel, by decide +kernel⟩
theorem ref_gives {X : Cx} {g : Addr} {cdg : Value} (hE : Errs X.K X.mg) (bi : X.mg "isinstance" = none) : GivesP X ["_law_work", "e", "_law_known"] "_law_refused" (defScope (top 43)) g cdg (defBody (top 43)) "_law_work" (TTref X.K X.mg) := by
  intro f Φ s H Q tl act hc h
  obtain ⟨M, w1, w2, w3, w4, c1, c2, c3, c4, c5, c6, c7, gM, g1, g2, g3, g4, e1, e2, e3, e4, e5, e6, e7, nd, hB, nd2, hB2⟩ := hE
  refine ⟨_, pss_cons (ps_try_as (X := (cxOf C8.CX0 X.prog X.w X.K X.mg X.base ["_law_work", "e", "_law_known"] "_law_refused" (defScope (top 43)) g cdg X.A X.stack s H C8.E0).nox) (i := 1) (c := .ref M) (Wout := fun _ _ _ _ => False)
      (tb := fun W D σ H => ∃ Ech : XK, (∀ cls d (σ' : L2.St) H', Ech cls d H' → σ'.length = 3 → W cls d σ' H') ∧ σ = L2.start ["_law_work", "e", "_law_known"] [.ref f] ∧ Φ H ∧ tl Ech H fun _ H' => D.nx σ H')
      (ts := fun a cls d Dn σ H => (∃ (j : Nat) (D : Addr) (w : Str), cls = .ref D ∧ d = none ∧ [c1, c2, c3, c4, c5, c6, c7][j]? = some D ∧ errCodes[j]? = some w ∧ σ[1]? = some (some (.ref a)) ∧ σ.length = 3 ∧ ∀ H2, GrL H H2 → Dn.rt (.str w) H2) ∨
        ∃ (j : Nat) (D dd : Addr) (w f : Str) (v : V), cls = .ref D ∧ d = some dd ∧ [w1, w2, w3, w4][j]? = some D ∧ fldCodes[j]? = some w ∧ fldFields[j]? = some f ∧ σ[1]? = some (some (.ref a)) ∧ σ.length = 3 ∧ H dd = some (.xd [(f, v)]) ∧ ∀ p, H p = none → Dn.rt (.ref p) (upd H p (.tup [.str w, v])))
      rfl rfl sc_ref.nd rfl rfl ⟨rfl, by decide, .inl gM⟩ LamX.takes0 (fun W pn xe tk _ => ?_) (fun a oe cls d pn hz hf => ?_)) (pss_one (ps_ret pe_str)), ?_⟩
  · exact pss_pick fun D σ H' ⟨Ech, hW, hs, h2, h3⟩ => ⟨_, pss_one (ps_expr (act _ pn xe Ech _ _ (takes_len tk) hW)), by rw [hs]; rfl, h2, h3⟩
  · refine pss_pick fun Dn σ H' h0 => ?_
    rcases h0 with ⟨j, D, w, ec, ed, hj, hw, hs, hl, hq⟩ | ⟨j, D, dd, w, f, v, ec, ed, hj, hw, hfl, hs, hl, hdd, hq⟩
    · subst ec ed
      have hD := List.all_eq_true.mp hB D (List.mem_of_getElem? hj)
      simp only [Bool.and_eq_true, decide_eq_true_eq, List.all_eq_true] at hD
      obtain ⟨⟨⟨x1, x2⟩, x3⟩, x4⟩ := hD
      have CI := call_isE (X := (cxOf C8.CX0 X.prog X.w X.K X.mg X.base ["_law_work", "e", "_law_known"] "_law_refused" (defScope (top 43)) g cdg X.A X.stack s H C8.E0).nox) (a := a) (pn := pn) (excB_ok x1) hz hf
      refine ⟨_, pss_cons (ps_if (pt_val (pe_callB CI rfl bi boot_isinstance (pa_cons (pv 1) (pa_cons (pe_glob (v := .ref w1) rfl g1 rfl) pa_nil)))) pss_no pss_nil)
        (pss_cons (ps_if (pt_val (pe_callB CI rfl bi boot_isinstance (pa_cons (pv 1) (pa_cons (pe_glob (v := .ref w2) rfl g2 rfl) pa_nil)))) pss_no pss_nil)
        (pss_cons (ps_if (pt_val (pe_callB CI rfl bi boot_isinstance (pa_cons (pv 1) (pa_cons (pe_glob (v := .ref w3) rfl g3 rfl) pa_nil)))) pss_no pss_nil)
        (pss_cons (ps_if (pt_val (pe_callB CI rfl bi boot_isinstance (pa_cons (pv 1) (pa_cons (pe_glob (v := .ref w4) rfl g4 rfl) pa_nil)))) pss_no pss_nil)
        (pss_cons (ps_set (i := 2) sc_ref.nd rfl (Or.inl rfl) (pe_lst (pa_cons (pe_callB CI rfl bi boot_isinstance (pa_cons (pv 1) (pa_cons (pe_glob (v := .ref c1) rfl e1 rfl) pa_nil))) (pa_cons (pe_callB CI rfl bi boot_isinstance (pa_cons (pv 1) (pa_cons (pe_glob (v := .ref c2) rfl e2 rfl) pa_nil)))
          (pa_cons (pe_callB CI rfl bi boot_isinstance (pa_cons (pv 1) (pa_cons (pe_glob (v := .ref c3) rfl e3 rfl) pa_nil))) (pa_cons (pe_callB CI rfl bi boot_isinstance (pa_cons (pv 1) (pa_cons (pe_glob (v := .ref c4) rfl e4 rfl) pa_nil))) pa_nil))))))
        (pss_cons (ps_set (i := 2) sc_ref.nd rfl (Or.inl rfl) (pe_op op_cat (pv 2) (pe_lst (pa_cons (pe_callB CI rfl bi boot_isinstance (pa_cons (pv 1) (pa_cons (pe_glob (v := .ref c5) rfl e5 rfl) pa_nil))) (pa_cons (pe_callB CI rfl bi boot_isinstance (pa_cons (pv 1) (pa_cons (pe_glob (v := .ref c6) rfl e6 rfl) pa_nil)))
          (pa_cons (pe_callB CI rfl bi boot_isinstance (pa_cons (pv 1) (pa_cons (pe_glob (v := .ref c7) rfl e7 rfl) pa_nil))) pa_nil))))))
        (pss_one (ps_ret (pe_ifExp (pt_cmpR op_eq (pe_bm F.plainAttrs_list F.slot_list_count F.type_list_count mt_cntB (pv 2) (pa_cons pe_bl pa_nil)) pe_int (nomark _))
          (pe_ix ix_list (pe_lst (pa_cons pe_str (pa_cons pe_str (pa_cons pe_str (pa_cons pe_str (pa_cons pe_str (pa_cons pe_str (pa_cons pe_str pa_nil)))))))) (pe_bm F.plainAttrs_list F.slot_list_index F.type_list_index mt_index (pv 2) (pa_cons pe_bl pa_nil)) (by intro _ _; rfl)) pe_str)))))))), ?_⟩
      have y1 := x3 w1 (by simp)
      have y2 := x3 w2 (by simp)
      have y3 := x3 w3 (by simp)
      have y4 := x3 w4 (by simp)
      have z1 := x4 c1 (by simp)
      have z2 := x4 c2 (by simp)
      have z3 := x4 c3 (by simp)
      have z4 := x4 c4 (by simp)
      have z5 := x4 c5 (by simp)
      have z6 := x4 c6 (by simp)
      have z7 := x4 c7 (by simp)
      obtain ⟨x0, x2, eσ⟩ : ∃ x0 x2, σ = [x0, some (V.ref a), x2] := by
        match σ, hl, hs with
        | [x0, y, x2], _, hs => exact ⟨x0, x2, by cases hs; rfl⟩
      subst eσ
      refine is_val rfl y1 ⟨false, rfl, if_no ?_⟩
      refine is_val rfl y2 ⟨false, rfl, if_no ?_⟩
      refine is_val rfl y3 ⟨false, rfl, if_no ?_⟩
      refine is_val rfl y4 ⟨false, rfl, if_no ?_⟩
      refine is_val rfl z1 (is_val rfl z2 (is_val rfl z3 (is_val rfl z4 ⟨(show 4 ≤ sizeLine by decide), fun p hp => ?_⟩)))
      refine ⟨_, rfl, is_val rfl z5 (is_val rfl z6 (is_val rfl z7 ⟨(show 3 ≤ sizeLine by decide), fun p2 hp2 => ?_⟩))⟩
      refine ⟨p, p2, [V.bl (decide (D = c1)), V.bl (decide (D = c2)), V.bl (decide (D = c3)), V.bl (decide (D = c4))], _, rfl, rfl, by rw [upd_ne (ne_of_none upd_same hp2)]; exact upd_same, upd_same, (show 7 ≤ sizeLine by decide), fun p3 hp3 => ?_⟩
      have ht := ref_tail (K := X.K) (D := D) (cs := [c1, c2, c3, c4, c5, c6, c7]) (j := j) (w := w) (p := p3) (H := upd (upd (upd H' p (.lst [V.bl (decide (D = c1)), V.bl (decide (D = c2)), V.bl (decide (D = c3)), V.bl (decide (D = c4))])) p2 (.lst [V.bl (decide (D = c5)), V.bl (decide (D = c6)), V.bl (decide (D = c7))])) p3 (.lst ([V.bl (decide (D = c1)), V.bl (decide (D = c2)), V.bl (decide (D = c3)), V.bl (decide (D = c4))] ++ [V.bl (decide (D = c5)), V.bl (decide (D = c6)), V.bl (decide (D = c7))]))) nd hj rfl hw upd_same
      obtain ⟨⟨q1, bs, k, b1, b2, b3, b4, b5⟩, ht2⟩ := ht
      refine ⟨_, rfl, .inl ⟨rfl, _, .inl (.inl upd_same)⟩, q1, bs, k, b1, b2, b3, rfl, true, by rw [b4]; rfl, if_ye ⟨(show 7 ≤ sizeLine by decide), fun p4 hp4 => ?_⟩⟩
      have ne : p3 ≠ p4 := ne_of_none upd_same hp4
      refine ⟨_, rfl, .inl ⟨rfl, _, .inl (.inl ((upd_ne ne).trans upd_same))⟩, ?_⟩
      refine ht2 _ (upd_ne ne) (fun y H2 => rIxL X.K (V.ref p4) y H2 Dn.rt) ?_
      refine ⟨p4, errCodes.map V.str, (j : Int), .str w, rfl, rfl, .inl (.inl upd_same), atI_nat (by rw [List.getElem?_map, hw]; rfl), ?_⟩
      exact hq _ (.step (.step (.step (.step (.refl H') hp) hp2) hp3) hp4)
    · subst ec ed
      unfold fldB at hB2
      rw [Bool.and_eq_true] at hB2
      obtain ⟨hB3, hB4⟩ := hB2
      have hD := List.all_eq_true.mp hB3 D (List.mem_of_getElem? hj)
      simp only [Bool.and_eq_true, decide_eq_true_eq, List.all_eq_true] at hD
      obtain ⟨⟨⟨x1, x2⟩, x3⟩, x4⟩ := hD
      have hno : PySem.W.findIn X.K (.ref D) f = some none := of_decide_eq_true (List.all_eq_true.mp hB4 (D, f) (List.mem_of_getElem? (i := j) (List.getElem?_zip_eq_some.mpr ⟨hj, hfl⟩)))
      have CI := call_isD (X := (cxOf C8.CX0 X.prog X.w X.K X.mg X.base ["_law_work", "e", "_law_known"] "_law_refused" (defScope (top 43)) g cdg X.A X.stack s H C8.E0).nox) (a := a) (pn := pn) (excB_ok x1) hz hf
      have y1 := x4 w1 (by simp)
      have y2 := x4 w2 (by simp)
      have y3 := x4 w3 (by simp)
      have y4 := x4 w4 (by simp)
      have ne : ∀ i k : Nat, [w1, w2, w3, w4][i]? ≠ none → [w1, w2, w3, w4][k]? ≠ none → [w1, w2, w3, w4][i]? = [w1, w2, w3, w4][k]? → i = k := fun i k h1 h2 e => by
        cases e1 : [w1, w2, w3, w4][i]? with
        | none => exact absurd e1 h1
        | some z => exact nodup_ix nd2 e1 (e.symm.trans e1)
      have isv : ∀ (c : Addr) (b : Bool) (Q : VK), PySem.W.kitOne X.K (.ref D) (.ref c) = some b → Q (.bl b) H' → tCB (rIsD X.K D a dd) (tCons (tVar 1) (tCons (tC (.ref c)) tNil)) σ H' Q := fun c b Q hk q => ⟨.ref a, hs, .ref c, .ref c, b, [(f, v)], rfl, fun u r => r, hdd, hk, q⟩
      have rd : ∀ (w' : Str), w' = w → tTup (tCons (tC (.str w')) (tCons (tXf a (.ref D) (some dd) D f (tVar 1)) tNil)) σ H' Dn.rt := fun w' ew => by
        subst ew
        exact ⟨.ref a, hs, rfl, rfl, dd, [(f, v)], v, rfl, hdd, by simp, (show 2 ≤ sizeLine by decide), fun p hp => hq p hp⟩
      match j, hj, hw, hfl with
      | 0, hj, hw, hfl =>
        cases hj; cases hw; cases hfl
        refine ⟨_, pss_cons (ps_if (pt_val (pe_callB CI rfl bi boot_isinstance (pa_cons (pv 1) (pa_cons (pe_glob (v := .ref w1) rfl g1 rfl) pa_nil)))) (pss_one (ps_ret (pe_tup (pa_cons pe_str (pa_cons (pe_xf (xfB_ok x2) hno hz hf (pv 1)) pa_nil))))) pss_nil) (pss_no), ?_⟩
        rw [decide_eq_true rfl] at y1
        exact isv w1 true _ y1 ⟨true, rfl, if_ye (rd _ rfl)⟩
      | 1, hj, hw, hfl =>
        cases hj; cases hw; cases hfl
        refine ⟨_, pss_cons (ps_if (pt_val (pe_callB CI rfl bi boot_isinstance (pa_cons (pv 1) (pa_cons (pe_glob (v := .ref w1) rfl g1 rfl) pa_nil)))) pss_no pss_nil) (pss_cons (ps_if (pt_val (pe_callB CI rfl bi boot_isinstance (pa_cons (pv 1) (pa_cons (pe_glob (v := .ref w2) rfl g2 rfl) pa_nil)))) (pss_one (ps_ret (pe_tup (pa_cons pe_str (pa_cons (pe_xf (xfB_ok x2) hno hz hf (pv 1)) pa_nil))))) pss_nil) (pss_no)), ?_⟩
        rw [decide_eq_false (fun z => absurd (ne 1 0 (by simp) (by simp) (by simp [z])) (by decide))] at y1
        rw [decide_eq_true rfl] at y2
        exact isv w1 false _ y1 ⟨false, rfl, if_no (isv w2 true _ y2 ⟨true, rfl, if_ye (rd _ rfl)⟩)⟩
      | 2, hj, hw, hfl =>
        cases hj; cases hw; cases hfl
        refine ⟨_, pss_cons (ps_if (pt_val (pe_callB CI rfl bi boot_isinstance (pa_cons (pv 1) (pa_cons (pe_glob (v := .ref w1) rfl g1 rfl) pa_nil)))) pss_no pss_nil) (pss_cons (ps_if (pt_val (pe_callB CI rfl bi boot_isinstance (pa_cons (pv 1) (pa_cons (pe_glob (v := .ref w2) rfl g2 rfl) pa_nil)))) pss_no pss_nil) (pss_cons (ps_if (pt_val (pe_callB CI rfl bi boot_isinstance (pa_cons (pv 1) (pa_cons (pe_glob (v := .ref w3) rfl g3 rfl) pa_nil)))) (pss_one (ps_ret (pe_tup (pa_cons pe_str (pa_cons (pe_xf (xfB_ok x2) hno hz hf (pv 1)) pa_nil))))) pss_nil) (pss_no))), ?_⟩
        rw [decide_eq_false (fun z => absurd (ne 2 0 (by simp) (by simp) (by simp [z])) (by decide))] at y1
        rw [decide_eq_false (fun z => absurd (ne 2 1 (by simp) (by simp) (by simp [z])) (by decide))] at y2
        rw [decide_eq_true rfl] at y3
        exact isv w1 false _ y1 ⟨false, rfl, if_no (isv w2 false _ y2 ⟨false, rfl, if_no (isv w3 true _ y3 ⟨true, rfl, if_ye (rd _ rfl)⟩)⟩)⟩
      | 3, hj, hw, hfl =>
        cases hj; cases hw; cases hfl
        refine ⟨_, pss_cons (ps_if (pt_val (pe_callB CI rfl bi boot_isinstance (pa_cons (pv 1) (pa_cons (pe_glob (v := .ref w1) rfl g1 rfl) pa_nil)))) pss_no pss_nil) (pss_cons (ps_if (pt_val (pe_callB CI rfl bi boot_isinstance (pa_cons (pv 1) (pa_cons (pe_glob (v := .ref w2) rfl g2 rfl) pa_nil)))) pss_no pss_nil) (pss_cons (ps_if (pt_val (pe_callB CI rfl bi boot_isinstance (pa_cons (pv 1) (pa_cons (pe_glob (v := .ref w3) rfl g3 rfl) pa_nil)))) pss_no pss_nil) (pss_cons (ps_if (pt_val (pe_callB CI rfl bi boot_isinstance (pa_cons (pv 1) (pa_cons (pe_glob (v := .ref w4) rfl g4 rfl) pa_nil)))) (pss_one (ps_ret (pe_tup (pa_cons pe_str (pa_cons (pe_xf (xfB_ok x2) hno hz hf (pv 1)) pa_nil))))) pss_nil) (pss_no)))), ?_⟩
        rw [decide_eq_false (fun z => absurd (ne 3 0 (by simp) (by simp) (by simp [z])) (by decide))] at y1
        rw [decide_eq_false (fun z => absurd (ne 3 1 (by simp) (by simp) (by simp [z])) (by decide))] at y2
        rw [decide_eq_false (fun z => absurd (ne 3 2 (by simp) (by simp) (by simp [z])) (by decide))] at y3
        rw [decide_eq_true rfl] at y4
        exact isv w1 false _ y1 ⟨false, rfl, if_no (isv w2 false _ y2 ⟨false, rfl, if_no (isv w3 false _ y3 ⟨false, rfl, if_no (isv w4 true _ y4 ⟨true, rfl, if_ye (rd _ rfl)⟩)⟩)⟩)⟩
      | j + 4, hj, _, _ => cases hj
  · refine ⟨fun cls d H' => (d = none ∧ ∃ (j : Nat) (n w : Str) (C : Addr), errNames[j]? = some n ∧ errCodes[j]? = some w ∧ X.mg n = some (.ref C) ∧ cls = .ref C ∧ ∀ H2, GrL H' H2 → Q (.str w) H2) ∨
      ∃ (j : Nat) (n w f : Str) (C dd : Addr) (v : V), fldNames[j]? = some n ∧ fldCodes[j]? = some w ∧ fldFields[j]? = some f ∧ X.mg n = some (.ref C) ∧ cls = .ref C ∧ d = some dd ∧ H' dd = some (.xd [(f, v)]) ∧ ∀ p, H' p = none → Q (.ref p) (upd H' p (.tup [.str w, v])), fun cls d σ' H' h1 hl => ?_, rfl, hc, h⟩
    rcases h1 with ⟨ed, j, n, w, C, hn, hw, hm, ec, hq⟩ | ⟨j, n, w, f, C, dd, v, hn, hw, hfl, hm, ec, ed, hdd, hq⟩
    rotate_left
    · have hj : [w1, w2, w3, w4][j]? = some C := by
        have each : (fldNames.map X.mg) = [w1, w2, w3, w4].map fun c => some (Value.ref c) := by
          show [X.mg "BadWeb", X.mg "BadWalk", X.mg "TooMany", X.mg "InvalidText"] = _
          rw [g1, g2, g3, g4]; rfl
        have z : (fldNames.map X.mg)[j]? = some (some (Value.ref C)) := by rw [List.getElem?_map, hn]; exact congrArg some hm
        rw [each, List.getElem?_map] at z
        cases ez : [w1, w2, w3, w4][j]? with
        | none => rw [ez] at z; cases z
        | some c =>
          rw [ez] at z
          have z' : some (some (Value.ref c)) = some (some (Value.ref C)) := z
          cases z'
          rfl
      have hB5 := hB2
      unfold fldB at hB5
      rw [Bool.and_eq_true] at hB5
      have hD := List.all_eq_true.mp hB5.1 C (List.mem_of_getElem? hj)
      simp only [Bool.and_eq_true, decide_eq_true_eq] at hD
      refine ⟨true, by rw [ec]; exact hD.1.2, fun _ a ha => ?_, fun z => by cases z⟩
      exact .inr ⟨j, C, dd, w, f, v, ec, ed, hj, hw, hfl, List.getElem?_set_self (by rw [hl]; decide), by rw [List.length_set, hl], hdd, hq⟩
    have hj : [c1, c2, c3, c4, c5, c6, c7][j]? = some C := by
      have each : (errNames.map X.mg) = [c1, c2, c3, c4, c5, c6, c7].map fun c => some (Value.ref c) := by
        show [X.mg "BadState", X.mg "BadFolk", X.mg "BadNumber", X.mg "BadStreet", X.mg "BadOrder", X.mg "NotResting", X.mg "NotText"] = _
        rw [e1, e2, e3, e4, e5, e6, e7]; rfl
      have z : (errNames.map X.mg)[j]? = some (some (Value.ref C)) := by rw [List.getElem?_map, hn]; exact congrArg some hm
      rw [each, List.getElem?_map] at z
      cases ez : [c1, c2, c3, c4, c5, c6, c7][j]? with
      | none => rw [ez] at z; cases z
      | some c =>
        rw [ez] at z
        have z' : some (some (Value.ref c)) = some (some (Value.ref C)) := z
        cases z'
        rfl
    have hD := List.all_eq_true.mp hB C (List.mem_of_getElem? hj)
    simp only [Bool.and_eq_true, decide_eq_true_eq] at hD
    refine ⟨true, by rw [ec]; exact hD.1.1.2, fun _ a ha => ?_, fun z => by cases z⟩
    exact .inl ⟨j, C, w, ec, ed, hj, hw, List.getElem?_set_self (by rw [hl]; decide), by rw [List.length_set, hl], hq⟩
structure Bs (P : Program) (w : World) (K : PySem.W.Frag) (mg : Str → Option Value) : Prop where
  e_BadFolk : ER K mg "BadFolk"
  e_BadOrder : ER K mg "BadOrder"
  e_BadState : ER K mg "BadState"
  e_BadStreet : ER K mg "BadStreet"
  g_MOODS : ∃ t, mg "MOODS" = some (.int 3 t)
  g_MOST_FOLK : ∃ t, mg "MOST_FOLK" = some (.int 10 t)
  g_MOST_LIKE : ∃ t, mg "MOST_LIKE" = some (.int 7 t)
  g_MOST_NEW : ∃ t, mg "MOST_NEW" = some (.int 9 t)
  b_all : mg "all" = none
  b_bool : mg "bool" = none
  b_int : mg "int" = none
  b_isinstance : mg "isinstance" = none
  b_len : mg "len" = none
  b_list : mg "list" = none
  b_max : mg "max" = none
  b_min : mg "min" = none
  b_range : mg "range" = none
  b_sorted : mg "sorted" = none
  b_str : mg "str" = none
  b_tuple : mg "tuple" = none
  b_zip : mg "zip" = none
  r_BadWeb : ∀ base, ERF P w K mg base "BadWeb" "index"
  r_TooMany : ∀ base, ERF P w K mg base "TooMany" "most"
section
variable {P : Program} {w : World} {K : PySem.W.Frag} {mg : Str → Option Value} {base : Heap} {T : List (Addr × Str)}
theorem sc_is_number : FnScope ["value", "low", "high"] ["value", "low", "high"] (defScope (top 15)) := ⟨rfl, rfl, rfl, by decide +kernel, rfl, by decide +kernel, by decide +kernel⟩
theorem ok_is_number (B : Bs P w K mg) {f : Addr} {fd : FuncData} (F1 : Fun K "is_number" "is_number" (top 15) f fd) (hm : mg "is_number" = some (.ref f)) (hb : Binds K fd ["value", "low", "high"] []) : Cal P w K mg base T "is_number" (0 + 1) 3 f_is_number :=
  ⟨f, fd, ["value", "low", "high"], fn_ok F1 sc_is_number rfl (fun cdv A outer s H E W hr tk po =>
  ss_one (st_ret (me_and (me_isi rfl rfl B.b_isinstance rfl B.b_int boot_int (pv 0)) (me_and (me_not (me_isi rfl rfl B.b_isinstance rfl B.b_bool boot_bool (pv 0))) (me_one (me_chain op_le op_le p_le p_le (pv 1) (pv 0) (pv 2))))))), hm, F1.kp, hb⟩
theorem sc_is_street : FnScope ["folk", "value"] ["folk", "value"] (defScope (top 16)) := ⟨rfl, rfl, rfl, by decide +kernel, rfl, by decide +kernel, by decide +kernel⟩
theorem ok_is_street (B : Bs P w K mg) (c_is_number : Cal P w K mg base T "is_number" 1 3 f_is_number) {f : Addr} {fd : FuncData} (F1 : Fun K "is_street" "is_street" (top 16) f fd) (hm : mg "is_street" = some (.ref f)) (hb : Binds K fd ["folk", "value"] []) : Cal P w K mg base T "is_street" (1 + 1) 2 f_is_street :=
  ⟨f, fd, ["folk", "value"], fn_ok F1 sc_is_street rfl (fun cdv A outer s H E W hr tk po =>
  ss_cons (st_if (mt_bool (mw_or (mt_not (mt_val (me_isi rfl rfl B.b_isinstance rfl B.b_tuple boot_tuple (pv 1)))) (mw_or (mt_cmp (op_neD (room64 hr)) p_ne (me_fnB call_lenA p_len rfl B.b_len PySem.boot_len (mo_cons (pv 1) (mo_nil))) (me_int) (nomark _)) (mw_or1 (mt_not (mt_val (me_cal c_is_number rfl rfl hr tk rfl (ma_v (me_at (room1 hr) rfl (pv 1) (me_int)) (ma_v (me_int) (ma_v (me_op op_sub p_sub (pv 0) (me_int)) (ma_nil))))))))))) (ss_one (st_ret (me_bl))) (ss_nil))
  (ss_one (st_ret (me_cal c_is_number rfl rfl hr tk rfl (ma_v (me_at (room1 hr) rfl (pv 1) (me_int)) (ma_v (me_op op_addA p_add (me_at (room1 hr) rfl (pv 1) (me_int)) (me_int)) (ma_v (me_op op_sub p_sub (pv 0) (me_int)) (ma_nil)))))))), hm, F1.kp, hb⟩
theorem sc_need_web : FnScope ["value", "folk", "streets", "index"] ["value"] (defScope (top 17)) := ⟨rfl, rfl, rfl, by decide +kernel, rfl, by decide +kernel, by decide +kernel⟩
theorem ok_need_web (B : Bs P w K mg) (c_is_number : Cal P w K mg base T "is_number" 1 3 f_is_number) (c_is_street : Cal P w K mg base T "is_street" 2 2 f_is_street) {f : Addr} {fd : FuncData} (F1 : Fun K "need_web" "need_web" (top 17) f fd) (hm : mg "need_web" = some (.ref f)) (hb : Binds K fd ["value"] []) : Cal P w K mg base T "need_web" (2 + 1) 1 f_need_web :=
  ⟨f, fd, ["value"], fn_ok F1 sc_need_web rfl (fun cdv A outer s H E W hr tk po =>
  ss_cons (st_if (mt_bool (mw_or (mt_not (mt_val (me_isi rfl rfl B.b_isinstance rfl B.b_tuple boot_tuple (pv 0)))) (mw_or (mt_cmp (op_neD (room64 hr)) p_ne (me_fnB call_lenA p_len rfl B.b_len PySem.boot_len (mo_cons (pv 0) (mo_nil))) (me_int) (nomark _)) (mw_or1 (mt_not (mt_val (me_cal c_is_number rfl rfl hr tk rfl (ma_v (me_at (room1 hr) rfl (pv 0) (me_int)) (ma_v (me_int) (ma_v (me_gint rfl B.g_MOST_FOLK) (ma_nil))))))))))) (ss_one (st_raiseF (k := 0) rfl tk (B.r_BadWeb _) rfl rfl (hr.mono (by decide)) rfl (me_non))) (ss_nil))
  (ss_cons (st_if (mt_not (mt_val (me_isi rfl rfl B.b_isinstance rfl B.b_tuple boot_tuple (me_at (room1 hr) rfl (pv 0) (me_int))))) (ss_one (st_raiseF (k := 0) rfl tk (B.r_BadWeb _) rfl rfl (hr.mono (by decide)) rfl (me_non))) (ss_nil))
  (ss_cons (st_asg (me_var (pv 0)) (tg_tup rfl (gs_cons (tg_name sc_need_web.nd rfl (by first | exact Or.inl rfl | exact Or.inr rfl) (show 1 ∉ ([] : List Nat) by decide)) (gs_cons (tg_name sc_need_web.nd rfl (by first | exact Or.inl rfl | exact Or.inr rfl) (show 2 ∉ ([] : List Nat) by decide)) (gs_nil))) rfl))
  (ss_one (st_for po rfl rfl (mi_rng1 rfl B.b_range (mo_cons (me_fnB call_lenA p_len rfl B.b_len PySem.boot_len (mo_cons (pv 2) (mo_nil))) (mo_nil))) (tg_name sc_need_web.nd rfl (by first | exact Or.inl rfl | exact Or.inr rfl) (show 3 ∉ ([] : List Nat) by decide)) (ss_one (st_if (mt_bool (mw_or (mt_not (mt_val (me_cal c_is_street rfl rfl hr tk rfl (ma_v (me_var (pv 1)) (ma_v (me_at (room1 hr) rfl (pv 2) (pv 3)) (ma_nil)))))) (mw_or1 (mt_bool (mw_and (mt_cmp op_gt p_gt (pv 3) (me_int) (nomark _)) (mw_and1 (mt_cmp (op_ge.or (op_geT (room0 hr))) p_ge (me_at (room1 hr) rfl (pv 2) (me_op op_sub p_sub (pv 3) (me_int))) (me_at (room1 hr) rfl (pv 2) (pv 3)) (nomark _)))))))) (ss_one (st_raiseF (k := 0) rfl tk (B.r_BadWeb _) rfl rfl (hr.mono (by decide)) rfl (me_var (pv 3)))) (ss_nil)))))))), hm, F1.kp, hb⟩
theorem sc_need_one : FnScope ["web", "value"] ["web", "value"] (defScope (top 18)) := ⟨rfl, rfl, rfl, by decide +kernel, rfl, by decide +kernel, by decide +kernel⟩
theorem ok_need_one (B : Bs P w K mg) (c_is_number : Cal P w K mg base T "is_number" 1 3 f_is_number) {f : Addr} {fd : FuncData} (F1 : Fun K "need_one" "need_one" (top 18) f fd) (hm : mg "need_one" = some (.ref f)) (hb : Binds K fd ["web", "value"] []) : Cal P w K mg base T "need_one" (1 + 1) 2 f_need_one :=
  ⟨f, fd, ["web", "value"], fn_ok F1 sc_need_one rfl (fun cdv A outer s H E W hr tk po =>
  ss_one (st_if (mt_not (mt_val (me_cal c_is_number rfl rfl hr tk rfl (ma_v (me_var (pv 1)) (ma_v (me_int) (ma_v (me_op op_sub p_sub (me_at (room1 hr) rfl (pv 0) (me_int)) (me_int)) (ma_nil))))))) (ss_one (st_raiseE rfl tk B.e_BadFolk rfl rfl)) (ss_nil))), hm, F1.kp, hb⟩
theorem sc_are_neighbours : FnScope ["web", "one", "other"] ["web", "one", "other"] (defScope (top 19)) := ⟨rfl, rfl, rfl, by decide +kernel, rfl, by decide +kernel, by decide +kernel⟩
theorem ok_are_neighbours (B : Bs P w K mg) {f : Addr} {fd : FuncData} (F1 : Fun K "are_neighbours" "are_neighbours" (top 19) f fd) (hm : mg "are_neighbours" = some (.ref f)) (hb : Binds K fd ["web", "one", "other"] []) : Cal P w K mg base T "are_neighbours" (0 + 1) 3 f_are_neighbours :=
  ⟨f, fd, ["web", "one", "other"], fn_ok F1 sc_are_neighbours rfl (fun cdv A outer s H E W hr tk po =>
  ss_one (st_ret (me_cmp (op_inAny (room65 hr)) (p_inAny (f := id)) (me_tup (ms_cons (me_fnB (call_min2 rfl) p_min2 rfl B.b_min boot_min (mo_cons (pv 1) (mo_cons (pv 2) (mo_nil)))) (ms_cons (me_fnB (call_max2 rfl) p_max2 rfl B.b_max boot_max (mo_cons (pv 1) (mo_cons (pv 2) (mo_nil)))) (ms_nil)))) (me_at (room1 hr) rfl (pv 0) (me_int)) (by with_unfolding_all rfl)))), hm, F1.kp, hb⟩
theorem sc_are_moods : FnScope ["value", "many", "mood"] ["value", "many"] (defScope (top 22)) := ⟨rfl, rfl, rfl, by decide +kernel, rfl, by decide +kernel, by decide +kernel⟩
theorem ok_are_moods (B : Bs P w K mg) (c_is_number : Cal P w K mg base T "is_number" 1 3 f_is_number) {f : Addr} {fd : FuncData} (F1 : Fun K "are_moods" "are_moods" (top 22) f fd) (hm : mg "are_moods" = some (.ref f)) (hb : Binds K fd ["value", "many"] []) : Cal P w K mg base T "are_moods" (1 + 1) 2 f_are_moods :=
  ⟨f, fd, ["value", "many"], fn_ok F1 sc_are_moods rfl (fun cdv A outer s H E W hr tk po =>
  ss_one (st_ret (me_and (me_isi rfl rfl B.b_isinstance rfl B.b_tuple boot_tuple (pv 0)) (me_and (me_cmp (op_eqD (room64 hr)) p_eq (me_fnB call_lenA p_len rfl B.b_len PySem.boot_len (mo_cons (pv 0) (mo_nil))) (pv 1) (nomark _)) (me_one (me_fnB (cr_all rfl) p_all rfl B.b_all boot_all (mo_cons (me_of (fe_lc (own := [("mood", 2)]) rfl sc_are_moods.nd (show ∀ v ∈ ([2] : List Nat), v ∉ ([] : List Nat) by decide) (by decide) (mi_seq rfl (me_var (pv 0))) (blkOk_by (by kernel_rfl)) (fun _ _ _ _ _ => tg_name sc_are_moods.nd rfl (by first | exact Or.inl rfl | exact Or.inr rfl) (show 2 ∉ ([] : List Nat) by decide)) (fun _ _ _ _ _ => mts_nil) (fun _ _ _ _ _ => me_cal c_is_number rfl rfl hr takes_no rfl (ma_v (me_var (pv 2)) (ma_v (me_int) (ma_v (me_op op_sub p_sub (me_gint rfl B.g_MOODS) (me_int)) (ma_nil))))))) (mo_nil)))))))), hm, F1.kp, hb⟩
theorem sc_need_both : FnScope ["web", "state"] ["web", "state"] (defScope (top 23)) := ⟨rfl, rfl, rfl, by decide +kernel, rfl, by decide +kernel, by decide +kernel⟩
theorem ok_need_both (B : Bs P w K mg) (c_need_web : Cal P w K mg base T "need_web" 3 1 f_need_web) (c_are_moods : Cal P w K mg base T "are_moods" 2 2 f_are_moods) {f : Addr} {fd : FuncData} (F1 : Fun K "need_both" "need_both" (top 23) f fd) (hm : mg "need_both" = some (.ref f)) (hb : Binds K fd ["web", "state"] []) : Cal P w K mg base T "need_both" (3 + 1) 2 f_need_both :=
  ⟨f, fd, ["web", "state"], fn_ok F1 sc_need_both rfl (fun cdv A outer s H E W hr tk po =>
  ss_cons (st_expr (me_cal c_need_web rfl rfl hr tk rfl (ma_v (me_var (pv 0)) (ma_nil))))
  (ss_one (st_if (mt_not (mt_val (me_cal c_are_moods rfl rfl hr tk rfl (ma_v (me_var (pv 1)) (ma_v (me_at (room1 hr) rfl (pv 0) (me_int)) (ma_nil)))))) (ss_one (st_raiseE rfl tk B.e_BadState rfl rfl)) (ss_nil)))), hm, F1.kp, hb⟩
theorem sc_need_ends : FnScope ["web", "a", "b", "is_there"] ["web", "a", "b", "is_there"] (defScope (top 27)) := ⟨rfl, rfl, rfl, by decide +kernel, rfl, by decide +kernel, by decide +kernel⟩
theorem ok_need_ends (B : Bs P w K mg) (c_need_one : Cal P w K mg base T "need_one" 2 2 f_need_one) (c_are_neighbours : Cal P w K mg base T "are_neighbours" 1 3 f_are_neighbours) {f : Addr} {fd : FuncData} (F1 : Fun K "need_ends" "need_ends" (top 27) f fd) (hm : mg "need_ends" = some (.ref f)) (hb : Binds K fd ["web", "a", "b", "is_there"] []) : Cal P w K mg base T "need_ends" (2 + 1) 4 f_need_ends :=
  ⟨f, fd, ["web", "a", "b", "is_there"], fn_ok F1 sc_need_ends rfl (fun cdv A outer s H E W hr tk po =>
  ss_cons (st_expr (me_cal c_need_one rfl rfl hr tk rfl (ma_v (me_var (pv 0)) (ma_v (me_var (pv 1)) (ma_nil)))))
  (ss_cons (st_expr (me_cal c_need_one rfl rfl hr tk rfl (ma_v (me_var (pv 0)) (ma_v (me_var (pv 2)) (ma_nil)))))
  (ss_one (st_if (mt_bool (mw_or (mt_cmp (op_eqD (room64 hr)) p_eq (pv 1) (pv 2) (nomark _)) (mw_or1 (mt_cmp (op_neD (room64 hr)) p_ne (me_cal c_are_neighbours rfl rfl hr tk rfl (ma_v (me_var (pv 0)) (ma_v (me_var (pv 1)) (ma_v (me_var (pv 2)) (ma_nil))))) (pv 3) (nomark _))))) (ss_one (st_raiseE rfl tk B.e_BadStreet rfl rfl)) (ss_nil))))), hm, F1.kp, hb⟩
theorem sc_with_street : FnScope ["web", "a", "b"] ["web", "a", "b"] (defScope (top 28)) := ⟨rfl, rfl, rfl, by decide +kernel, rfl, by decide +kernel, by decide +kernel⟩
theorem ok_with_street (B : Bs P w K mg) (c_need_web : Cal P w K mg base T "need_web" 3 1 f_need_web) (c_need_ends : Cal P w K mg base T "need_ends" 3 4 f_need_ends) {f : Addr} {fd : FuncData} (F1 : Fun K "with_street" "with_street" (top 28) f fd) (hm : mg "with_street" = some (.ref f)) (hb : Binds K fd ["web", "a", "b"] []) : Cal P w K mg base T "with_street" (3 + 1) 3 f_with_street :=
  ⟨f, fd, ["web", "a", "b"], fn_ok F1 sc_with_street rfl (fun cdv A outer s H E W hr tk po =>
  ss_cons (st_expr (me_cal c_need_web rfl rfl hr tk rfl (ma_v (me_var (pv 0)) (ma_nil))))
  (ss_cons (st_expr (me_cal c_need_ends rfl rfl hr tk rfl (ma_v (me_var (pv 0)) (ma_v (me_var (pv 1)) (ma_v (me_var (pv 2)) (ma_v (me_bl) (ma_nil)))))))
  (ss_one (st_ret (me_tup (ms_cons (me_at (room1 hr) rfl (pv 0) (me_int)) (ms_cons (me_fnT call_tuple_of p_tuple rfl B.b_tuple boot_tuple (mo_cons (me_of (fe_sortM (room65 hr) rfl rfl B.b_sorted (mo_cons (me_op op_addA p_add (me_at (room1 hr) rfl (pv 0) (me_int)) (me_tup (ms_cons (me_tup (ms_cons (me_fnB (call_min2 rfl) p_min2 rfl B.b_min boot_min (mo_cons (pv 1) (mo_cons (pv 2) (mo_nil)))) (ms_cons (me_fnB (call_max2 rfl) p_max2 rfl B.b_max boot_max (mo_cons (pv 1) (mo_cons (pv 2) (mo_nil)))) (ms_nil)))) (ms_nil)))) (mo_nil)))) (mo_nil))) (ms_nil)))))))), hm, F1.kp, hb⟩
theorem sc_without : FnScope ["web", "a", "b", "pair"] ["web", "a", "b"] (defScope (top 29)) := ⟨rfl, rfl, rfl, by decide +kernel, rfl, by decide +kernel, by decide +kernel⟩
theorem ok_without (B : Bs P w K mg) {f : Addr} {fd : FuncData} (F1 : Fun K "without" "without" (top 29) f fd) (hm : mg "without" = some (.ref f)) (hb : Binds K fd ["web", "a", "b"] []) : Cal P w K mg base T "without" (0 + 1) 3 f_without :=
  ⟨f, fd, ["web", "a", "b"], fn_ok F1 sc_without rfl (fun cdv A outer s H E W hr tk po =>
  ss_one (st_ret (me_tup (ms_cons (me_at (room1 hr) rfl (pv 0) (me_int)) (ms_cons (me_fnT call_tuple_of p_tuple rfl B.b_tuple boot_tuple (mo_cons (me_of (fe_lc (own := [("pair", 3)]) rfl sc_without.nd (show ∀ v ∈ ([3] : List Nat), v ∉ ([] : List Nat) by decide) (by decide) (mi_seq rfl (me_at (room1 hr) rfl (pv 0) (me_int))) (blkOk_by (by kernel_rfl)) (fun _ _ _ _ _ => tg_name sc_without.nd rfl (by first | exact Or.inl rfl | exact Or.inr rfl) (show 3 ∉ ([] : List Nat) by decide)) (fun _ _ _ _ _ => mts_one (mt_cmp (op_neD (room64 hr)) p_ne (pv 3) (me_tup (ms_cons (me_fnB (call_min2 rfl) p_min2 rfl B.b_min boot_min (mo_cons (pv 1) (mo_cons (pv 2) (mo_nil)))) (ms_cons (me_fnB (call_max2 rfl) p_max2 rfl B.b_max boot_max (mo_cons (pv 1) (mo_cons (pv 2) (mo_nil)))) (ms_nil)))) (nomark _))) (fun _ _ _ _ _ => me_var (pv 3)))) (mo_nil))) (ms_nil)))))), hm, F1.kp, hb⟩
theorem sc_without_street : FnScope ["web", "a", "b"] ["web", "a", "b"] (defScope (top 30)) := ⟨rfl, rfl, rfl, by decide +kernel, rfl, by decide +kernel, by decide +kernel⟩
theorem ok_without_street (B : Bs P w K mg) (c_need_web : Cal P w K mg base T "need_web" 3 1 f_need_web) (c_need_ends : Cal P w K mg base T "need_ends" 3 4 f_need_ends) (c_without : Cal P w K mg base T "without" 1 3 f_without) {f : Addr} {fd : FuncData} (F1 : Fun K "without_street" "without_street" (top 30) f fd) (hm : mg "without_street" = some (.ref f)) (hb : Binds K fd ["web", "a", "b"] []) : Cal P w K mg base T "without_street" (3 + 1) 3 f_without_street :=
  ⟨f, fd, ["web", "a", "b"], fn_ok F1 sc_without_street rfl (fun cdv A outer s H E W hr tk po =>
  ss_cons (st_expr (me_cal c_need_web rfl rfl hr tk rfl (ma_v (me_var (pv 0)) (ma_nil))))
  (ss_cons (st_expr (me_cal c_need_ends rfl rfl hr tk rfl (ma_v (me_var (pv 0)) (ma_v (me_var (pv 1)) (ma_v (me_var (pv 2)) (ma_v (me_bl) (ma_nil)))))))
  (ss_one (st_ret (me_cal c_without rfl rfl hr tk rfl (ma_v (me_var (pv 0)) (ma_v (me_var (pv 1)) (ma_v (me_var (pv 2)) (ma_nil))))))))), hm, F1.kp, hb⟩
theorem sc_joined : FnScope ["web", "other", "a", "b"] ["web", "other"] (defScope (top 31)) := ⟨rfl, rfl, rfl, by decide +kernel, rfl, by decide +kernel, by decide +kernel⟩
theorem ok_joined (B : Bs P w K mg) (c_need_web : Cal P w K mg base T "need_web" 3 1 f_need_web) {f : Addr} {fd : FuncData} (F1 : Fun K "joined" "joined" (top 31) f fd) (hm : mg "joined" = some (.ref f)) (hb : Binds K fd ["web", "other"] []) : Cal P w K mg base T "joined" (3 + 1) 2 f_joined :=
  ⟨f, fd, ["web", "other"], fn_ok F1 sc_joined rfl (fun cdv A outer s H E W hr tk po =>
  ss_cons (st_expr (me_cal c_need_web rfl rfl hr tk rfl (ma_v (me_var (pv 0)) (ma_nil))))
  (ss_cons (st_expr (me_cal c_need_web rfl rfl hr tk rfl (ma_v (me_var (pv 1)) (ma_nil))))
  (ss_cons (st_if (mt_cmp op_gt p_gt (me_op op_addA p_add (me_at (room1 hr) rfl (pv 0) (me_int)) (me_at (room1 hr) rfl (pv 1) (me_int))) (me_gint rfl B.g_MOST_FOLK) (nomark _)) (ss_one (st_raiseF (k := 0) rfl tk (B.r_TooMany _) rfl rfl (hr.mono (by decide)) rfl (me_gint rfl B.g_MOST_FOLK))) (ss_nil))
  (ss_one (st_ret (me_tup (ms_cons (me_op op_addA p_add (me_at (room1 hr) rfl (pv 0) (me_int)) (me_at (room1 hr) rfl (pv 1) (me_int))) (ms_cons (me_op op_addA p_add (me_at (room1 hr) rfl (pv 0) (me_int)) (me_fnT call_tuple_of p_tuple rfl B.b_tuple boot_tuple (mo_cons (me_of (fe_lc (own := [("a", 2), ("b", 3)]) rfl sc_joined.nd (show ∀ v ∈ ([2, 3] : List Nat), v ∉ ([] : List Nat) by decide) (by decide) (mi_seq rfl (me_at (room1 hr) rfl (pv 1) (me_int))) (blkOk_by (by kernel_rfl)) (fun _ _ _ _ _ => tg_tup rfl (gs_cons (tg_name sc_joined.nd rfl (by first | exact Or.inl rfl | exact Or.inr rfl) (show 2 ∉ ([] : List Nat) by decide)) (gs_cons (tg_name sc_joined.nd rfl (by first | exact Or.inl rfl | exact Or.inr rfl) (show 3 ∉ ([] : List Nat) by decide)) (gs_nil))) rfl) (fun _ _ _ _ _ => mts_nil) (fun _ _ _ _ _ => me_tup (ms_cons (me_op op_addA p_add (pv 2) (me_at (room1 hr) rfl (pv 0) (me_int))) (ms_cons (me_op op_addA p_add (pv 3) (me_at (room1 hr) rfl (pv 0) (me_int))) (ms_nil)))))) (mo_nil)))) (ms_nil))))))))), hm, F1.kp, hb⟩
theorem sc_stretched : FnScope ["web", "state", "a", "b", "moods", "many", "row", "more", "k"] ["web", "state", "a", "b", "moods"] (defScope (top 32)) := ⟨rfl, rfl, rfl, by decide +kernel, rfl, by decide +kernel, by decide +kernel⟩
theorem ok_stretched (B : Bs P w K mg) (c_are_moods : Cal P w K mg base T "are_moods" 2 2 f_are_moods) (c_need_both : Cal P w K mg base T "need_both" 4 2 f_need_both) (c_need_ends : Cal P w K mg base T "need_ends" 3 4 f_need_ends) (c_without : Cal P w K mg base T "without" 1 3 f_without) {f : Addr} {fd : FuncData} (F1 : Fun K "stretched" "stretched" (top 32) f fd) (hm : mg "stretched" = some (.ref f)) (hb : Binds K fd ["web", "state", "a", "b", "moods"] []) : Cal P w K mg base T "stretched" (4 + 1) 5 f_stretched :=
  ⟨f, fd, ["web", "state", "a", "b", "moods"], fn_ok F1 sc_stretched rfl (fun cdv A outer s H E W hr tk po =>
  ss_cons (st_expr (me_cal c_need_both rfl rfl hr tk rfl (ma_v (me_var (pv 0)) (ma_v (me_var (pv 1)) (ma_nil)))))
  (ss_cons (st_expr (me_cal c_need_ends rfl rfl hr tk rfl (ma_v (me_var (pv 0)) (ma_v (me_var (pv 2)) (ma_v (me_var (pv 3)) (ma_v (me_bl) (ma_nil)))))))
  (ss_cons (st_if (mt_bool (mw_or (mt_not (mt_val (me_isi rfl rfl B.b_isinstance rfl B.b_tuple boot_tuple (pv 4)))) (mw_or (mt_not (mt_chain op_le op_le p_le p_le (me_int) (me_fnB call_lenA p_len rfl B.b_len PySem.boot_len (mo_cons (pv 4) (mo_nil))) (me_gint rfl B.g_MOST_NEW))) (mw_or1 (mt_not (mt_val (me_cal c_are_moods rfl rfl hr tk rfl (ma_v (me_var (pv 4)) (ma_v (me_fnB call_lenA p_len rfl B.b_len PySem.boot_len (mo_cons (pv 4) (mo_nil))) (ma_nil)))))))))) (ss_one (st_raiseE rfl tk B.e_BadState rfl rfl)) (ss_nil))
  (ss_cons (st_set sc_stretched.nd rfl (by first | exact Or.inl rfl | exact Or.inr rfl) (me_op op_addA p_add (me_at (room1 hr) rfl (pv 0) (me_int)) (me_fnB call_lenA p_len rfl B.b_len PySem.boot_len (mo_cons (pv 4) (mo_nil)))) (show 5 ∉ ([] : List Nat) by decide))
  (ss_cons (st_if (mt_cmp op_gt p_gt (pv 5) (me_gint rfl B.g_MOST_FOLK) (nomark _)) (ss_one (st_raiseF (k := 0) rfl tk (B.r_TooMany _) rfl rfl (hr.mono (by decide)) rfl (me_gint rfl B.g_MOST_FOLK))) (ss_nil))
  (ss_cons (st_set sc_stretched.nd rfl (by first | exact Or.inl rfl | exact Or.inr rfl) (me_of (fe_op op_cat p_cat (me_of (fe_op op_cat p_cat (me_of (fe_lst (ms_cons (me_var (pv 2)) (ms_nil)))) (me_of (fe_listRg2 rfl rfl B.b_list rfl B.b_range (me_at (room1 hr) rfl (pv 0) (me_int)) (pv 5))))) (me_of (fe_lst (ms_cons (me_var (pv 3)) (ms_nil)))))) (show 6 ∉ ([] : List Nat) by decide))
  (ss_cons (st_ownLc rfl sc_stretched.nd rfl rfl (show 7 ∉ ([] : List Nat) by decide) (own := [("k", 8)]) (show ∀ v ∈ ([8] : List Nat), v ∉ ([] : List Nat) by decide) (by decide)  rfl (mi_rng2 rfl B.b_range (mo_cons (me_int) (mo_cons (me_fnB call_lenA p_len rfl B.b_len PySem.boot_len (mo_cons (pv 6) (mo_nil))) (mo_nil)))) (blkOk_by (by kernel_rfl)) (fun _ _ _ _ _ => tg_name sc_stretched.nd rfl (by first | exact Or.inl rfl | exact Or.inr rfl) (show 8 ∉ ([] : List Nat) by decide)) (fun _ _ _ _ _ => mts_nil) (fun _ _ _ _ _ => me_tup (ms_cons (me_fnB (call_min2 rfl) p_min2 rfl B.b_min boot_min (mo_cons (me_at (room1 hr) rfl (pv 6) (me_op op_sub p_sub (pv 8) (me_int))) (mo_cons (me_at (room1 hr) rfl (pv 6) (pv 8)) (mo_nil)))) (ms_cons (me_fnB (call_max2 rfl) p_max2 rfl B.b_max boot_max (mo_cons (me_at (room1 hr) rfl (pv 6) (me_op op_sub p_sub (pv 8) (me_int))) (mo_cons (me_at (room1 hr) rfl (pv 6) (pv 8)) (mo_nil)))) (ms_nil)))))
  (ss_one (st_ret (me_tup (ms_cons (me_tup (ms_cons (me_var (pv 5)) (ms_cons (me_fnT call_tuple_of p_tuple rfl B.b_tuple boot_tuple (mo_cons (me_of (fe_sort rfl rfl B.b_sorted (mo_cons (me_of (fe_op op_cat p_cat (me_of (fe_list rfl rfl B.b_list (mo_cons (me_at (room1 hr) rfl (me_cal c_without rfl rfl hr tk rfl (ma_v (me_var (pv 0)) (ma_v (me_var (pv 2)) (ma_v (me_var (pv 3)) (ma_nil))))) (me_int)) (mo_nil)))) (pv 7))) (mo_nil)))) (mo_nil))) (ms_nil)))) (ms_cons (me_op op_addA p_add (pv 1) (pv 4)) (ms_nil))))))))))))), hm, F1.kp, hb⟩
theorem sc_named : FnScope ["web", "state", "order", "places", "one", "some", "a", "b"] ["web", "state", "order"] (defScope (top 33)) := ⟨rfl, rfl, rfl, by decide +kernel, rfl, by decide +kernel, by decide +kernel⟩
theorem ok_named (B : Bs P w K mg) {f : Addr} {fd : FuncData} (F1 : Fun K "named" "named" (top 33) f fd) (hm : mg "named" = some (.ref f)) (hb : Binds K fd ["web", "state", "order"] []) : Cal P w K mg base T "named" (0 + 1) 3 f_named :=
  ⟨f, fd, ["web", "state", "order"], fn_ok F1 sc_named rfl (fun cdv A outer s H E W hr tk po =>
  ss_cons (st_set sc_named.nd rfl (by first | exact Or.inl rfl | exact Or.inr rfl) (me_of (fe_lc (own := [("one", 4)]) rfl sc_named.nd (show ∀ v ∈ ([4] : List Nat), v ∉ ([] : List Nat) by decide) (by decide) (mi_rng1 rfl B.b_range (mo_cons (me_at (room1 hr) rfl (pv 0) (me_int)) (mo_nil))) (blkOk_by (by kernel_rfl)) (fun _ _ _ _ _ => tg_name sc_named.nd rfl (by first | exact Or.inl rfl | exact Or.inr rfl) (show 4 ∉ ([] : List Nat) by decide)) (fun _ _ _ _ _ => mts_nil) (fun _ _ _ _ _ => me_indexF rfl (pe_bmF F.slot_tuple_index F.type_tuple_index mt_indexTI (pv 2) (ms_cons (me_var (pv 4)) ms_nil))))) (show 3 ∉ ([] : List Nat) by decide))
  (ss_cons (st_ownLc rfl sc_named.nd rfl rfl (show 5 ∉ ([] : List Nat) by decide) (own := [("a", 6), ("b", 7)]) (show ∀ v ∈ ([6, 7] : List Nat), v ∉ ([] : List Nat) by decide) (by decide)  rfl (mi_seq rfl (me_at (room1 hr) rfl (pv 0) (me_int))) (blkOk_by (by kernel_rfl)) (fun _ _ _ _ _ => tg_tup rfl (gs_cons (tg_name sc_named.nd rfl (by first | exact Or.inl rfl | exact Or.inr rfl) (show 6 ∉ ([] : List Nat) by decide)) (gs_cons (tg_name sc_named.nd rfl (by first | exact Or.inl rfl | exact Or.inr rfl) (show 7 ∉ ([] : List Nat) by decide)) (gs_nil))) rfl) (fun _ _ _ _ _ => mts_nil) (fun _ _ _ _ _ => me_tup (ms_cons (me_fnB (call_min2 rfl) p_min2 rfl B.b_min boot_min (mo_cons (me_at (room1 hr) rfl (pv 3) (pv 6)) (mo_cons (me_at (room1 hr) rfl (pv 3) (pv 7)) (mo_nil)))) (ms_cons (me_fnB (call_max2 rfl) p_max2 rfl B.b_max boot_max (mo_cons (me_at (room1 hr) rfl (pv 3) (pv 6)) (mo_cons (me_at (room1 hr) rfl (pv 3) (pv 7)) (mo_nil)))) (ms_nil)))))
  (ss_one (st_ret (me_tup (ms_cons (me_tup (ms_cons (me_at (room1 hr) rfl (pv 0) (me_int)) (ms_cons (me_fnT call_tuple_of p_tuple rfl B.b_tuple boot_tuple (mo_cons (me_of (fe_sort rfl rfl B.b_sorted (mo_cons (pv 5) (mo_nil)))) (mo_nil))) (ms_nil)))) (ms_cons (me_fnT call_tuple_of p_tuple rfl B.b_tuple boot_tuple (mo_cons (me_of (fe_lc (own := [("one", 4)]) rfl sc_named.nd (show ∀ v ∈ ([4] : List Nat), v ∉ ([] : List Nat) by decide) (by decide) (mi_seq rfl (me_var (pv 2))) (blkOk_by (by kernel_rfl)) (fun _ _ _ _ _ => tg_name sc_named.nd rfl (by first | exact Or.inl rfl | exact Or.inr rfl) (show 4 ∉ ([] : List Nat) by decide)) (fun _ _ _ _ _ => mts_nil) (fun _ _ _ _ _ => me_at (room1 hr) rfl (pv 1) (pv 4)))) (mo_nil))) (ms_nil)))))))), hm, F1.kp, hb⟩
theorem sc_renamed : FnScope ["web", "state", "order", "one"] ["web", "state", "order"] (defScope (top 34)) := ⟨rfl, rfl, rfl, by decide +kernel, rfl, by decide +kernel, by decide +kernel⟩
theorem ok_renamed (B : Bs P w K mg) (c_is_number : Cal P w K mg base T "is_number" 1 3 f_is_number) (c_need_both : Cal P w K mg base T "need_both" 4 2 f_need_both) (c_named : Cal P w K mg base T "named" 1 3 f_named) {f : Addr} {fd : FuncData} (F1 : Fun K "renamed" "renamed" (top 34) f fd) (hm : mg "renamed" = some (.ref f)) (hb : Binds K fd ["web", "state", "order"] []) : Cal P w K mg base T "renamed" (4 + 1) 3 f_renamed :=
  ⟨f, fd, ["web", "state", "order"], fn_ok F1 sc_renamed rfl (fun cdv A outer s H E W hr tk po =>
  ss_cons (st_expr (me_cal c_need_both rfl rfl hr tk rfl (ma_v (me_var (pv 0)) (ma_v (me_var (pv 1)) (ma_nil)))))
  (ss_cons (st_if (mt_bool (mw_or (mt_not (mt_val (me_isi rfl rfl B.b_isinstance rfl B.b_tuple boot_tuple (pv 2)))) (mw_or1 (mt_not (mt_val (me_fnB (cr_all rfl) p_all rfl B.b_all boot_all (mo_cons (me_of (fe_lc (own := [("one", 3)]) rfl sc_renamed.nd (show ∀ v ∈ ([3] : List Nat), v ∉ ([] : List Nat) by decide) (by decide) (mi_seq rfl (me_var (pv 2))) (blkOk_by (by kernel_rfl)) (fun _ _ _ _ _ => tg_name sc_renamed.nd rfl (by first | exact Or.inl rfl | exact Or.inr rfl) (show 3 ∉ ([] : List Nat) by decide)) (fun _ _ _ _ _ => mts_nil) (fun _ _ _ _ _ => me_cal c_is_number rfl rfl hr takes_no rfl (ma_v (me_var (pv 3)) (ma_v (me_int) (ma_v (me_op op_sub p_sub (me_at (room1 hr) rfl (pv 0) (me_int)) (me_int)) (ma_nil))))))) (mo_nil)))))))) (ss_one (st_raiseE rfl tk B.e_BadOrder rfl rfl)) (ss_nil))
  (ss_cons (st_if (mt_cmp (op_neD (room64 hr)) p_ne (me_of (fe_sortM (room65 hr) rfl rfl B.b_sorted (mo_cons (pv 2) (mo_nil)))) (me_of (fe_listRg1 rfl rfl B.b_list rfl B.b_range (me_at (room1 hr) rfl (pv 0) (me_int)))) (nomark _)) (ss_one (st_raiseE rfl tk B.e_BadOrder rfl rfl)) (ss_nil))
  (ss_one (st_ret (me_cal c_named rfl rfl hr tk rfl (ma_v (me_var (pv 0)) (ma_v (me_var (pv 1)) (ma_v (me_var (pv 2)) (ma_nil)))))))))), hm, F1.kp, hb⟩
theorem sc_orders_of : FnScope ["many", "found", "turn", "longer", "order", "one"] ["many"] (defScope (top 35)) := ⟨rfl, rfl, rfl, by decide +kernel, rfl, by decide +kernel, by decide +kernel⟩
theorem ok_orders_of (B : Bs P w K mg) {f : Addr} {fd : FuncData} (F1 : Fun K "orders_of" "orders_of" (top 35) f fd) (hm : mg "orders_of" = some (.ref f)) (hb : Binds K fd ["many"] []) : Cal P w K mg base T "orders_of" (0 + 1) 1 f_orders_of :=
  ⟨f, fd, ["many"], fn_ok F1 sc_orders_of rfl (fun cdv A outer s H E W hr tk po =>
  ss_cons (st_set sc_orders_of.nd rfl (by first | exact Or.inl rfl | exact Or.inr rfl) (me_of (fe_lst (ms_cons (me_tup (ms_nil)) (ms_nil)))) (show 1 ∉ ([] : List Nat) by decide))
  (ss_cons (st_for po rfl rfl (mi_rng1 rfl B.b_range (mo_cons (pv 0) (mo_nil))) (tg_name sc_orders_of.nd rfl (by first | exact Or.inl rfl | exact Or.inr rfl) (show 2 ∉ ([] : List Nat) by decide)) (ss_cons (st_own sc_orders_of.nd rfl (by first | exact Or.inl rfl | exact Or.inr rfl) (fe_lst (ms_nil)) (show 3 ∉ ([] : List Nat) by decide))
  (ss_cons (st_for po rfl rfl (mi_seq rfl (me_var (pv 1))) (tg_name sc_orders_of.nd rfl (by first | exact Or.inl rfl | exact Or.inr rfl) (show 4 ∉ ([] : List Nat) by decide)) (ss_one (st_expr (me_ext rfl (pe_bm F.plainAttrs_list F.slot_list_extend F.type_list_extend mt_extA (pv 3) (ms_cons (me_of (fe_lc (own := [("one", 5)]) rfl sc_orders_of.nd (show ∀ v ∈ ([5] : List Nat), v ∉ ([] : List Nat) by decide) (by decide) (mi_rng1 rfl B.b_range (mo_cons (pv 0) (mo_nil))) (blkOk_by (by kernel_rfl)) (fun _ _ _ _ _ => tg_name sc_orders_of.nd rfl (by first | exact Or.inl rfl | exact Or.inr rfl) (show 5 ∉ ([] : List Nat) by decide)) (fun _ _ _ _ _ => mts_one (mt_cmp (op_notInAny (room65 hr)) (p_inAny (f := not)) (pv 5) (pv 4) (by with_unfolding_all rfl))) (fun _ _ _ _ _ => me_snoc rfl (me_var (pv 4)) (me_var (pv 5))))) ms_nil))))))
  (ss_one (st_set sc_orders_of.nd rfl (by first | exact Or.inl rfl | exact Or.inr rfl) (me_var (pv 3)) (show 1 ∉ ([] : List Nat) by decide))))))
  (ss_one (st_ret (me_var (pv 1)))))), hm, F1.kp, hb⟩
theorem sc_likenesses : FnScope ["web", "state", "found", "order", "mate", "other", "turn", "one", "mood"] ["web", "state"] (defScope (top 36)) := ⟨rfl, rfl, rfl, by decide +kernel, rfl, by decide +kernel, by decide +kernel⟩
theorem ok_likenesses (B : Bs P w K mg) (c_need_both : Cal P w K mg base T "need_both" 4 2 f_need_both) (c_named : Cal P w K mg base T "named" 1 3 f_named) (c_orders_of : Cal P w K mg base T "orders_of" 1 1 f_orders_of) {f : Addr} {fd : FuncData} (F1 : Fun K "likenesses" "likenesses" (top 36) f fd) (hm : mg "likenesses" = some (.ref f)) (hb : Binds K fd ["web", "state"] []) : Cal P w K mg base T "likenesses" (4 + 1) 2 f_likenesses :=
  ⟨f, fd, ["web", "state"], fn_ok F1 sc_likenesses rfl (fun cdv A outer s H E W hr tk po =>
  ss_cons (st_expr (me_cal c_need_both rfl rfl hr tk rfl (ma_v (me_var (pv 0)) (ma_v (me_var (pv 1)) (ma_nil)))))
  (ss_cons (st_if (mt_cmp op_gt p_gt (me_at (room1 hr) rfl (pv 0) (me_int)) (me_gint rfl B.g_MOST_LIKE) (nomark _)) (ss_one (st_raiseF (k := 0) rfl tk (B.r_TooMany _) rfl rfl (hr.mono (by decide)) rfl (me_gint rfl B.g_MOST_LIKE))) (ss_nil))
  (ss_cons (st_own sc_likenesses.nd rfl (by first | exact Or.inl rfl | exact Or.inr rfl) (fe_lst (ms_nil)) (show 2 ∉ ([] : List Nat) by decide))
  (ss_cons (st_for po rfl rfl (mi_seq rfl (me_cal c_orders_of rfl rfl hr tk rfl (ma_v (me_at (room1 hr) rfl (pv 0) (me_int)) (ma_nil)))) (tg_name sc_likenesses.nd rfl (by first | exact Or.inl rfl | exact Or.inr rfl) (show 3 ∉ ([] : List Nat) by decide)) (ss_cons (st_asg (me_cal c_named rfl rfl hr tk rfl (ma_v (me_var (pv 0)) (ma_v (me_var (pv 1)) (ma_v (me_var (pv 3)) (ma_nil))))) (tg_tup rfl (gs_cons (tg_name sc_likenesses.nd rfl (by first | exact Or.inl rfl | exact Or.inr rfl) (show 4 ∉ ([] : List Nat) by decide)) (gs_cons (tg_name sc_likenesses.nd rfl (by first | exact Or.inl rfl | exact Or.inr rfl) (show 5 ∉ ([] : List Nat) by decide)) (gs_nil))) rfl))
  (ss_cons (st_set sc_likenesses.nd rfl (by first | exact Or.inl rfl | exact Or.inr rfl) (me_op op_mod p_mod (me_op op_sub p_sub (me_at (room1 hr) rfl (pv 5) (me_int)) (me_at (room1 hr) rfl (pv 1) (me_int))) (me_gint rfl B.g_MOODS)) (show 6 ∉ ([] : List Nat) by decide))
  (ss_one (st_if (mt_bool (mw_and (mt_cmp (op_eqD (room64 hr)) p_eq (pv 4) (pv 0) (nomark _)) (mw_and1 (mt_val (me_fnB (cr_all rfl) p_all rfl B.b_all boot_all (mo_cons (me_of (fe_lc (own := [("one", 7), ("mood", 8)]) rfl sc_likenesses.nd (show ∀ v ∈ ([7, 8] : List Nat), v ∉ ([] : List Nat) by decide) (by decide) (mi_zip rfl rfl B.b_zip (ms_cons (me_var (pv 1)) (ms_cons (me_var (pv 5)) ms_nil))) (blkOk_by (by kernel_rfl)) (fun _ _ _ _ _ => tg_tup rfl (gs_cons (tg_name sc_likenesses.nd rfl (by first | exact Or.inl rfl | exact Or.inr rfl) (show 7 ∉ ([] : List Nat) by decide)) (gs_cons (tg_name sc_likenesses.nd rfl (by first | exact Or.inl rfl | exact Or.inr rfl) (show 8 ∉ ([] : List Nat) by decide)) (gs_nil))) rfl) (fun _ _ _ _ _ => mts_nil) (fun _ _ _ _ _ => me_cmp (op_eqD (room64 hr)) p_eq (me_op op_mod p_mod (me_op op_addA p_add (pv 7) (pv 6)) (me_gint rfl B.g_MOODS)) (pv 8) (nomark _)))) (mo_nil))))))) (ss_one (st_expr (me_app (pe_bm F.plainAttrs_list F.slot_list_append F.type_list_append mt_append (pv 2) (ms_cons (me_tup (ms_cons (me_var (pv 3)) (ms_cons (me_var (pv 6)) (ms_nil)))) ms_nil))))) (ss_nil))))))
  (ss_one (st_ret (me_fnT call_tuple_of p_tuple rfl B.b_tuple boot_tuple (mo_cons (pv 2) (mo_nil))))))))), hm, F1.kp, hb⟩
theorem sc__law_taken : FnScope ["_law_row", "_law_many", "_law_found", "_law_cell"] ["_law_row", "_law_many"] (defScope (top 38)) := ⟨rfl, rfl, rfl, by decide +kernel, rfl, by decide +kernel, by decide +kernel⟩
theorem ok__law_taken (B : Bs P w K mg) {f : Addr} {fd : FuncData} (F1 : Fun K "_law_taken" "_law_taken" (top 38) f fd) (hm : mg "_law_taken" = some (.ref f)) (hb : Binds K fd ["_law_row", "_law_many"] []) : Cal P w K mg base T "_law_taken" (0 + 1) 2 f__law_taken :=
  ⟨f, fd, ["_law_row", "_law_many"], fn_ok F1 sc__law_taken rfl (fun cdv A outer s H E W hr tk po =>
  ss_cons (st_if (mt_cmp op_gt p_gt (me_at (room1 hr) rfl (pv 0) (me_int)) (me_int) (nomark _)) (ss_cons (st_set sc__law_taken.nd rfl (by first | exact Or.inl rfl | exact Or.inr rfl) (me_op op_mod p_mod (me_fnT call_int1 p_int rfl B.b_int boot_int (mo_cons (me_at (room1 hr) rfl (pv 0) (me_int)) (mo_nil))) (pv 1)) (show 2 ∉ ([0] : List Nat) by decide))
  (ss_cons (st_asg (me_op op_fdivW p_fdiv (me_at (room1 hr) rfl (pv 0) (me_int)) (pv 1)) (tg_put (pg_sub (pv 0) (me_int) (set_any (room1 hr)))))
  (ss_one (st_ret (me_var (pv 2)))))) (ss_nil))
  (ss_cons (st_asg (me_op op_addA p_add (me_at (room1 hr) rfl (pv 0) (me_int)) (me_int)) (tg_put (pg_sub (pv 0) (me_int) (set_any (room1 hr)))))
  (ss_cons (st_if (mt_cmp op_gt p_gt (me_at (room1 hr) rfl (pv 0) (me_int)) (me_fnB call_lenA p_len rfl B.b_len PySem.boot_len (mo_cons (me_at (room1 hr) rfl (pv 0) (me_int)) (mo_nil))) (nomark _)) (ss_cons (st_asg (me_op op_mod p_mod (me_fnT call_int1 p_int rfl B.b_int boot_int (mo_cons (me_op op_addA p_add (me_op op_mulA p_mul (me_at (room1 hr) rfl (pv 0) (me_int)) (me_int)) (me_int)) (mo_nil))) (me_int)) (tg_put (pg_sub (pv 0) (me_int) (set_any (room1 hr)))))
  (ss_one (st_ret (me_op op_mod p_mod (me_fnT call_int1 p_int rfl B.b_int boot_int (mo_cons (me_op op_fdivW p_fdiv (me_at (room1 hr) rfl (pv 0) (me_int)) (me_int)) (mo_nil))) (pv 1))))) (ss_nil))
  (ss_cons (st_set sc__law_taken.nd rfl (by first | exact Or.inl rfl | exact Or.inr rfl) (me_at (room1 hr) rfl (me_at (room1 hr) rfl (pv 0) (me_int)) (me_op op_sub p_sub (me_at (room1 hr) rfl (pv 0) (me_int)) (me_int))) (show 3 ∉ ([0] : List Nat) by decide))
  (ss_cons (st_asg (me_op op_mod p_mod (me_fnT call_int1 p_int rfl B.b_int boot_int (mo_cons (me_op op_addA p_add (me_op op_addA p_add (me_op op_mulA p_mul (me_at (room1 hr) rfl (pv 0) (me_int)) (me_int)) (pv 3)) (me_int)) (mo_nil))) (me_int)) (tg_put (pg_sub (pv 0) (me_int) (set_any (room1 hr)))))
  (ss_cons (st_if (mt_cmp (op_ge.or (op_geT (room0 hr))) p_ge (pv 3) (me_op op_pow p_pow (me_int) (me_int)) (nomark _)) (ss_one (st_asg (me_op op_fdivW p_fdiv (pv 3) (pv 1)) (tg_put (pg_sub (pv 0) (me_int) (set_any (room1 hr)))))) (ss_nil))
  (ss_one (st_ret (me_op op_mod p_mod (me_fnT call_int1 p_int rfl B.b_int boot_int (mo_cons (pv 3) (mo_nil))) (pv 1)))))))))), hm, F1.kp, hb⟩
theorem sc__law_pick : FnScope ["_law_row", "_law_things"] ["_law_row", "_law_things"] (defScope (top 39)) := ⟨rfl, rfl, rfl, by decide +kernel, rfl, by decide +kernel, by decide +kernel⟩
theorem ok__law_pick (B : Bs P w K mg) (c__law_taken : Cal P w K mg base T "_law_taken" 1 2 f__law_taken) {f : Addr} {fd : FuncData} (F1 : Fun K "_law_pick" "_law_pick" (top 39) f fd) (hm : mg "_law_pick" = some (.ref f)) (hb : Binds K fd ["_law_row", "_law_things"] []) : Cal P w K mg base T "_law_pick" (1 + 1) 2 f__law_pick :=
  ⟨f, fd, ["_law_row", "_law_things"], fn_ok F1 sc__law_pick rfl (fun cdv A outer s H E W hr tk po =>
  ss_one (st_ret (me_at (room1 hr) rfl (pv 1) (me_cal c__law_taken rfl rfl hr tk rfl (ma_io (pv 0) (ma_v (me_fnB call_lenA p_len rfl B.b_len PySem.boot_len (mo_cons (pv 1) (mo_nil))) (ma_nil))))))), hm, F1.kp, hb⟩
theorem sc__law_alike : FnScope ["_law_found", "_law_due", "_law_k"] ["_law_found", "_law_due"] (defScope (top 40)) := ⟨rfl, rfl, rfl, by decide +kernel, rfl, by decide +kernel, by decide +kernel⟩
theorem ok__law_alike (B : Bs P w K mg) {k : Nat} (c__law_alike : Cal P w K mg base T "_law_alike" k 2 (f__law_alike k)) {f : Addr} {fd : FuncData} (F1 : Fun K "_law_alike" "_law_alike" (top 40) f fd) (hm : mg "_law_alike" = some (.ref f)) (hb : Binds K fd ["_law_found", "_law_due"] []) : Cal P w K mg base T "_law_alike" (k + 1) 2 (f__law_alike (k + 1)) :=
  ⟨f, fd, ["_law_found", "_law_due"], fn_ok F1 sc__law_alike rfl (fun cdv A outer s H E W hr tk po =>
  ss_cons (st_if (mt_val (me_isi2 rfl rfl B.b_isinstance rfl B.b_tuple boot_tuple rfl B.b_list boot_list (pv 1))) (ss_cons (st_if (mt_bool (mw_or (mt_not (mt_val (me_isi2 rfl rfl B.b_isinstance rfl B.b_tuple boot_tuple rfl B.b_list boot_list (pv 0)))) (mw_or1 (mt_cmp (op_neD (room64 hr)) p_ne (me_isi rfl rfl B.b_isinstance rfl B.b_list boot_list (pv 0)) (me_isi rfl rfl B.b_isinstance rfl B.b_list boot_list (pv 1)) (nomark _))))) (ss_one (st_ret (me_bl))) (ss_nil))
  (ss_cons (st_if (mt_cmp (op_neD (room64 hr)) p_ne (me_fnB call_lenA p_len rfl B.b_len PySem.boot_len (mo_cons (pv 0) (mo_nil))) (me_fnB call_lenA p_len rfl B.b_len PySem.boot_len (mo_cons (pv 1) (mo_nil))) (nomark _)) (ss_one (st_ret (me_bl))) (ss_nil))
  (ss_one (st_ret (me_cmp (op_eqD (room64 hr)) p_eq (me_of (fe_lc (own := [("_law_k", 2)]) rfl sc__law_alike.nd (show ∀ v ∈ ([2] : List Nat), v ∉ ([] : List Nat) by decide) (by decide) (mi_rng1 rfl B.b_range (mo_cons (me_fnB call_lenA p_len rfl B.b_len PySem.boot_len (mo_cons (pv 1) (mo_nil))) (mo_nil))) (blkOk_by (by kernel_rfl)) (fun _ _ _ _ _ => tg_name sc__law_alike.nd rfl (by first | exact Or.inl rfl | exact Or.inr rfl) (show 2 ∉ ([] : List Nat) by decide)) (fun _ _ _ _ _ => mts_one (mt_not (mt_val (me_cal c__law_alike rfl rfl hr takes_no rfl (ma_v (me_at (room1 hr) rfl (pv 0) (pv 2)) (ma_v (me_at (room1 hr) rfl (pv 1) (pv 2)) (ma_nil))) (Nat.le_refl _))))) (fun _ _ _ _ _ => me_var (pv 2)))) (me_of (fe_lst (ms_nil))) (nomark _)))))) (ss_nil))
  (ss_cons (st_if (mt_bool (mw_or (mt_cmp op_isN p_isN (pv 1) (me_non) (nomark _)) (mw_or1 (mt_val (me_isi rfl rfl B.b_isinstance rfl B.b_str boot_str (pv 1)))))) (ss_one (st_ret (me_and (me_cmp (op_eqD (room64 hr)) p_eq (pv 0) (pv 1) (nomark _)) (me_one (me_cmp (op_eqD (room64 hr)) p_eq (me_isi rfl rfl B.b_isinstance rfl B.b_str boot_str (pv 0)) (me_isi rfl rfl B.b_isinstance rfl B.b_str boot_str (pv 1)) (nomark _)))))) (ss_nil))
  (ss_one (st_ret (me_and (me_isi rfl rfl B.b_isinstance rfl B.b_int boot_int (pv 0)) (me_and (me_cmp (op_eqD (room64 hr)) p_eq (me_isi rfl rfl B.b_isinstance rfl B.b_bool boot_bool (pv 0)) (me_isi rfl rfl B.b_isinstance rfl B.b_bool boot_bool (pv 1)) (nomark _)) (me_one (me_cmp (op_eqD (room64 hr)) p_eq (pv 0) (pv 1) (nomark _))))))))), hm, F1.kp, hb⟩
theorem sc__law_web : FnScope ["_law_row", "_law_most", "_law_folk", "_law_way", "_law_found", "_law_one", "_law_turn", "_law_other"] ["_law_row", "_law_most"] (defScope (top 41)) := ⟨rfl, rfl, rfl, by decide +kernel, rfl, by decide +kernel, by decide +kernel⟩
theorem ok__law_web (B : Bs P w K mg) (c__law_taken : Cal P w K mg base T "_law_taken" 1 2 f__law_taken) {f : Addr} {fd : FuncData} (F1 : Fun K "_law_web" "_law_web" (top 41) f fd) (hm : mg "_law_web" = some (.ref f)) (hb : Binds K fd ["_law_row", "_law_most"] []) : Cal P w K mg base T "_law_web" (1 + 1) 2 f__law_web :=
  ⟨f, fd, ["_law_row", "_law_most"], fn_ok F1 sc__law_web rfl (fun cdv A outer s H E W hr tk po =>
  ss_cons (st_par3 rfl sc__law_web.nd rfl rfl rfl (by decide) (by decide) (by decide) rfl rfl rfl (mp_v (me_op op_addA p_add (me_int) (me_cal c__law_taken rfl rfl hr tk rfl (ma_io (pv 0) (ma_v (me_var (pv 1)) (ma_nil))))) (mp_v (me_cal c__law_taken rfl rfl hr tk rfl (ma_io (pv 0) (ma_v (me_int) (ma_nil)))) (mp_f (fe_dict0) (mp_nil)))) (show ∀ v ∈ ([2, 3, 4] : List Nat), v ∉ ([0] : List Nat) by decide) rfl rfl)
  (ss_cons (st_for po rfl rfl (mi_rng2 rfl B.b_range (mo_cons (me_int) (mo_cons (pv 2) (mo_nil)))) (tg_name sc__law_web.nd rfl (by first | exact Or.inl rfl | exact Or.inr rfl) (show 5 ∉ ([0] : List Nat) by decide)) (ss_one (st_if (mt_bool (mw_or (mt_cmp op_gt p_gt (pv 3) (me_int) (nomark _)) (mw_or1 (mt_cmp op_gt p_gt (me_cal c__law_taken rfl rfl hr tk rfl (ma_io (pv 0) (ma_v (me_int) (ma_nil)))) (me_int) (nomark _))))) (ss_one (st_asg (me_bl) (tg_put (pg_sub (pv 4) (me_tup (ms_cons (me_if (mt_cmp op_lt p_lt (pv 3) (me_int) (nomark _)) (me_op op_sub p_sub (pv 5) (me_int)) (me_cal c__law_taken rfl rfl hr tk rfl (ma_io (pv 0) (ma_v (me_var (pv 5)) (ma_nil))))) (ms_cons (me_var (pv 5)) (ms_nil)))) (set_any (room1 hr)))))) (ss_nil))))
  (ss_cons (st_if (mt_bool (mw_and (mt_cmp (op_inAny (room65 hr)) (p_inAny (f := id)) (pv 3) (me_of (fe_lst (ms_cons (me_int) (ms_cons (me_int) (ms_nil))))) (by with_unfolding_all rfl)) (mw_and1 (mt_cmp op_gt p_gt (pv 2) (me_int) (nomark _))))) (ss_one (st_asg (me_bl) (tg_put (pg_sub (pv 4) (me_tup (ms_cons (me_int) (ms_cons (me_op op_sub p_sub (pv 2) (me_int)) (ms_nil)))) (set_any (room1 hr)))))) (ss_nil))
  (ss_cons (st_for po rfl rfl (mi_rng1 rfl B.b_range (mo_cons (me_if (mt_cmp (op_neD (room64 hr)) p_ne (pv 3) (me_int) (nomark _)) (me_cal c__law_taken rfl rfl hr tk rfl (ma_io (pv 0) (ma_v (me_var (pv 2)) (ma_nil)))) (me_int)) (mo_nil))) (tg_name sc__law_web.nd rfl (by first | exact Or.inl rfl | exact Or.inr rfl) (show 6 ∉ ([0] : List Nat) by decide)) (ss_cons (st_par2 rfl sc__law_web.nd rfl rfl (by decide) rfl rfl (mp_v (me_cal c__law_taken rfl rfl hr tk rfl (ma_io (pv 0) (ma_v (me_var (pv 2)) (ma_nil)))) (mp_v (me_cal c__law_taken rfl rfl hr tk rfl (ma_io (pv 0) (ma_v (me_var (pv 2)) (ma_nil)))) (mp_nil))) (show ∀ v ∈ ([5, 7] : List Nat), v ∉ ([0] : List Nat) by decide) rfl rfl)
  (ss_one (st_if (mt_cmp (op_neD (room64 hr)) p_ne (pv 5) (pv 7) (nomark _)) (ss_one (st_asg (me_bl) (tg_put (pg_sub (pv 4) (me_tup (ms_cons (me_fnB (call_min2 rfl) p_min2 rfl B.b_min boot_min (mo_cons (pv 5) (mo_cons (pv 7) (mo_nil)))) (ms_cons (me_fnB (call_max2 rfl) p_max2 rfl B.b_max boot_max (mo_cons (pv 5) (mo_cons (pv 7) (mo_nil)))) (ms_nil)))) (set_any (room1 hr)))))) (ss_nil)))))
  (ss_one (st_ret (me_tup (ms_cons (me_var (pv 2)) (ms_cons (me_fnT call_tuple_of p_tuple rfl B.b_tuple boot_tuple (mo_cons (me_of (fe_sort rfl rfl B.b_sorted (mo_cons (me_of (fe_keys rfl rfl rfl B.b_list (mo_cons (pv 4) (mo_nil)))) (mo_nil)))) (mo_nil))) (ms_nil)))))))))), hm, F1.kp, hb⟩
theorem sc__law_state : FnScope ["_law_row", "_law_web_here", "_law_way", "_law_found", "_law_one", "_law_drawn"] ["_law_row", "_law_web_here"] (defScope (top 42)) := ⟨rfl, rfl, rfl, by decide +kernel, rfl, by decide +kernel, by decide +kernel⟩
theorem ok__law_state (B : Bs P w K mg) (c__law_taken : Cal P w K mg base T "_law_taken" 1 2 f__law_taken) {f : Addr} {fd : FuncData} (F1 : Fun K "_law_state" "_law_state" (top 42) f fd) (hm : mg "_law_state" = some (.ref f)) (hb : Binds K fd ["_law_row", "_law_web_here"] []) : Cal P w K mg base T "_law_state" (1 + 1) 2 f__law_state :=
  ⟨f, fd, ["_law_row", "_law_web_here"], fn_ok F1 sc__law_state rfl (fun cdv A outer s H E W hr tk po =>
  ss_cons (st_par2 rfl sc__law_state.nd rfl rfl (by decide) rfl rfl (mp_v (me_cal c__law_taken rfl rfl hr tk rfl (ma_io (pv 0) (ma_v (me_int) (ma_nil)))) (mp_f (fe_lst (ms_nil)) (mp_nil))) (show ∀ v ∈ ([2, 3] : List Nat), v ∉ ([0] : List Nat) by decide) rfl rfl)
  (ss_cons (st_for po rfl rfl (mi_rng1 rfl B.b_range (mo_cons (me_at (room1 hr) rfl (pv 1) (me_int)) (mo_nil))) (tg_name sc__law_state.nd rfl (by first | exact Or.inl rfl | exact Or.inr rfl) (show 4 ∉ ([0] : List Nat) by decide)) (ss_cons (st_set sc__law_state.nd rfl (by first | exact Or.inl rfl | exact Or.inr rfl) (me_cal c__law_taken rfl rfl hr tk rfl (ma_io (pv 0) (ma_v (me_int) (ma_nil)))) (show 5 ∉ ([0] : List Nat) by decide))
  (ss_one (st_expr (me_app (pe_bm F.plainAttrs_list F.slot_list_append F.type_list_append mt_append (pv 3) (ms_cons (me_if (mt_cmp op_gt p_gt (pv 2) (me_int) (nomark _)) (me_var (pv 5)) (me_op op_mod p_mod (me_fnT call_int1 p_int rfl B.b_int boot_int (mo_cons (me_op op_addA p_add (pv 4) (me_fnT call_int1 p_int rfl B.b_int boot_int (mo_cons (me_cmp (op_eqD (room64 hr)) p_eq (pv 5) (me_int) (nomark _)) (mo_nil)))) (mo_nil))) (me_int))) ms_nil)))))))
  (ss_one (st_ret (me_fnT call_tuple_of p_tuple rfl B.b_tuple boot_tuple (mo_cons (pv 3) (mo_nil))))))), hm, F1.kp, hb⟩
theorem sc__law_orders : FnScope ["_law_many", "_law_found", "_law_turn", "_law_longer", "_law_order", "_law_one"] ["_law_many"] (defScope (top 44)) := ⟨rfl, rfl, rfl, by decide +kernel, rfl, by decide +kernel, by decide +kernel⟩
theorem ok__law_orders (B : Bs P w K mg) {f : Addr} {fd : FuncData} (F1 : Fun K "_law_orders" "_law_orders" (top 44) f fd) (hm : mg "_law_orders" = some (.ref f)) (hb : Binds K fd ["_law_many"] []) : Cal P w K mg base T "_law_orders" (0 + 1) 1 f__law_orders :=
  ⟨f, fd, ["_law_many"], fn_ok F1 sc__law_orders rfl (fun cdv A outer s H E W hr tk po =>
  ss_cons (st_set sc__law_orders.nd rfl (by first | exact Or.inl rfl | exact Or.inr rfl) (me_of (fe_lst (ms_cons (me_tup (ms_nil)) (ms_nil)))) (show 1 ∉ ([] : List Nat) by decide))
  (ss_cons (st_for po rfl rfl (mi_rng1 rfl B.b_range (mo_cons (pv 0) (mo_nil))) (tg_name sc__law_orders.nd rfl (by first | exact Or.inl rfl | exact Or.inr rfl) (show 2 ∉ ([] : List Nat) by decide)) (ss_cons (st_set sc__law_orders.nd rfl (by first | exact Or.inl rfl | exact Or.inr rfl) (me_of (fe_lst (ms_nil))) (show 3 ∉ ([] : List Nat) by decide))
  (ss_cons (st_for po rfl rfl (mi_seq rfl (me_var (pv 1))) (tg_name sc__law_orders.nd rfl (by first | exact Or.inl rfl | exact Or.inr rfl) (show 4 ∉ ([] : List Nat) by decide)) (ss_one (st_set sc__law_orders.nd rfl (by first | exact Or.inl rfl | exact Or.inr rfl) (me_of (fe_op op_cat p_cat (pv 3) (me_of (fe_lc (own := [("_law_one", 5)]) rfl sc__law_orders.nd (show ∀ v ∈ ([5] : List Nat), v ∉ ([] : List Nat) by decide) (by decide) (mi_rng1 rfl B.b_range (mo_cons (pv 0) (mo_nil))) (blkOk_by (by kernel_rfl)) (fun _ _ _ _ _ => tg_name sc__law_orders.nd rfl (by first | exact Or.inl rfl | exact Or.inr rfl) (show 5 ∉ ([] : List Nat) by decide)) (fun _ _ _ _ _ => mts_one (mt_cmp (op_notInAny (room65 hr)) (p_inAny (f := not)) (pv 5) (pv 4) (by with_unfolding_all rfl))) (fun _ _ _ _ _ => me_snoc rfl (me_var (pv 4)) (me_var (pv 5))))))) (show 3 ∉ ([] : List Nat) by decide))))
  (ss_one (st_set sc__law_orders.nd rfl (by first | exact Or.inl rfl | exact Or.inr rfl) (me_var (pv 3)) (show 1 ∉ ([] : List Nat) by decide))))))
  (ss_one (st_ret (me_var (pv 1)))))), hm, F1.kp, hb⟩
theorem sc__law_named : FnScope ["_law_web_here", "_law_state_here", "_law_order", "_law_some", "_law_a", "_law_b", "_law_pair", "_law_one"] ["_law_web_here", "_law_state_here", "_law_order"] (defScope (top 45)) := ⟨rfl, rfl, rfl, by decide +kernel, rfl, by decide +kernel, by decide +kernel⟩
theorem ok__law_named (B : Bs P w K mg) {f : Addr} {fd : FuncData} (F1 : Fun K "_law_named" "_law_named" (top 45) f fd) (hm : mg "_law_named" = some (.ref f)) (hb : Binds K fd ["_law_web_here", "_law_state_here", "_law_order"] []) : Cal P w K mg base T "_law_named" (0 + 1) 3 f__law_named :=
  ⟨f, fd, ["_law_web_here", "_law_state_here", "_law_order"], fn_ok F1 sc__law_named rfl (fun cdv A outer s H E W hr tk po =>
  ss_cons (st_set sc__law_named.nd rfl (by first | exact Or.inl rfl | exact Or.inr rfl) (me_of (fe_lst (ms_nil))) (show 3 ∉ ([] : List Nat) by decide))
  (ss_cons (st_for po rfl rfl (mi_rng1 rfl B.b_range (mo_cons (me_at (room1 hr) rfl (pv 0) (me_int)) (mo_nil))) (tg_name sc__law_named.nd rfl (by first | exact Or.inl rfl | exact Or.inr rfl) (show 4 ∉ ([] : List Nat) by decide)) (ss_one (st_for po rfl rfl (mi_rng2 rfl B.b_range (mo_cons (me_op op_addA p_add (pv 4) (me_int)) (mo_cons (me_at (room1 hr) rfl (pv 0) (me_int)) (mo_nil)))) (tg_name sc__law_named.nd rfl (by first | exact Or.inl rfl | exact Or.inr rfl) (show 5 ∉ ([] : List Nat) by decide)) (ss_cons (st_set sc__law_named.nd rfl (by first | exact Or.inl rfl | exact Or.inr rfl) (me_fnT call_tuple_of p_tuple rfl B.b_tuple boot_tuple (mo_cons (me_of (fe_sort rfl rfl B.b_sorted (mo_cons (me_of (fe_lst (ms_cons (me_at (room1 hr) rfl (pv 2) (pv 4)) (ms_cons (me_at (room1 hr) rfl (pv 2) (pv 5)) (ms_nil))))) (mo_nil)))) (mo_nil))) (show 6 ∉ ([] : List Nat) by decide))
  (ss_one (st_set sc__law_named.nd rfl (by first | exact Or.inl rfl | exact Or.inr rfl) (me_op op_addA p_add (pv 3) (me_if (mt_cmp (op_inAny (room65 hr)) (p_inAny (f := id)) (pv 6) (me_at (room1 hr) rfl (pv 0) (me_int)) (by with_unfolding_all rfl)) (me_of (fe_lst (ms_cons (me_tup (ms_cons (me_var (pv 4)) (ms_cons (me_var (pv 5)) (ms_nil)))) (ms_nil)))) (me_of (fe_lst (ms_nil))))) (show 3 ∉ ([] : List Nat) by decide)))))))
  (ss_one (st_ret (me_tup (ms_cons (me_tup (ms_cons (me_at (room1 hr) rfl (pv 0) (me_int)) (ms_cons (me_fnT call_tuple_of p_tuple rfl B.b_tuple boot_tuple (mo_cons (me_of (fe_sort rfl rfl B.b_sorted (mo_cons (pv 3) (mo_nil)))) (mo_nil))) (ms_nil)))) (ms_cons (me_fnT call_tuple_of p_tuple rfl B.b_tuple boot_tuple (mo_cons (me_of (fe_lc (own := [("_law_one", 7)]) rfl sc__law_named.nd (show ∀ v ∈ ([7] : List Nat), v ∉ ([] : List Nat) by decide) (by decide) (mi_seq rfl (me_var (pv 2))) (blkOk_by (by kernel_rfl)) (fun _ _ _ _ _ => tg_name sc__law_named.nd rfl (by first | exact Or.inl rfl | exact Or.inr rfl) (show 7 ∉ ([] : List Nat) by decide)) (fun _ _ _ _ _ => mts_nil) (fun _ _ _ _ _ => me_at (room1 hr) rfl (pv 1) (pv 7)))) (mo_nil))) (ms_nil)))))))), hm, F1.kp, hb⟩
theorem sc_law : FnScope ["_law_script", "_law_row", "_law_web_here", "_law_state_here", "_law_folk", "_law_streets", "_law_a", "_law_b", "_law_pair", "_law_moods", "_law_turn", "_law_less", "_law_street", "_law_many", "_law_line", "_law_more", "_law_x", "_law_y", "_law_bad", "_law_other", "_law_due", "_law_good", "_law_order", "_law_mate", "_law_mood", "_law_odd"] ["_law_script"] (defScope (top 46)) := ⟨rfl, rfl, rfl, by decide +kernel, rfl, by decide +kernel, by decide +kernel⟩
theorem ok_law (B : Bs P w K mg) (hE : Errs K mg) {tbA : Addr} (c_with_street : Cal P w K mg base [(tbA, (("law" : Str) ++ ".<locals>.") ++ "<lambda>")] "with_street" 4 3 f_with_street) (c_without_street : Cal P w K mg base [(tbA, (("law" : Str) ++ ".<locals>.") ++ "<lambda>")] "without_street" 4 3 f_without_street) (c_joined : Cal P w K mg base [(tbA, (("law" : Str) ++ ".<locals>.") ++ "<lambda>")] "joined" 4 2 f_joined) (c_stretched : Cal P w K mg base [(tbA, (("law" : Str) ++ ".<locals>.") ++ "<lambda>")] "stretched" 5 5 f_stretched) (c_renamed : Cal P w K mg base [(tbA, (("law" : Str) ++ ".<locals>.") ++ "<lambda>")] "renamed" 5 3 f_renamed) (c_likenesses : Cal P w K mg base [(tbA, (("law" : Str) ++ ".<locals>.") ++ "<lambda>")] "likenesses" 5 2 f_likenesses) (c__law_taken : Cal P w K mg base [(tbA, (("law" : Str) ++ ".<locals>.") ++ "<lambda>")] "_law_taken" 1 2 f__law_taken) (c__law_pick : Cal P w K mg base [(tbA, (("law" : Str) ++ ".<locals>.") ++ "<lambda>")] "_law_pick" 2 2 f__law_pick) (c__law_alike : Cal P w K mg base [(tbA, (("law" : Str) ++ ".<locals>.") ++ "<lambda>")] "_law_alike" 61 2 (f__law_alike 50)) (c__law_web : Cal P w K mg base [(tbA, (("law" : Str) ++ ".<locals>.") ++ "<lambda>")] "_law_web" 2 2 f__law_web) (c__law_state : Cal P w K mg base [(tbA, (("law" : Str) ++ ".<locals>.") ++ "<lambda>")] "_law_state" 2 2 f__law_state) (c__law_orders : Cal P w K mg base [(tbA, (("law" : Str) ++ ".<locals>.") ++ "<lambda>")] "_law_orders" 1 1 f__law_orders) (c__law_named : Cal P w K mg base [(tbA, (("law" : Str) ++ ".<locals>.") ++ "<lambda>")] "_law_named" 1 3 f__law_named) {f g co : Addr} {gd : FuncData} {oc : Value} {od an : Option Addr} {kV doc pm ct : Value} {osl : Array (Option Value)} (TB : TabB base mg co tbA) (Fr : Fun K "_law_refused" "_law_refused" (top 43) g gd) (hmr : mg "_law_refused" = some (.ref g)) (hbr : Binds K gd ["_law_work"] []) (lkl : K.lookup f = some ⟨oc, od, .func (PySem.W.fnOf "law" "law" (defArgs (top 46)) (defBody (top 46)) (defScope (top 46)) .none kV doc pm an (.ref co) ct), osl⟩) (hcl : PySem.W.codeIn K (.ref co) "law" = true) (hk : PySem.W.keepIn K (.ref f) = true) :
  FnOk P w K mg base (L2.CX P w) (63 + 1) f (PySem.W.fnOf "law" "law" (defArgs (top 46)) (defBody (top 46)) (defScope (top 46)) .none kV doc pm an (.ref co) ct) ["_law_script"] (spM K [(tbA, (("law" : Str) ++ ".<locals>.") ++ "<lambda>")] mg 1 f_law) := by
  obtain ⟨ocr, odr, kVr, docr, pmr, anr, cdr, ctr, oslr, rfl, lkr, hcr⟩ := Fr.ex
  exact fn_okC lkl hcl sc_law rfl (fun A outer s H E W hr tk po =>
  ss_cons (st_own sc_law.nd rfl (by first | exact Or.inl rfl | exact Or.inr rfl) (fe_lst (ms_cons (me_var (pv 0)) (ms_cons (me_int) (ms_cons (me_int) (ms_cons (me_int) (ms_nil)))))) (show 1 ∉ ([] : List Nat) by decide))
  (ss_cons (st_set sc_law.nd rfl (by first | exact Or.inl rfl | exact Or.inr rfl) (me_cal c__law_web rfl rfl hr tk rfl (ma_io (pv 1) (ma_v (me_int) (ma_nil)))) (show 2 ∉ ([] : List Nat) by decide))
  (ss_cons (st_parT rfl rfl (mp_v (me_cal c__law_state rfl rfl hr tk rfl (ma_io (pv 1) (ma_v (me_var (pv 2)) (ma_nil)))) (mp_v (me_at (room1 hr) rfl (pv 2) (me_int)) (mp_v (me_at (room1 hr) rfl (pv 2) (me_int)) (mp_nil)))) (gt_nm sc_law.nd rfl (by first | exact Or.inl rfl | exact Or.inr rfl) (gt_nm sc_law.nd rfl (by first | exact Or.inl rfl | exact Or.inr rfl) (gt_nm sc_law.nd rfl (by first | exact Or.inl rfl | exact Or.inr rfl) (gt_nil)))) (fun t ht i e => by subst e; revert ht; exact (show ∀ (i : Nat), PT.nm i ∈ ([.nm 3, .nm 4, .nm 5] : List PT) → i ∉ ([] : List Nat) by intro i h; first | (simp; done) | (simp at h; simp; omega)) i))
  (ss_cons (st_parT rfl rfl (mp_v (me_cal c__law_taken rfl rfl hr tk rfl (ma_io (pv 1) (ma_v (me_var (pv 4)) (ma_nil)))) (mp_v (me_cal c__law_taken rfl rfl hr tk rfl (ma_io (pv 1) (ma_v (me_var (pv 4)) (ma_nil)))) (mp_nil))) (gt_nm sc_law.nd rfl (by first | exact Or.inl rfl | exact Or.inr rfl) (gt_nm sc_law.nd rfl (by first | exact Or.inl rfl | exact Or.inr rfl) (gt_nil))) (fun t ht i e => by subst e; revert ht; exact (show ∀ (i : Nat), PT.nm i ∈ ([.nm 6, .nm 7] : List PT) → i ∉ ([] : List Nat) by intro i h; first | (simp; done) | (simp at h; simp; omega)) i))
  (ss_cons (st_set sc_law.nd rfl (by first | exact Or.inl rfl | exact Or.inr rfl) (me_tup (ms_cons (me_fnB (call_min2 rfl) p_min2 rfl B.b_min boot_min (mo_cons (pv 6) (mo_cons (pv 7) (mo_nil)))) (ms_cons (me_fnB (call_max2 rfl) p_max2 rfl B.b_max boot_max (mo_cons (pv 6) (mo_cons (pv 7) (mo_nil)))) (ms_nil)))) (show 8 ∉ ([] : List Nat) by decide))
  (ss_cons (st_if (mt_bool (mw_or (mt_cmp (op_eqD (room64 hr)) p_eq (pv 6) (pv 7) (nomark _)) (mw_or1 (mt_cmp (op_inAny (room65 hr)) (p_inAny (f := id)) (pv 8) (pv 5) (by with_unfolding_all rfl))))) (ss_one (st_if (mt_cmp (op_neD (room64 hr)) p_ne (me_lam (k := 4) rfl hmr Fr.kp lkr hcr hbr sc_ref rfl (Or.inl rfl) (ref_gives hE B.b_isinstance).to TB rfl (List.mem_singleton.mpr rfl) (fun t ht _ => by rw [List.mem_singleton.mp ht]; rfl) (hr.mono (by decide)) (lamS_by (by kernel_rfl)) rfl (fun _ _ _ _ _ => rfl) rfl (fun A outer s H E f d hr => me_cal c_with_street rfl rfl hr (L2.takes_of rfl rfl rfl rfl) rfl (ma_v (me_var (pv 2)) (ma_v (me_var (pv 6)) (ma_v (me_var (pv 7)) (ma_nil)))))) (me_str) (nomark _)) (ss_one (st_ret (me_bl))) (ss_nil))) (ss_one (st_if (mt_not (mt_val (me_cal c__law_alike rfl rfl hr tk rfl (ma_v (me_cal c_with_street rfl rfl hr tk rfl (ma_v (me_var (pv 2)) (ma_v (me_var (pv 6)) (ma_v (me_var (pv 7)) (ma_nil))))) (ma_v (me_tup (ms_cons (me_var (pv 4)) (ms_cons (me_fnT call_tuple_of p_tuple rfl B.b_tuple boot_tuple (mo_cons (me_of (fe_sortM (room65 hr) rfl rfl B.b_sorted (mo_cons (me_op op_addA p_add (pv 5) (me_tup (ms_cons (me_var (pv 8)) (ms_nil)))) (mo_nil)))) (mo_nil))) (ms_nil)))) (ma_nil)))))) (ss_one (st_ret (me_bl))) (ss_nil))))
  (ss_cons (st_set sc_law.nd rfl (by first | exact Or.inl rfl | exact Or.inr rfl) (me_fnT call_tuple_of p_tuple rfl B.b_tuple boot_tuple (mo_cons (me_of (fe_lc (own := [("_law_turn", 10)]) rfl sc_law.nd (show ∀ v ∈ ([10] : List Nat), v ∉ ([] : List Nat) by decide) (by decide) (mi_rng1 rfl B.b_range (mo_cons (me_op op_addA p_add (me_int) (me_cal c__law_taken rfl rfl hr tk rfl (ma_io (pv 1) (ma_v (me_int) (ma_nil))))) (mo_nil))) (blkOk_by (by kernel_rfl)) (fun _ _ _ _ _ => tg_name sc_law.nd rfl (by first | exact Or.inl rfl | exact Or.inr rfl) (show 10 ∉ ([] : List Nat) by decide)) (fun _ _ _ _ _ => mts_nil) (fun _ _ _ _ _ => me_cal c__law_taken rfl rfl hr takes_no rfl (ma_io (pv 1) (ma_v (me_int) (ma_nil)))))) (mo_nil))) (show 9 ∉ ([] : List Nat) by decide))
  (ss_cons (st_set sc_law.nd rfl (by first | exact Or.inl rfl | exact Or.inr rfl) (me_fnT call_tuple_of p_tuple rfl B.b_tuple boot_tuple (mo_cons (me_of (fe_lc (own := [("_law_street", 12)]) rfl sc_law.nd (show ∀ v ∈ ([12] : List Nat), v ∉ ([] : List Nat) by decide) (by decide) (mi_seq rfl (me_var (pv 5))) (blkOk_by (by kernel_rfl)) (fun _ _ _ _ _ => tg_name sc_law.nd rfl (by first | exact Or.inl rfl | exact Or.inr rfl) (show 12 ∉ ([] : List Nat) by decide)) (fun _ _ _ _ _ => mts_one (mt_cmp (op_neD (room64 hr)) p_ne (pv 12) (pv 8) (nomark _))) (fun _ _ _ _ _ => me_var (pv 12)))) (mo_nil))) (show 11 ∉ ([] : List Nat) by decide))
  (ss_cons (st_if (mt_cmp (op_notInAny (room65 hr)) (p_inAny (f := not)) (pv 8) (pv 5) (by with_unfolding_all rfl)) (ss_one (st_if (mt_cmp (op_neD (room64 hr)) p_ne (me_of (fe_lst (ms_cons (me_lam (k := 4) rfl hmr Fr.kp lkr hcr hbr sc_ref rfl (Or.inl rfl) (ref_gives hE B.b_isinstance).to TB rfl (List.mem_singleton.mpr rfl) (fun t ht _ => by rw [List.mem_singleton.mp ht]; rfl) (hr.mono (by decide)) (lamS_by (by kernel_rfl)) rfl (fun _ _ _ _ _ => rfl) rfl (fun A outer s H E f d hr => me_cal c_without_street rfl rfl hr (L2.takes_of rfl rfl rfl rfl) rfl (ma_v (me_var (pv 2)) (ma_v (me_var (pv 6)) (ma_v (me_var (pv 7)) (ma_nil)))))) (ms_cons (me_lamN (k := 5) (N1 := (["_law_script", "_law_row", "_law_web_here", "_law_state_here", "_law_folk", "_law_streets", "_law_a", "_law_b", "_law_pair", "_law_moods", "_law_turn", "_law_less", "_law_street", "_law_many", "_law_line", "_law_more", "", "_law_y", "_law_bad", "_law_other", "_law_due", "_law_good", "_law_order", "_law_mate", "_law_mood", "_law_odd"] : List Str)) rfl hmr Fr.kp lkr hcr hbr sc_ref rfl (Or.inl rfl) (ref_gives hE B.b_isinstance) (mk_dfltN (N1 := (["_law_script", "_law_row", "_law_web_here", "_law_state_here", "_law_folk", "_law_streets", "_law_a", "_law_b", "_law_pair", "_law_moods", "_law_turn", "_law_less", "_law_street", "_law_many", "_law_line", "_law_more", "", "_law_y", "_law_bad", "_law_other", "_law_due", "_law_good", "_law_order", "_law_mate", "_law_mood", "_law_odd"] : List Str)) TB rfl (List.mem_singleton.mpr rfl) (fun t ht _ => by rw [List.mem_singleton.mp ht]; rfl) (lamD_by (by kernel_rfl)) rfl rfl (fun _ _ _ _ _ _ _ _ => ⟨_, rfl, rfl⟩)) (hr.mono (by decide)) (lamD_by (by kernel_rfl)) rfl rfl (bn_one rfl) rfl (fun A outer s H E f d hr => me_cal c_stretched rfl rfl hr (L2.takes_of rfl rfl rfl rfl) rfl (ma_v (me_var (pv 2)) (ma_v (me_var (pv 3)) (ma_v (me_var (pv 6)) (ma_v (me_var (pv 7)) (ma_v (me_var (pv 9)) (ma_nil)))))))) (ms_nil))))) (me_of (fe_op op_rep p_repL (me_of (fe_lst (ms_cons (me_str) (ms_nil)))) (me_int))) (nomark _)) (ss_one (st_ret (me_bl))) (ss_nil))) (ss_cons (st_if (mt_not (mt_val (me_cal c__law_alike rfl rfl hr tk rfl (ma_v (me_cal c_without_street rfl rfl hr tk rfl (ma_v (me_var (pv 2)) (ma_v (me_var (pv 6)) (ma_v (me_var (pv 7)) (ma_nil))))) (ma_v (me_tup (ms_cons (me_var (pv 4)) (ms_cons (me_var (pv 11)) (ms_nil)))) (ma_nil)))))) (ss_one (st_ret (me_bl))) (ss_nil))
  (ss_cons (st_par2 rfl sc_law.nd rfl rfl (by decide) rfl rfl (mp_v (me_op op_addA p_add (pv 4) (me_fnB call_lenA p_len rfl B.b_len PySem.boot_len (mo_cons (pv 9) (mo_nil)))) (mp_v (me_of (fe_op op_cat p_cat (me_of (fe_op op_cat p_cat (me_of (fe_lst (ms_cons (me_var (pv 6)) (ms_nil)))) (me_of (fe_listRg2 rfl rfl B.b_list rfl B.b_range (pv 4) (me_op op_addA p_add (pv 4) (me_fnB call_lenA p_len rfl B.b_len PySem.boot_len (mo_cons (pv 9) (mo_nil)))))))) (me_of (fe_lst (ms_cons (me_var (pv 7)) (ms_nil)))))) (mp_nil))) (show ∀ v ∈ ([13, 14] : List Nat), v ∉ ([] : List Nat) by decide) rfl rfl)
  (ss_cons (st_ownLc rfl sc_law.nd rfl rfl (show 15 ∉ ([] : List Nat) by decide) (own := [("_law_x", 16), ("_law_y", 17)]) (show ∀ v ∈ ([16, 17] : List Nat), v ∉ ([] : List Nat) by decide) (by decide)  rfl (mi_zip rfl rfl B.b_zip (ms_cons (me_var (pv 14)) (ms_cons (me_cut rfl (pv 14) (po_at (me_int)) (po_no)) ms_nil))) (blkOk_by (by kernel_rfl)) (fun _ _ _ _ _ => tg_tup rfl (gs_cons (tg_name sc_law.nd rfl (by first | exact Or.inl rfl | exact Or.inr rfl) (show 16 ∉ ([] : List Nat) by decide)) (gs_cons (tg_name sc_law.nd rfl (by first | exact Or.inl rfl | exact Or.inr rfl) (show 17 ∉ ([] : List Nat) by decide)) (gs_nil))) rfl) (fun _ _ _ _ _ => mts_nil) (fun _ _ _ _ _ => me_tup (ms_cons (me_fnB (call_min2 rfl) p_min2 rfl B.b_min boot_min (mo_cons (pv 16) (mo_cons (pv 17) (mo_nil)))) (ms_cons (me_fnB (call_max2 rfl) p_max2 rfl B.b_max boot_max (mo_cons (pv 16) (mo_cons (pv 17) (mo_nil)))) (ms_nil)))))
  (ss_cons (st_if (mt_cmp op_gt p_gt (pv 13) (me_int) (nomark _)) (ss_one (st_if (mt_cmp (op_neD (room64 hr)) p_ne (me_lam (k := 5) rfl hmr Fr.kp lkr hcr hbr sc_ref rfl (Or.inl rfl) (ref_gives hE B.b_isinstance).to TB rfl (List.mem_singleton.mpr rfl) (fun t ht _ => by rw [List.mem_singleton.mp ht]; rfl) (hr.mono (by decide)) (lamS_by (by kernel_rfl)) rfl (fun _ _ _ _ _ => rfl) rfl (fun A outer s H E f d hr => me_cal c_stretched rfl rfl hr (L2.takes_of rfl rfl rfl rfl) rfl (ma_v (me_var (pv 2)) (ma_v (me_var (pv 3)) (ma_v (me_var (pv 6)) (ma_v (me_var (pv 7)) (ma_v (me_var (pv 9)) (ma_nil)))))))) (me_tup (ms_cons (me_str) (ms_cons (me_int) (ms_nil)))) (nomark _)) (ss_one (st_ret (me_bl))) (ss_nil))) (ss_one (st_if (mt_not (mt_val (me_cal c__law_alike rfl rfl hr tk rfl (ma_v (me_cal c_stretched rfl rfl hr tk rfl (ma_v (me_var (pv 2)) (ma_v (me_var (pv 3)) (ma_v (me_var (pv 6)) (ma_v (me_var (pv 7)) (ma_v (me_var (pv 9)) (ma_nil))))))) (ma_v (me_tup (ms_cons (me_tup (ms_cons (me_var (pv 13)) (ms_cons (me_fnT call_tuple_of p_tuple rfl B.b_tuple boot_tuple (mo_cons (me_of (fe_sort rfl rfl B.b_sorted (mo_cons (me_of (fe_op op_cat p_cat (me_of (fe_list rfl rfl B.b_list (mo_cons (pv 11) (mo_nil)))) (pv 15))) (mo_nil)))) (mo_nil))) (ms_nil)))) (ms_cons (me_op op_addA p_add (pv 3) (pv 9)) (ms_nil)))) (ma_nil)))))) (ss_one (st_ret (me_bl))) (ss_nil))))
  (ss_one (st_for po rfl rfl (mi_seq rfl (me_of (fe_lst (ms_cons (me_non) (ms_cons (me_tup (ms_nil)) (ms_cons (me_of (fe_list rfl rfl B.b_list (mo_cons (pv 9) (mo_nil)))) (ms_cons (me_tup (ms_cons (me_int) (ms_nil))) (ms_cons (me_tup (ms_cons (me_bl) (ms_nil))) (ms_cons (me_op op_repTA p_repTA (me_tup (ms_cons (me_int) (ms_nil))) (me_int)) (ms_cons (me_str) (ms_nil))))))))))) (tg_name sc_law.nd rfl (by first | exact Or.inl rfl | exact Or.inr rfl) (show 18 ∉ ([] : List Nat) by decide)) (ss_one (st_if (mt_cmp (op_neD (room64 hr)) p_ne (me_lam (k := 5) rfl hmr Fr.kp lkr hcr hbr sc_ref rfl (Or.inl rfl) (ref_gives hE B.b_isinstance).to TB rfl (List.mem_singleton.mpr rfl) (fun t ht _ => by rw [List.mem_singleton.mp ht]; rfl) (hr.mono (by decide)) (lamS_by (by kernel_rfl)) rfl (fun _ _ _ _ _ => rfl) rfl (fun A outer s H E f d hr => me_cal c_stretched rfl rfl hr (L2.takes_of rfl rfl rfl rfl) rfl (ma_v (me_var (pv 2)) (ma_v (me_var (pv 3)) (ma_v (me_var (pv 6)) (ma_v (me_var (pv 7)) (ma_v (me_var (pv 18)) (ma_nil)))))))) (me_str) (nomark _)) (ss_one (st_ret (me_bl))) (ss_nil))))))))))
  (ss_cons (st_set sc_law.nd rfl (by first | exact Or.inl rfl | exact Or.inr rfl) (me_cal c__law_web rfl rfl hr tk rfl (ma_io (pv 1) (ma_v (me_int) (ma_nil)))) (show 19 ∉ ([] : List Nat) by decide))
  (ss_cons (st_set sc_law.nd rfl (by first | exact Or.inl rfl | exact Or.inr rfl) (me_tup (ms_cons (me_op op_addA p_add (pv 4) (me_at (room1 hr) rfl (pv 19) (me_int))) (ms_cons (me_op op_addA p_add (pv 5) (me_fnT call_tuple_of p_tuple rfl B.b_tuple boot_tuple (mo_cons (me_of (fe_lc (own := [("_law_x", 16), ("_law_y", 17)]) rfl sc_law.nd (show ∀ v ∈ ([16, 17] : List Nat), v ∉ ([] : List Nat) by decide) (by decide) (mi_seq rfl (me_at (room1 hr) rfl (pv 19) (me_int))) (blkOk_by (by kernel_rfl)) (fun _ _ _ _ _ => tg_tup rfl (gs_cons (tg_name sc_law.nd rfl (by first | exact Or.inl rfl | exact Or.inr rfl) (show 16 ∉ ([] : List Nat) by decide)) (gs_cons (tg_name sc_law.nd rfl (by first | exact Or.inl rfl | exact Or.inr rfl) (show 17 ∉ ([] : List Nat) by decide)) (gs_nil))) rfl) (fun _ _ _ _ _ => mts_nil) (fun _ _ _ _ _ => me_tup (ms_cons (me_op op_addA p_add (pv 16) (pv 4)) (ms_cons (me_op op_addA p_add (pv 17) (pv 4)) (ms_nil)))))) (mo_nil)))) (ms_nil)))) (show 20 ∉ ([] : List Nat) by decide))
  (ss_cons (st_if (mt_cmp op_gt p_gt (me_at (room1 hr) rfl (pv 20) (me_int)) (me_int) (nomark _)) (ss_one (st_if (mt_cmp (op_neD (room64 hr)) p_ne (me_lam (k := 4) rfl hmr Fr.kp lkr hcr hbr sc_ref rfl (Or.inl rfl) (ref_gives hE B.b_isinstance).to TB rfl (List.mem_singleton.mpr rfl) (fun t ht _ => by rw [List.mem_singleton.mp ht]; rfl) (hr.mono (by decide)) (lamS_by (by kernel_rfl)) rfl (fun _ _ _ _ _ => rfl) rfl (fun A outer s H E f d hr => me_cal c_joined rfl rfl hr (L2.takes_of rfl rfl rfl rfl) rfl (ma_v (me_var (pv 2)) (ma_v (me_var (pv 19)) (ma_nil))))) (me_tup (ms_cons (me_str) (ms_cons (me_int) (ms_nil)))) (nomark _)) (ss_one (st_ret (me_bl))) (ss_nil))) (ss_one (st_if (mt_not (mt_val (me_cal c__law_alike rfl rfl hr tk rfl (ma_v (me_cal c_joined rfl rfl hr tk rfl (ma_v (me_var (pv 2)) (ma_v (me_var (pv 19)) (ma_nil)))) (ma_v (me_var (pv 20)) (ma_nil)))))) (ss_one (st_ret (me_bl))) (ss_nil))))
  (ss_cons (st_own sc_law.nd rfl (by first | exact Or.inl rfl | exact Or.inr rfl) (fe_lst (ms_nil)) (show 21 ∉ ([] : List Nat) by decide))
  (ss_cons (st_for po rfl rfl (mi_seq rfl (me_cal c__law_orders rfl rfl hr tk rfl (ma_v (me_var (pv 4)) (ma_nil)))) (tg_name sc_law.nd rfl (by first | exact Or.inl rfl | exact Or.inr rfl) (show 22 ∉ ([] : List Nat) by decide)) (ss_cons (st_set sc_law.nd rfl (by first | exact Or.inl rfl | exact Or.inr rfl) (me_cal c__law_named rfl rfl hr tk rfl (ma_v (me_var (pv 2)) (ma_v (me_var (pv 3)) (ma_v (me_var (pv 22)) (ma_nil))))) (show 23 ∉ ([] : List Nat) by decide))
  (ss_one (st_for po rfl rfl (mi_seq rfl (me_tup (ms_cons (me_int) (ms_cons (me_int) (ms_cons (me_int) (ms_nil)))))) (tg_name sc_law.nd rfl (by first | exact Or.inl rfl | exact Or.inr rfl) (show 10 ∉ ([] : List Nat) by decide)) (ss_one (st_if (mt_bool (mw_and (mt_cmp (op_eqD (room64 hr)) p_eq (me_at (room1 hr) rfl (pv 23) (me_int)) (pv 2) (nomark _)) (mw_and1 (mt_cmp (op_eqD (room64 hr)) p_eq (me_at (room1 hr) rfl (pv 23) (me_int)) (me_fnT call_tuple_of p_tuple rfl B.b_tuple boot_tuple (mo_cons (me_of (fe_lc (own := [("_law_mood", 24)]) rfl sc_law.nd (show ∀ v ∈ ([24] : List Nat), v ∉ ([] : List Nat) by decide) (by decide) (mi_seq rfl (me_var (pv 3))) (blkOk_by (by kernel_rfl)) (fun _ _ _ _ _ => tg_name sc_law.nd rfl (by first | exact Or.inl rfl | exact Or.inr rfl) (show 24 ∉ ([] : List Nat) by decide)) (fun _ _ _ _ _ => mts_nil) (fun _ _ _ _ _ => me_op op_mod p_mod (me_fnT call_int1 p_int rfl B.b_int boot_int (mo_cons (me_op op_addA p_add (pv 24) (pv 10)) (mo_nil))) (me_int)))) (mo_nil))) (nomark _))))) (ss_one (st_expr (me_app (pe_bm F.plainAttrs_list F.slot_list_append F.type_list_append mt_append (pv 21) (ms_cons (me_tup (ms_cons (me_var (pv 22)) (ms_cons (me_var (pv 10)) (ms_nil)))) ms_nil))))) (ss_nil)))))))
  (ss_cons (st_set sc_law.nd rfl (by first | exact Or.inl rfl | exact Or.inr rfl) (me_cal c__law_pick rfl rfl hr tk rfl (ma_io (pv 1) (ma_v (me_cal c__law_orders rfl rfl hr tk rfl (ma_v (me_var (pv 4)) (ma_nil))) (ma_nil)))) (show 22 ∉ ([] : List Nat) by decide))
  (ss_cons (st_if (mt_not (mt_val (me_cal c__law_alike rfl rfl hr tk rfl (ma_v (me_cal c_renamed rfl rfl hr tk rfl (ma_v (me_var (pv 2)) (ma_v (me_var (pv 3)) (ma_v (me_var (pv 22)) (ma_nil))))) (ma_v (me_cal c__law_named rfl rfl hr tk rfl (ma_v (me_var (pv 2)) (ma_v (me_var (pv 3)) (ma_v (me_var (pv 22)) (ma_nil))))) (ma_nil)))))) (ss_one (st_ret (me_bl))) (ss_nil))
  (ss_cons (st_if (mt_not (mt_val (me_cal c__law_alike rfl rfl hr tk rfl (ma_v (me_cal c_likenesses rfl rfl hr tk rfl (ma_v (me_var (pv 2)) (ma_v (me_var (pv 3)) (ma_nil)))) (ma_v (me_fnT call_tuple_of p_tuple rfl B.b_tuple boot_tuple (mo_cons (me_of (fe_sortM (room65 hr) rfl rfl B.b_sorted (mo_cons (pv 21) (mo_nil)))) (mo_nil))) (ma_nil)))))) (ss_one (st_ret (me_bl))) (ss_nil))
  (ss_cons (st_set sc_law.nd rfl (by first | exact Or.inl rfl | exact Or.inr rfl) (me_of (fe_lst (ms_cons (me_non) (ms_cons (me_tup (ms_nil)) (ms_cons (me_of (fe_list rfl rfl B.b_list (mo_cons (pv 22) (mo_nil)))) (ms_cons (me_op op_addA p_add (pv 22) (me_tup (ms_cons (me_int) (ms_nil)))) (ms_cons (me_cut rfl (pv 22) (po_at (me_int)) (po_no)) (ms_cons (me_op op_repTA p_repTA (me_tup (ms_cons (me_bl) (ms_nil))) (pv 4)) (ms_cons (me_op op_repTA p_repTA (me_tup (ms_cons (me_int) (ms_nil))) (me_op op_addA p_add (pv 4) (me_int))) (ms_nil)))))))))) (show 25 ∉ ([] : List Nat) by decide))
  (ss_one (st_ret (me_cmp (op_eqD (room64 hr)) p_eq (me_of (fe_lc (own := [("_law_bad", 18)]) rfl sc_law.nd (show ∀ v ∈ ([18] : List Nat), v ∉ ([] : List Nat) by decide) (by decide) (mi_seq rfl (me_var (pv 25))) (blkOk_by (by kernel_rfl)) (fun _ _ _ _ _ => tg_name sc_law.nd rfl (by first | exact Or.inl rfl | exact Or.inr rfl) (show 18 ∉ ([] : List Nat) by decide)) (fun _ _ _ _ _ => mts_one (mt_cmp (op_neD (room64 hr)) p_ne (me_lam (k := 5) rfl hmr Fr.kp lkr hcr hbr sc_ref rfl (Or.inl rfl) (ref_gives hE B.b_isinstance).to TB rfl (List.mem_singleton.mpr rfl) (fun t ht _ => by rw [List.mem_singleton.mp ht]; rfl) (hr.mono (by decide)) (lamS_by (by kernel_rfl)) rfl (fun _ _ _ _ _ => rfl) rfl (fun A outer s H E f d hr => me_cal c_renamed rfl rfl hr (L2.takes_of rfl rfl rfl rfl) rfl (ma_v (me_var (pv 2)) (ma_v (me_var (pv 3)) (ma_v (me_var (pv 18)) (ma_nil)))))) (me_str) (nomark _))) (fun _ _ _ _ _ => me_var (pv 18)))) (me_of (fe_lst (ms_nil))) (nomark _))))))))))))))))))))))
end

set_option autoImplicit false
theorem atI_map {α β : Type} (f : α → β) (xs : List α) (i : Int) : L2.atI (xs.map f) i = (L2.atI xs i).map f := by
  unfold L2.atI
  rw [List.length_map]
  cases ixN xs.length i with
  | none => rfl
  | some j => simp
theorem set_set {ρ : Env} {i : Nat} {x : Sl} (h : ρ[i]? = some .no) : (ρ.set i x).set i .no = ρ := by
  rw [List.set_set]
  obtain ⟨hl, he⟩ := List.getElem?_eq_some_iff.mp h
  rw [← he]
  exact List.set_getElem_self hl
/-- a slot that a comprehension may use -/
def Free (ρ : Env) (i : Nat) : Prop := ∃ s, ρ[i]? = some s ∧ ∀ d, s ≠ .own d

set_option autoImplicit false
theorem ixN_nat (n i : Nat) : L2.ixN n (i : Int) = if i < n then some i else none := by
  unfold L2.ixN
  rw [if_pos (Int.natCast_nonneg i)]
  by_cases h : i < n
  · rw [if_pos (by omega), if_pos h]; rfl
  · rw [if_neg (by omega), if_neg h]
theorem atI_nat {α : Type} (xs : List α) (i : Nat) : L2.atI xs (i : Int) = xs[i]? := by
  unfold L2.atI
  rw [ixN_nat]
  by_cases h : i < xs.length
  · rw [if_pos h]; rfl
  · rw [if_neg h, List.getElem?_eq_none (by omega)]; rfl
theorem atI_0 {α : Type} (xs : List α) : L2.atI xs 0 = xs[0]? := atI_nat xs 0
theorem atI_1 {α : Type} (xs : List α) : L2.atI xs 1 = xs[1]? := atI_nat xs 1
theorem atI_2 {α : Type} (xs : List α) : L2.atI xs 2 = xs[2]? := atI_nat xs 2
theorem atI_3 {α : Type} (xs : List α) : L2.atI xs 3 = xs[3]? := atI_nat xs 3
theorem ix4_1 : L2.ixN 4 1 = some 1 := rfl
theorem ix4_2 : L2.ixN 4 2 = some 2 := rfl
theorem ix4_3 : L2.ixN 4 3 = some 3 := rfl
def rowD (ns : List Int) (k r h : Int) : D := .list [scrD ns, .int k, .int r, .int h]
structure RowOk (ns : List Int) (d : D) : Prop where
  ex : ∃ k r h, d = rowD ns k r h ∧ 0 ≤ k ∧ 0 ≤ r ∧ r < 2147483647
theorem log2_lt {m : Int} (h : m < 9000) (h0 : 0 < m) : m.natAbs.log2 < 9000 := by
  have h1 : m.natAbs.log2 ≤ m.natAbs := Nat.log2_le_self _
  omega
theorem lg7 : Nat.log2 7 < 9000 := Nat.lt_of_le_of_lt (Nat.log2_le_self 7) (by omega)
theorem taken {ns : List Int} {d : D} (h : RowOk ns d) {m : Int} (hm : 0 < m) (hm2 : m < 9000) : ∃ v d', f__law_taken [.own d, .fz (.int m)] = .ok (.int v) [d'] ∧ 0 ≤ v ∧ v < m ∧ RowOk ns d' := by
  obtain ⟨k, r, w, rfl, hk, hr, hr2⟩ := h
  have hl : m.natAbs.log2 < 9000 := log2_lt hm2 hm
  by_cases h1 : 0 < w
  · refine ⟨w % m, rowD ns k r (w / m), ?_, Int.emod_nonneg _ (by omega), Int.emod_lt_of_pos _ hm, ⟨k, r, w / m, rfl, hk, hr, hr2⟩⟩
    simp [f__law_taken, m__law_taken, fnM, ownIx, backs, sRet, sSeq, sIf, sSet, sOwn, sDo, sNil, sAsg, Rs.sr, mOp2, Opd.ev, Opd.fin, at_, Sl.val, Rs.then, mLit, mVar, mB, mAnd, mOr, mNot, bAnd, bOr, bNot, mIf, bYes, mTup, mLst, evm, evo, fino, mFn, mCall, eva, sls, ioIx, putBack, Arg.opd, iSeq, iRng, fR1, fR2, sFor, tmName, tmTup, tmSeq, mApp, mExt, mPutAt, dPutAt, mIsi, dTy, isB, dEq, dNe, dLt, dLe, dGt, dGe, dIsN, dNotN, dAdd, dSub, dMod, dFdiv, dMul, dAt, dLen, dInt, dTuple, dList, mChain, sPar, setP, rowD, atI_0, atI_1, atI_2, atI_3, ix4_3, h1, hm, hl, backs]
  · have hf : mulFits r 48271 = true := by simp [mulFits]
    by_cases h2 : (ns.length : Int) < k + 1
    · refine ⟨((r * 48271 + 11) % 2147483647) / 7 % m, rowD ns (k + 1) ((r * 48271 + 11) % 2147483647) w, ?_, Int.emod_nonneg _ (by omega), Int.emod_lt_of_pos _ hm, ⟨_, _, _, rfl, by omega, Int.emod_nonneg _ (by omega), Int.emod_lt_of_pos _ (by omega)⟩⟩
      simp [f__law_taken, m__law_taken, fnM, ownIx, backs, sRet, sSeq, sIf, sSet, sOwn, sDo, sNil, sAsg, Rs.sr, mOp2, Opd.ev, Opd.fin, at_, Sl.val, Rs.then, mLit, mVar, mB, mAnd, mOr, mNot, bAnd, bOr, bNot, mIf, bYes, mTup, mLst, evm, evo, fino, mFn, mCall, eva, sls, ioIx, putBack, Arg.opd, iSeq, iRng, fR1, fR2, sFor, tmName, tmTup, tmSeq, mApp, mExt, mPutAt, dPutAt, mIsi, dTy, isB, dEq, dNe, dLt, dLe, dGt, dGe, dIsN, dNotN, dAdd, dSub, dMod, dFdiv, dMul, dAt, dLen, dInt, dTuple, dList, mChain, sPar, setP, rowD, atI_0, atI_1, atI_2, atI_3, ix4_3, ix4_2, ix4_1, h1, hm, backs, hf, h2, scrD, lg7]
    · obtain ⟨x, hx⟩ : ∃ x, L2.atI ns k = some x := by
        have e : k = ((k.toNat : Nat) : Int) := by omega
        rw [e, atI_nat]
        exact ⟨_, List.getElem?_eq_getElem (by omega)⟩
      have hd : L2.atI (ns.map PyData.int) k = some (.int x) := by rw [atI_map, hx]; rfl
      have e1 : k + 1 - 1 = k := by omega
      by_cases h3 : (1000000000000000000 : Int) ≤ x
      · refine ⟨x % m, rowD ns (k + 1) ((r * 48271 + x + 11) % 2147483647) (x / m), ?_, Int.emod_nonneg _ (by omega), Int.emod_lt_of_pos _ hm, ⟨_, _, _, rfl, by omega, Int.emod_nonneg _ (by omega), Int.emod_lt_of_pos _ (by omega)⟩⟩
        simp [f__law_taken, m__law_taken, fnM, ownIx, backs, sRet, sSeq, sIf, sSet, sOwn, sDo, sNil, sAsg, Rs.sr, mOp2, Opd.ev, Opd.fin, at_, Sl.val, Rs.then, mLit, mVar, mB, mAnd, mOr, mNot, bAnd, bOr, bNot, mIf, bYes, mTup, mLst, evm, evo, fino, mFn, mCall, eva, sls, ioIx, putBack, Arg.opd, iSeq, iRng, fR1, fR2, sFor, tmName, tmTup, tmSeq, mApp, mExt, mPutAt, dPutAt, mIsi, dTy, isB, dEq, dNe, dLt, dLe, dGt, dGe, dIsN, dNotN, dAdd, dSub, dMod, dFdiv, dMul, dAt, dLen, dInt, dTuple, dList, mChain, sPar, setP, rowD, atI_0, atI_1, atI_2, atI_3, ix4_3, ix4_2, ix4_1, h1, hm, backs, hf, h2, scrD, dPow, hd, e1, h3, hl]
      · refine ⟨x % m, rowD ns (k + 1) ((r * 48271 + x + 11) % 2147483647) w, ?_, Int.emod_nonneg _ (by omega), Int.emod_lt_of_pos _ hm, ⟨_, _, _, rfl, by omega, Int.emod_nonneg _ (by omega), Int.emod_lt_of_pos _ (by omega)⟩⟩
        simp [f__law_taken, m__law_taken, fnM, ownIx, backs, sRet, sSeq, sIf, sSet, sOwn, sDo, sNil, sAsg, Rs.sr, mOp2, Opd.ev, Opd.fin, at_, Sl.val, Rs.then, mLit, mVar, mB, mAnd, mOr, mNot, bAnd, bOr, bNot, mIf, bYes, mTup, mLst, evm, evo, fino, mFn, mCall, eva, sls, ioIx, putBack, Arg.opd, iSeq, iRng, fR1, fR2, sFor, tmName, tmTup, tmSeq, mApp, mExt, mPutAt, dPutAt, mIsi, dTy, isB, dEq, dNe, dLt, dLe, dGt, dGe, dIsN, dNotN, dAdd, dSub, dMod, dFdiv, dMul, dAt, dLen, dInt, dTuple, dList, mChain, sPar, setP, rowD, atI_0, atI_1, atI_2, atI_3, ix4_3, ix4_2, ix4_1, h1, hm, backs, hf, h2, scrD, dPow, hd, e1, h3, hl]

set_option autoImplicit false
def WR (r : SR) (N : Env → Prop) (R : D → Env → Prop) : Prop := match r with
  | .nx ρ' => N ρ'
  | .rt d ρ' => R d ρ'
  | _ => False
/-- (a structure, so that nobody computes it by accident) -/
structure W (m : SM) (ρ : Env) (N : Env → Prop) (R : D → Env → Prop) : Prop where
  run : WR (m ρ) N R
theorem W.seq {a b : SM} {ρ : Env} {N : Env → Prop} {R : D → Env → Prop} (h : W a ρ (fun ρ' => W b ρ' N R) R) : W (sSeq a b) ρ N R := by
  obtain ⟨h⟩ := h
  refine ⟨?_⟩
  unfold sSeq
  cases e : a ρ with
  | nx ρ' => rw [e] at h; exact h.run
  | rt d ρ' => rw [e] at h; exact h
  | ex x ρ' => rw [e] at h; exact h.elim
  | stuck => rw [e] at h; exact h.elim
theorem W.imp {m : SM} {ρ : Env} {N N' : Env → Prop} {R R' : D → Env → Prop} (h : W m ρ N R) (hn : ∀ ρ, N ρ → N' ρ) (hr : ∀ d ρ, R d ρ → R' d ρ) : W m ρ N' R' := by
  obtain ⟨h⟩ := h
  refine ⟨?_⟩
  cases e : m ρ with
  | nx ρ' => rw [e] at h; exact hn _ h
  | rt d ρ' => rw [e] at h; exact hr _ _ h
  | ex x ρ' => rw [e] at h; exact h.elim
  | stuck => rw [e] at h; exact h.elim
theorem W.nx {m : SM} {ρ ρ' : Env} {N : Env → Prop} {R : D → Env → Prop} (e : m ρ = .nx ρ') (h : N ρ') : W m ρ N R := ⟨by rw [e]; exact h⟩
theorem W.rt {m : SM} {ρ ρ' : Env} {d : D} {N : Env → Prop} {R : D → Env → Prop} (e : m ρ = .rt d ρ') (h : R d ρ') : W m ρ N R := ⟨by rw [e]; exact h⟩
theorem W.forM {tm : TM} {b : SM} {R : D → Env → Prop} (I : Nat → Env → Prop) : ∀ (ds : List D) (k : Nat) (ρ : Env), I k ρ → (∀ i d ρ, ds[i]? = some d → I (k + i) ρ → ∃ ρ1, tm d ρ = .ok () ρ1 ∧ W b ρ1 (I (k + i + 1)) R) → W (forM tm b ds) ρ (I (k + ds.length)) R
  | [], k, ρ, h, _ => ⟨h⟩
  | d :: ds, k, ρ, h, hs => by
    obtain ⟨ρ1, e1, ⟨w⟩⟩ := hs 0 d ρ rfl h
    refine ⟨?_⟩
    unfold MP.forM
    rw [e1]
    show WR (match b ρ1 with
      | .nx ρ2 => MP.forM tm b ds ρ2
      | r => r) _ _
    cases e : b ρ1 with
    | nx ρ2 =>
      rw [e] at w
      have := W.forM (tm := tm) (b := b) (R := R) I ds (k + 1) ρ2 w fun i d ρ h1 h2 => by
        have := hs (i + 1) d ρ h1 (by rw [show k + (i + 1) = k + 1 + i by omega]; exact h2)
        rw [show k + (i + 1) + 1 = k + 1 + i + 1 by omega] at this
        exact this
      rw [show k + 1 + ds.length = k + (d :: ds).length by rw [List.length_cons]; omega] at this
      exact this.run
    | rt d ρ' => rw [e] at w; exact w
    | ex x ρ' => rw [e] at w; exact w.elim
    | stuck => rw [e] at w; exact w.elim
theorem W.for' {it : MI} {tm : TM} {b : SM} {ρ ρ0 : Env} {ds : List D} {N : Env → Prop} {R : D → Env → Prop} (I : Nat → Env → Prop) (hit : it ρ = .ok ds ρ0) (h0 : I 0 ρ0) (hs : ∀ i d ρ, ds[i]? = some d → I i ρ → ∃ ρ1, tm d ρ = .ok () ρ1 ∧ W b ρ1 (I (i + 1)) R) (hk : ∀ ρ, I ds.length ρ → N ρ) :
    W (sFor it tm b) ρ N R := by
  have h := W.forM (R := R) I ds 0 ρ0 h0 fun i d ρ h1 h2 => by
    rw [Nat.zero_add] at h2 ⊢
    exact hs i d ρ h1 h2
  rw [Nat.zero_add] at h
  have h' := (h.imp hk fun _ _ x => x).run
  refine ⟨?_⟩
  unfold sFor
  rw [hit]
  exact h'
theorem W.ite {t : MB} {a b : SM} {ρ ρ1 : Env} {x : Bool} {N : Env → Prop} {R : D → Env → Prop} (e : t ρ = .ok x ρ1) (h : W (if x = true then a else b) ρ1 N R) : W (sIf t a b) ρ N R := by
  obtain ⟨h⟩ := h
  refine ⟨?_⟩
  unfold sIf
  rw [e]
  cases x with
  | true => exact h
  | false => exact h
/-- a loop over numbers -/
theorem W.rngl {os : List Opd} {f : List D → Option (Int × Int)} {i : Nat} {b : SM} {ρ ρ0 : Env} {lo : Int} {n : Nat} {N : Env → Prop} {R : D → Env → Prop} (I : Nat → Env → Prop) (hit : iRng f os ρ = .ok (up lo n) ρ0) (h0 : I 0 ρ0)
    (hs : ∀ k ρ, k < n → I k ρ → W b (ρ.set i (.fz (.int (lo + k)))) (I (k + 1)) R) (hk : ∀ ρ, I n ρ → N ρ) : W (sFor (iRng f os) (tmName i) b) ρ N R := by
  refine W.for' I hit h0 (fun k d ρ h1 h2 => ?_) fun ρ h => hk ρ ?_
  · obtain ⟨h3, rfl⟩ := up_get _ _ _ _ h1
    exact ⟨_, rfl, hs k ρ h3 h2⟩
  · rw [up_len] at h
    exact h
theorem W.rng {os : List Opd} {f : List D → Option (Int × Int)} {i : Nat} {b : SM} {ρ ρ0 : Env} {n : Nat} {N : Env → Prop} {R : D → Env → Prop} (I : Nat → Env → Prop) (hit : iRng f os ρ = .ok (up 0 n) ρ0) (h0 : I 0 ρ0)
    (hs : ∀ (k : Nat) ρ, k < n → I k ρ → W b (ρ.set i (.fz (.int k))) (I (k + 1)) R) (hk : ∀ ρ, I n ρ → N ρ) : W (sFor (iRng f os) (tmName i) b) ρ N R :=
  W.rngl I hit h0 (fun k ρ h1 h2 => by rw [Int.zero_add]; exact hs k ρ h1 h2) hk
theorem iRng_ok {f : List D → Option (Int × Int)} {os : List Opd} {ρ ρ1 : Env} {xs : List (Option D)} {ds : List D} {lo hi : Int} (h1 : evo os ρ = .ok xs ρ1) (h2 : fino os xs ρ1 = some ds) (h3 : f ds = some (lo, hi)) (hb : -1000000 ≤ lo ∧ lo ≤ 1000000 ∧ -1000000 ≤ hi ∧ hi ≤ 1000000) : iRng f os ρ = .ok (up lo (hi - lo).toNat) ρ1 := by
  unfold iRng
  rw [h1]
  show (match (fino os xs ρ1).bind f with
    | some (i, j) => if -(2 ^ 62) ≤ i ∧ i < 2 ^ 62 ∧ -(2 ^ 62) ≤ j ∧ j < 2 ^ 62 then Rs.ok (up i (j - i).toNat) ρ1 else .stuck
    | none => .stuck) = _
  rw [h2]
  show (match f ds with
    | some (i, j) => if -(2 ^ 62) ≤ i ∧ i < 2 ^ 62 ∧ -(2 ^ 62) ≤ j ∧ j < 2 ^ 62 then Rs.ok (up i (j - i).toNat) ρ1 else .stuck
    | none => .stuck) = _
  rw [h3]
  exact if_pos (by omega)
theorem iRng_nat {os : List Opd} {ρ ρ1 : Env} {xs : List (Option D)} {n : Nat} (h1 : evo os ρ = .ok xs ρ1) (h2 : fino os xs ρ1 = some [.int n]) (hb : n ≤ 1000000) : iRng fR1 os ρ = .ok (up 0 n) ρ1 := by
  have := iRng_ok (f := fR1) (lo := 0) (hi := (n : Int)) h1 h2 rfl ⟨by omega, by omega, by omega, by omega⟩
  rw [show ((n : Int) - 0).toNat = n by omega] at this
  exact this
theorem W.fn {len n : Nat} {ios : List Nat} {m : SM} {ss : List Sl} {P : D → List D → Prop} (h : ownIx 0 ss = ios) (w : W m (ss ++ List.replicate (len - n) .no) (fun ρ => ∃ b, backs ios ρ = some b ∧ P .none b) fun d ρ => ∃ b, backs ios ρ = some b ∧ P d b) : ∃ d b, fnM len n ios m ss = .ok d b ∧ P d b := by
  obtain ⟨w⟩ := w
  unfold fnM
  rw [if_pos h]
  cases e : m (ss ++ List.replicate (len - n) .no) with
  | nx ρ' => rw [e] at w; obtain ⟨b, e1, p⟩ := w; exact ⟨_, b, by simp [e1], p⟩
  | rt d ρ' => rw [e] at w; obtain ⟨b, e1, p⟩ := w; exact ⟨d, b, by simp [e1], p⟩
  | ex x ρ' => rw [e] at w; exact w.elim
  | stuck => rw [e] at w; exact w.elim

set_option autoImplicit false
structure Web where
  n : Nat
  es : List (Nat × Nat)
def pairN (p : Nat × Nat) : D := .tuple [.int p.1, .int p.2]
def webD (w : Web) : D := .tuple [.int w.n, .tuple (w.es.map pairN)]
def stD (s : List Int) : D := .tuple (s.map PyData.int)
def lexN (p q : Nat × Nat) : Prop := p.1 < q.1 ∨ (p.1 = q.1 ∧ p.2 < q.2)
structure Web.Ok (w : Web) : Prop where
  pos : 1 ≤ w.n
  most : w.n ≤ 10
  few : w.es.length ≤ 100
  sorted : w.es.Pairwise lexN
  inn : ∀ e ∈ w.es, e.1 < e.2 ∧ e.2 < w.n
structure StOk (n : Nat) (s : List Int) : Prop where
  len : s.length = n
  three : ∀ x ∈ s, 0 ≤ x ∧ x < 3
theorem state_drawn {ns : List Int} {d : D} (h : RowOk ns d) {w : Web} (hw : w.Ok) : ∃ s d', f__law_state [.own d, .fz (webD w)] = .ok (stD s) [d'] ∧ StOk w.n s ∧ RowOk ns d' := by
  have hn := hw.pos
  have hm := hw.most
  obtain ⟨v, d1, e1, v0, v1, r1⟩ := taken h (m := 4) (by omega) (by omega)
  obtain ⟨r, b, e, s, d', er, eb, hs, hr⟩ := W.fn (len := 6) (n := 2) (ios := [0]) (m := m__law_state) (ss := [.own d, .fz (webD w)]) (P := fun r b => ∃ s d', r = stD s ∧ b = [d'] ∧ StOk w.n s ∧ RowOk ns d') rfl (by
    unfold m__law_state
    refine .seq (.nx (ρ' := [.own d1, .fz (webD w), .fz (.int v), .own (.list []), .no, .no]) (by simp [fnM, ownIx, backs, sRet, sSeq, sIf, sSet, sOwn, sDo, sNil, sAsg, Rs.sr, mOp2, Opd.ev, Opd.fin, at_, Sl.val, Rs.then, mLit, mVar, mB, mAnd, mOr, mNot, bAnd, bOr, bNot, mIf, bYes, mTup, mLst, evm, evo, fino, mFn, mCall, eva, sls, ioIx, putBack, Arg.opd, iSeq, iRng, fR1, fR2, sFor, tmName, tmTup, tmSeq, mApp, mExt, mPutAt, dPutAt, mIsi, dTy, isB, dEq, dNe, dLt, dLe, dGt, dGe, dIsN, dNotN, dAdd, dSub, dMod, dFdiv, dMul, dAt, dLen, dInt, dTuple, dList, mChain, sPar, setP, e1]) ?_)
    refine .seq (.rng (n := w.n) (ρ0 := [.own d1, .fz (webD w), .fz (.int v), .own (.list []), .no, .no]) (fun k ρ => ∃ (d : D) (s : List Int) (x y : Sl), ρ = [.own d, .fz (webD w), .fz (.int v), .own (.list (s.map PyData.int)), x, y] ∧ RowOk ns d ∧ s.length = k ∧ ∀ x ∈ s, 0 ≤ x ∧ x < 3) ?_ ?_ ?_ ?_)
    · refine iRng_nat (xs := [some (.int w.n)]) ?_ ?_ (by omega)
      · simp [fnM, ownIx, backs, sRet, sSeq, sIf, sSet, sOwn, sDo, sNil, sAsg, Rs.sr, mOp2, Opd.ev, Opd.fin, at_, Sl.val, Rs.then, mLit, mVar, mB, mAnd, mOr, mNot, bAnd, bOr, bNot, mIf, bYes, mTup, mLst, evm, evo, fino, mFn, mCall, eva, sls, ioIx, putBack, Arg.opd, iSeq, iRng, fR1, fR2, sFor, tmName, tmTup, tmSeq, mApp, mExt, mPutAt, dPutAt, mIsi, dTy, isB, dEq, dNe, dLt, dLe, dGt, dGe, dIsN, dNotN, dAdd, dSub, dMod, dFdiv, dMul, dAt, dLen, dInt, dTuple, dList, mChain, sPar, setP, webD, atI_0]
      · simp [fnM, ownIx, backs, sRet, sSeq, sIf, sSet, sOwn, sDo, sNil, sAsg, Rs.sr, mOp2, Opd.ev, Opd.fin, at_, Sl.val, Rs.then, mLit, mVar, mB, mAnd, mOr, mNot, bAnd, bOr, bNot, mIf, bYes, mTup, mLst, evm, evo, fino, mFn, mCall, eva, sls, ioIx, putBack, Arg.opd, iSeq, iRng, fR1, fR2, sFor, tmName, tmTup, tmSeq, mApp, mExt, mPutAt, dPutAt, mIsi, dTy, isB, dEq, dNe, dLt, dLe, dGt, dGe, dIsN, dNotN, dAdd, dSub, dMod, dFdiv, dMul, dAt, dLen, dInt, dTuple, dList, mChain, sPar, setP]
    · exact ⟨d1, [], .no, .no, rfl, r1, rfl, by simp⟩
    · rintro k _ k1 ⟨d, s, x, y, rfl, hr, hl, hs⟩
      obtain ⟨u, d2, e2, u0, u1, r2⟩ := taken hr (m := 3) (by omega) (by omega)
      have hz : s.length < sizeLine := by unfold sizeLine; omega
      have hput : ∀ z : Int, 0 ≤ z → z < 3 → ∃ (d : D) (s' : List Int) (x y : Sl), ([.own d2, .fz (webD w), .fz (.int v), .own (.list ((s ++ [z]).map PyData.int)), .fz (.int k), .fz (.int u)] : Env) = [.own d, .fz (webD w), .fz (.int v), .own (.list (s'.map PyData.int)), x, y] ∧ RowOk ns d ∧ s'.length = k + 1 ∧ ∀ x ∈ s', 0 ≤ x ∧ x < 3 := fun z z0 z1 =>
        ⟨d2, s ++ [z], _, _, rfl, r2, by simp; omega, fun q hq => by
          rcases List.mem_append.mp hq with p | p
          · exact hs q p
          · cases List.mem_singleton.mp p; exact ⟨z0, z1⟩⟩
      refine .seq (.nx (ρ' := [.own d2, .fz (webD w), .fz (.int v), .own (.list (s.map PyData.int)), .fz (.int k), .fz (.int u)]) (by simp [fnM, ownIx, backs, sRet, sSeq, sIf, sSet, sOwn, sDo, sNil, sAsg, Rs.sr, mOp2, Opd.ev, Opd.fin, at_, Sl.val, Rs.then, mLit, mVar, mB, mAnd, mOr, mNot, bAnd, bOr, bNot, mIf, bYes, mTup, mLst, evm, evo, fino, mFn, mCall, eva, sls, ioIx, putBack, Arg.opd, iSeq, iRng, fR1, fR2, sFor, tmName, tmTup, tmSeq, mApp, mExt, mPutAt, dPutAt, mIsi, dTy, isB, dEq, dNe, dLt, dLe, dGt, dGe, dIsN, dNotN, dAdd, dSub, dMod, dFdiv, dMul, dAt, dLen, dInt, dTuple, dList, mChain, sPar, setP, e2]) ?_)
      by_cases hv : 0 < v
      · exact .nx (ρ' := [.own d2, .fz (webD w), .fz (.int v), .own (.list ((s ++ [u]).map PyData.int)), .fz (.int k), .fz (.int u)]) (by simp [fnM, ownIx, backs, sRet, sSeq, sIf, sSet, sOwn, sDo, sNil, sAsg, Rs.sr, mOp2, Opd.ev, Opd.fin, at_, Sl.val, Rs.then, mLit, mVar, mB, mAnd, mOr, mNot, bAnd, bOr, bNot, mIf, bYes, mTup, mLst, evm, evo, fino, mFn, mCall, eva, sls, ioIx, putBack, Arg.opd, iSeq, iRng, fR1, fR2, sFor, tmName, tmTup, tmSeq, mApp, mExt, mPutAt, dPutAt, mIsi, dTy, isB, dEq, dNe, dLt, dLe, dGt, dGe, dIsN, dNotN, dAdd, dSub, dMod, dFdiv, dMul, dAt, dLen, dInt, dTuple, dList, mChain, sPar, setP, hv, hz]) (hput u u0 u1)
      · by_cases hu : u = 0
        · exact .nx (ρ' := [.own d2, .fz (webD w), .fz (.int v), .own (.list ((s ++ [((k : Int) + 1) % 3]).map PyData.int)), .fz (.int k), .fz (.int u)]) (by simp [fnM, ownIx, backs, sRet, sSeq, sIf, sSet, sOwn, sDo, sNil, sAsg, Rs.sr, mOp2, Opd.ev, Opd.fin, at_, Sl.val, Rs.then, mLit, mVar, mB, mAnd, mOr, mNot, bAnd, bOr, bNot, mIf, bYes, mTup, mLst, evm, evo, fino, mFn, mCall, eva, sls, ioIx, putBack, Arg.opd, iSeq, iRng, fR1, fR2, sFor, tmName, tmTup, tmSeq, mApp, mExt, mPutAt, dPutAt, mIsi, dTy, isB, dEq, dNe, dLt, dLe, dGt, dGe, dIsN, dNotN, dAdd, dSub, dMod, dFdiv, dMul, dAt, dLen, dInt, dTuple, dList, mChain, sPar, setP, hv, hz, hu, okD, SeqAt.shaped, PyData.canLay0, PyData.depth, PyData.eqv]) (hput _ (by omega) (by omega))
        · exact .nx (ρ' := [.own d2, .fz (webD w), .fz (.int v), .own (.list ((s ++ [((k : Int)) % 3]).map PyData.int)), .fz (.int k), .fz (.int u)]) (by simp [fnM, ownIx, backs, sRet, sSeq, sIf, sSet, sOwn, sDo, sNil, sAsg, Rs.sr, mOp2, Opd.ev, Opd.fin, at_, Sl.val, Rs.then, mLit, mVar, mB, mAnd, mOr, mNot, bAnd, bOr, bNot, mIf, bYes, mTup, mLst, evm, evo, fino, mFn, mCall, eva, sls, ioIx, putBack, Arg.opd, iSeq, iRng, fR1, fR2, sFor, tmName, tmTup, tmSeq, mApp, mExt, mPutAt, dPutAt, mIsi, dTy, isB, dEq, dNe, dLt, dLe, dGt, dGe, dIsN, dNotN, dAdd, dSub, dMod, dFdiv, dMul, dAt, dLen, dInt, dTuple, dList, mChain, sPar, setP, hv, hz, hu, okD, SeqAt.shaped, PyData.canLay0, PyData.depth, PyData.eqv]) (hput _ (by omega) (by omega))
    · rintro _ ⟨d, s, x, y, rfl, hr, hl, hs⟩
      exact .rt (d := stD s) (ρ' := [.own d, .fz (webD w), .fz (.int v), .own (.list (s.map PyData.int)), x, y]) (by simp [fnM, ownIx, backs, sRet, sSeq, sIf, sSet, sOwn, sDo, sNil, sAsg, Rs.sr, mOp2, Opd.ev, Opd.fin, at_, Sl.val, Rs.then, mLit, mVar, mB, mAnd, mOr, mNot, bAnd, bOr, bNot, mIf, bYes, mTup, mLst, evm, evo, fino, mFn, mCall, eva, sls, ioIx, putBack, Arg.opd, iSeq, iRng, fR1, fR2, sFor, tmName, tmTup, tmSeq, mApp, mExt, mPutAt, dPutAt, mIsi, dTy, isB, dEq, dNe, dLt, dLe, dGt, dGe, dIsN, dNotN, dAdd, dSub, dMod, dFdiv, dMul, dAt, dLen, dInt, dTuple, dList, mChain, sPar, setP, stD]) ⟨[d], rfl, s, d, rfl, rfl, ⟨hl, hs⟩, hr⟩)
  exact ⟨s, d', by rw [← er, ← eb]; exact e, hs, hr⟩

set_option autoImplicit false
def kvsD (es : List (Nat × Nat)) : List (D × D) := es.map fun p => (pairN p, .bool true)
theorem toKT_pair (p : Nat × Nat) : toKT (pairN p) = some [.inl (p.1 : Int), .inl (p.2 : Int)] := rfl
theorem toK1_pair (p : Nat × Nat) : toK1 (pairN p) = none := rfl
theorem dkEq_pair (p q : Nat × Nat) : dkEq (pairN p) (pairN q) = decide (p = q) := by
  unfold dkEq
  rw [toK1_pair, toK1_pair, toKT_pair, toKT_pair]
  obtain ⟨a, b⟩ := p
  obtain ⟨c, d⟩ := q
  simp
  congr 1 <;> exact decide_eq_decide.mpr (by omega)
theorem keyFits_pair (es : List (Nat × Nat)) (q : Nat × Nat) : keyFits (kvsD es) (pairN q) = true := by
  unfold keyFits
  rw [toK1_pair, toKT_pair]
  simp [kvsD, toKT_pair]
def addN (es : List (Nat × Nat)) (q : Nat × Nat) : List (Nat × Nat) := if q ∈ es then es else es ++ [q]
theorem dPutV_pair (es : List (Nat × Nat)) (q : Nat × Nat) : dPutV (kvsD es) (pairN q) (.bool true) = kvsD (addN es q) := by
  unfold dPutV addN
  have h : ((kvsD es).any fun p => dkEq p.1 (pairN q)) = decide (q ∈ es) := by
    rw [Bool.eq_iff_iff]
    simp [kvsD, dkEq_pair]
  rw [h]
  by_cases hq : q ∈ es
  · rw [if_pos (by simpa using hq), if_pos hq]
    unfold kvsD
    rw [List.map_map]
    refine List.map_congr_left fun p hp => ?_
    show (if dkEq (pairN p) (pairN q) = true then (pairN p, PyData.bool true) else (pairN p, PyData.bool true)) = _
    rw [ite_self]
  · rw [if_neg (by simpa using hq), if_neg hq]
    simp [kvsD]
def castP (p : Nat × Nat) : Int × Int := (p.1, p.2)
def unP (p : Int × Int) : Nat × Nat := (p.1.toNat, p.2.toNat)
def sortN (es : List (Nat × Nat)) : List (Nat × Nat) := (sortP (es.map castP)).map unP
theorem sortN_cast (es : List (Nat × Nat)) : (sortN es).map castP = sortP (es.map castP) := by
  unfold sortN
  rw [List.map_map]
  refine (List.map_congr_left fun p hp => ?_).trans (List.map_id _)
  have hm : p ∈ es.map castP := (isort_perm leP _).mem_iff.mp hp
  obtain ⟨q, _, rfl⟩ := List.mem_map.mp hm
  rfl
theorem sortN_perm (es : List (Nat × Nat)) : (sortN es).Perm es := by
  have h : (sortP (es.map castP)).Perm (es.map castP) := isort_perm leP _
  have h2 := h.map unP
  rw [List.map_map] at h2
  have e : List.map (unP ∘ castP) es = es := (List.map_congr_left fun p _ => rfl).trans (List.map_id _)
  rw [e] at h2
  exact h2
theorem sortN_sorted {es : List (Nat × Nat)} (h : es.Nodup) : (sortN es).Pairwise lexN := by
  have h1 : (sortP (es.map castP)).Pairwise fun x y => leP x y = true := isort_sorted (fun a b c h1 h2 => by rw [leP_iff] at *; omega) (fun a b => by rw [leP_iff, leP_iff]; omega) _
  rw [← sortN_cast, List.pairwise_map] at h1
  have h2 : (sortN es).Nodup := (sortN_perm es).nodup_iff.mpr h
  refine (h1.and h2).imp fun {a b} ⟨h3, h4⟩ => ?_
  rw [leP_iff] at h3
  obtain ⟨a1, a2⟩ := a
  obtain ⟨b1, b2⟩ := b
  have : ¬ (a1 = b1 ∧ a2 = b2) := fun ⟨x, y⟩ => h4 (by rw [x, y])
  simp only [castP] at h3
  simp only [lexN]
  omega
theorem dSort_pair (es : List (Nat × Nat)) : dSort [.list (es.map pairN)] = some (.list ((sortN es).map pairN)) := by
  have e : ∀ l : List (Nat × Nat), l.map pairN = (l.map castP).map pairD := fun l => by rw [List.map_map]; rfl
  cases es with
  | nil => rfl
  | cons p es =>
    have h1 : dInts ((p :: es).map pairN) = none := rfl
    have h2 : dPairs ((p :: es).map pairN) = some ((p :: es).map castP) := by rw [e]; exact dPairs_of _
    rw [e (sortN _), sortN_cast]
    unfold dSort
    simp only [h1, h2]
structure Half (n k : Nat) (es : List (Nat × Nat)) : Prop where
  nd : es.Nodup
  inn : ∀ e ∈ es, e.1 < e.2 ∧ e.2 < n
  few : es.length ≤ k
theorem Half.add {n k : Nat} {es : List (Nat × Nat)} (h : Half n k es) {a b : Nat} (h1 : a < b) (h2 : b < n) : Half n (k + 1) (addN es (a, b)) := by
  unfold addN
  by_cases hq : (a, b) ∈ es
  · rw [if_pos hq]; exact ⟨h.nd, h.inn, Nat.le_succ_of_le h.few⟩
  · rw [if_neg hq]
    refine ⟨List.nodup_append.mpr ⟨h.nd, by simp, fun x hx y hy e => ?_⟩, fun e he => ?_, by simp; exact h.few⟩
    · cases List.mem_singleton.mp hy; exact hq (e ▸ hx)
    · rcases List.mem_append.mp he with p | p
      · exact h.inn e p
      · cases List.mem_singleton.mp p; exact ⟨h1, h2⟩
theorem Half.more {n k l : Nat} {es : List (Nat × Nat)} (h : Half n k es) (hk : k ≤ l) : Half n l es := ⟨h.nd, h.inn, Nat.le_trans h.few hk⟩
theorem Half.ok {n k : Nat} {es : List (Nat × Nat)} (h : Half n k es) (h1 : 1 ≤ n) (h2 : n ≤ 10) (hk : k ≤ 100) : Web.Ok ⟨n, sortN es⟩ :=
  ⟨h1, h2, by rw [(sortN_perm es).length_eq]; exact Nat.le_trans h.few hk, sortN_sorted h.nd, fun e he => h.inn e ((sortN_perm es).mem_iff.mp he)⟩
theorem put_pair {es : List (Nat × Nat)} (h : es.length ≤ 100) (q : Nat × Nat) : dPutAt (.dict (kvsD es)) (pairN q) (.bool true) = some (.dict (kvsD (addN es q))) := by
  have hl : (kvsD es).length < sizeLine := by unfold kvsD sizeLine; rw [List.length_map]; omega
  unfold dPutAt
  have hk := keyFits_pair es q
  cases q with
  | mk a b =>
    show (if (kvsD es).length < sizeLine ∧ keyFits (kvsD es) (pairN (a, b)) = true then some (PyData.dict (dPutV (kvsD es) (pairN (a, b)) (.bool true))) else none) = _
    rw [if_pos ⟨hl, hk⟩, dPutV_pair]

set_option autoImplicit false
theorem kvsD_T (es : List (Nat × Nat)) : ((kvsD es).all fun p => (toKT p.1).isSome) = true := by simp [kvsD, toKT_pair]
theorem kvsD_keys (es : List (Nat × Nat)) : (kvsD es).map (·.1) = es.map pairN := by simp [kvsD]
theorem web_drawn {ns : List Int} {d : D} (h : RowOk ns d) {most : Int} (hm0 : 0 < most) (hm : most ≤ 10) : ∃ (w : Web) (d' : D), f__law_web [.own d, .fz (.int most)] = .ok (webD w) [d'] ∧ w.Ok ∧ (w.n : Int) ≤ most ∧ RowOk ns d' := by
  obtain ⟨u, d1, e1, u0, u1, r1⟩ := taken h (m := most) (by omega) (by omega)
  obtain ⟨way, d2, e2, y0, y1, r2⟩ := taken r1 (m := 5) (by omega) (by omega)
  obtain ⟨n, hn⟩ : ∃ n : Nat, 1 + u = n := ⟨(1 + u).toNat, by omega⟩
  have n1 : 1 ≤ n := by omega
  have n2 : (n : Int) ≤ most := by omega
  obtain ⟨r, b, e, w, d', er, eb, hs, hn', hr⟩ := W.fn (len := 8) (n := 2) (ios := [0]) (m := m__law_web) (ss := [.own d, .fz (.int most)]) (P := fun r b => ∃ w d', r = webD w ∧ b = [d'] ∧ w.Ok ∧ (w.n : Int) ≤ most ∧ RowOk ns d') rfl (by
    unfold m__law_web
    refine .seq (.nx (ρ' := [.own d2, .fz (.int most), .fz (.int n), .fz (.int way), .own (.dict (kvsD [])), .no, .no, .no]) (by simp [fnM, ownIx, backs, sRet, sSeq, sIf, sSet, sOwn, sDo, sNil, sAsg, Rs.sr, mOp2, Opd.ev, Opd.fin, at_, Sl.val, Rs.then, mLit, mVar, mB, mAnd, mOr, mNot, bAnd, bOr, bNot, mIf, bYes, mTup, mLst, evm, evo, fino, mFn, mCall, eva, sls, ioIx, putBack, Arg.opd, iSeq, iRng, fR1, fR2, sFor, tmName, tmTup, tmSeq, mApp, mExt, mPutAt, dPutAt, mIsi, dTy, isB, dEq, dNe, dLt, dLe, dGt, dGe, dIsN, dNotN, dAdd, dSub, dMod, dFdiv, dMul, dAt, dLen, dInt, dTuple, dList, mChain, sPar, setP, e1, e2, mDict0, hn, kvsD]) ?_)
    refine .seq (.rngl (lo := 1) (n := n - 1) (ρ0 := [.own d2, .fz (.int most), .fz (.int n), .fz (.int way), .own (.dict (kvsD [])), .no, .no, .no]) (fun k ρ => ∃ (d : D) (es : List (Nat × Nat)) (x : Sl), ρ = [.own d, .fz (.int most), .fz (.int n), .fz (.int way), .own (.dict (kvsD es)), x, .no, .no] ∧ RowOk ns d ∧ Half n k es) ?_ ?_ ?_ ?_)
    · have := iRng_ok (f := fR2) (os := [.ex (mLit (.int 1)), .sl 2]) (lo := 1) (hi := (n : Int)) (ρ := [.own d2, .fz (.int most), .fz (.int n), .fz (.int way), .own (.dict (kvsD [])), .no, .no, .no]) (ρ1 := [.own d2, .fz (.int most), .fz (.int n), .fz (.int way), .own (.dict (kvsD [])), .no, .no, .no]) (xs := [some (.int 1), none]) (ds := [.int 1, .int n]) (by simp [fnM, ownIx, backs, sRet, sSeq, sIf, sSet, sOwn, sDo, sNil, sAsg, Rs.sr, mOp2, Opd.ev, Opd.fin, at_, Sl.val, Rs.then, mLit, mVar, mB, mAnd, mOr, mNot, bAnd, bOr, bNot, mIf, bYes, mTup, mLst, evm, evo, fino, mFn, mCall, eva, sls, ioIx, putBack, Arg.opd, iSeq, iRng, fR1, fR2, sFor, tmName, tmTup, tmSeq, mApp, mExt, mPutAt, dPutAt, mIsi, dTy, isB, dEq, dNe, dLt, dLe, dGt, dGe, dIsN, dNotN, dAdd, dSub, dMod, dFdiv, dMul, dAt, dLen, dInt, dTuple, dList, mChain, sPar, setP]) (by simp [fnM, ownIx, backs, sRet, sSeq, sIf, sSet, sOwn, sDo, sNil, sAsg, Rs.sr, mOp2, Opd.ev, Opd.fin, at_, Sl.val, Rs.then, mLit, mVar, mB, mAnd, mOr, mNot, bAnd, bOr, bNot, mIf, bYes, mTup, mLst, evm, evo, fino, mFn, mCall, eva, sls, ioIx, putBack, Arg.opd, iSeq, iRng, fR1, fR2, sFor, tmName, tmTup, tmSeq, mApp, mExt, mPutAt, dPutAt, mIsi, dTy, isB, dEq, dNe, dLt, dLe, dGt, dGe, dIsN, dNotN, dAdd, dSub, dMod, dFdiv, dMul, dAt, dLen, dInt, dTuple, dList, mChain, sPar, setP]) rfl ⟨by omega, by omega, by omega, by omega⟩
      rw [show ((n : Int) - 1).toNat = n - 1 by omega] at this
      exact this
    · exact ⟨d2, [], _, rfl, r2, ⟨by simp, by simp, by simp⟩⟩
    · rintro k _ hk ⟨d, es, x, rfl, hr, hh⟩
      have hp : ∀ (a b : Nat) (x y : Int), x = a → y = b → dPutAt (.dict (kvsD es)) (.tuple [.int x, .int y]) (.bool true) = some (.dict (kvsD (addN es (a, b)))) := fun a b x y hx hy => by
        rw [hx, hy]; exact put_pair (es := es) (Nat.le_trans hh.few (by omega)) (a, b)
      have fin : ∀ (d : D) (a : Nat), RowOk ns d → a < k + 1 → ∃ (d' : D) (es' : List (Nat × Nat)) (x : Sl), ([.own d, .fz (.int most), .fz (.int n), .fz (.int way), .own (.dict (kvsD (addN es (a, k + 1)))), .fz (.int (1 + k)), .no, .no] : Env) = [.own d', .fz (.int most), .fz (.int n), .fz (.int way), .own (.dict (kvsD es')), x, .no, .no] ∧ RowOk ns d' ∧ Half n (k + 1) es' := fun d a h1 h2 => ⟨d, _, _, rfl, h1, hh.add h2 (by omega)⟩
      have key : ∀ d, RowOk ns d → W (sAsg (mLit (.bool true)) (mPutAt 4 (.ex (mTup [mIf (mB (mOp2 dLt (.sl 3) (.ex (mLit (.int 3))))) (mOp2 dSub (.sl 5) (.ex (mLit (.int 1)))) (mCall f__law_taken [.io 0, .v (mVar 5)]), mVar 5])))) [.own d, .fz (.int most), .fz (.int n), .fz (.int way), .own (.dict (kvsD es)), .fz (.int (1 + k)), .no, .no]
          (fun ρ => ∃ (d : D) (es : List (Nat × Nat)) (x : Sl), ρ = [.own d, .fz (.int most), .fz (.int n), .fz (.int way), .own (.dict (kvsD es)), x, .no, .no] ∧ RowOk ns d ∧ Half n (k + 1) es) fun d ρ => False := fun d hr => by
        by_cases hw : way < 3
        · exact .nx (by simp [fnM, ownIx, backs, sRet, sSeq, sIf, sSet, sOwn, sDo, sNil, sAsg, Rs.sr, mOp2, Opd.ev, Opd.fin, at_, Sl.val, Rs.then, mLit, mVar, mB, mAnd, mOr, mNot, bAnd, bOr, bNot, mIf, bYes, mTup, mLst, evm, evo, fino, mFn, mCall, eva, sls, ioIx, putBack, Arg.opd, iSeq, iRng, fR1, fR2, sFor, tmName, tmTup, tmSeq, mApp, mExt, mPutAt, mIsi, dTy, isB, dEq, dNe, dLt, dLe, dGt, dGe, dIsN, dNotN, dAdd, dSub, dMod, dFdiv, dMul, dAt, dLen, dInt, dTuple, dList, mChain, sPar, setP, hw, hp k (k + 1) (1 + k - 1) (1 + k) (by omega) (by omega)]) (fin d k hr (by omega))
        · obtain ⟨v, d', e, v0, v1, r⟩ := taken hr (m := 1 + k) (by omega) (by omega)
          exact .nx (by simp [fnM, ownIx, backs, sRet, sSeq, sIf, sSet, sOwn, sDo, sNil, sAsg, Rs.sr, mOp2, Opd.ev, Opd.fin, at_, Sl.val, Rs.then, mLit, mVar, mB, mAnd, mOr, mNot, bAnd, bOr, bNot, mIf, bYes, mTup, mLst, evm, evo, fino, mFn, mCall, eva, sls, ioIx, putBack, Arg.opd, iSeq, iRng, fR1, fR2, sFor, tmName, tmTup, tmSeq, mApp, mExt, mPutAt, mIsi, dTy, isB, dEq, dNe, dLt, dLe, dGt, dGe, dIsN, dNotN, dAdd, dSub, dMod, dFdiv, dMul, dAt, dLen, dInt, dTuple, dList, mChain, sPar, setP, hw, e, hp v.toNat (k + 1) v (1 + k) (by omega) (by omega)]) (fin d' v.toNat r (by omega))
      by_cases hy : 0 < way
      · exact .ite (x := true) (ρ1 := [.own d, .fz (.int most), .fz (.int n), .fz (.int way), .own (.dict (kvsD es)), .fz (.int (1 + k)), .no, .no]) (by simp [fnM, ownIx, backs, sRet, sSeq, sIf, sSet, sOwn, sDo, sNil, sAsg, Rs.sr, mOp2, Opd.ev, Opd.fin, at_, Sl.val, Rs.then, mLit, mVar, mB, mAnd, mOr, mNot, bAnd, bOr, bNot, mIf, bYes, mTup, mLst, evm, evo, fino, mFn, mCall, eva, sls, ioIx, putBack, Arg.opd, iSeq, iRng, fR1, fR2, sFor, tmName, tmTup, tmSeq, mApp, mExt, mPutAt, mIsi, dTy, isB, dEq, dNe, dLt, dLe, dGt, dGe, dIsN, dNotN, dAdd, dSub, dMod, dFdiv, dMul, dAt, dLen, dInt, dTuple, dList, mChain, sPar, setP, hy]) ((key d hr).imp (fun _ h => h) fun _ _ h => h.elim)
      · obtain ⟨v, d', e, v0, v1, r⟩ := taken hr (m := 3) (by omega) (by omega)
        by_cases hv : 0 < v
        · exact .ite (x := true) (ρ1 := [.own d', .fz (.int most), .fz (.int n), .fz (.int way), .own (.dict (kvsD es)), .fz (.int (1 + k)), .no, .no]) (by simp [fnM, ownIx, backs, sRet, sSeq, sIf, sSet, sOwn, sDo, sNil, sAsg, Rs.sr, mOp2, Opd.ev, Opd.fin, at_, Sl.val, Rs.then, mLit, mVar, mB, mAnd, mOr, mNot, bAnd, bOr, bNot, mIf, bYes, mTup, mLst, evm, evo, fino, mFn, mCall, eva, sls, ioIx, putBack, Arg.opd, iSeq, iRng, fR1, fR2, sFor, tmName, tmTup, tmSeq, mApp, mExt, mPutAt, mIsi, dTy, isB, dEq, dNe, dLt, dLe, dGt, dGe, dIsN, dNotN, dAdd, dSub, dMod, dFdiv, dMul, dAt, dLen, dInt, dTuple, dList, mChain, sPar, setP, hy, e, hv]) ((key d' r).imp (fun _ h => h) fun _ _ h => h.elim)
        · exact .ite (x := false) (ρ1 := [.own d', .fz (.int most), .fz (.int n), .fz (.int way), .own (.dict (kvsD es)), .fz (.int (1 + k)), .no, .no]) (by simp [fnM, ownIx, backs, sRet, sSeq, sIf, sSet, sOwn, sDo, sNil, sAsg, Rs.sr, mOp2, Opd.ev, Opd.fin, at_, Sl.val, Rs.then, mLit, mVar, mB, mAnd, mOr, mNot, bAnd, bOr, bNot, mIf, bYes, mTup, mLst, evm, evo, fino, mFn, mCall, eva, sls, ioIx, putBack, Arg.opd, iSeq, iRng, fR1, fR2, sFor, tmName, tmTup, tmSeq, mApp, mExt, mPutAt, mIsi, dTy, isB, dEq, dNe, dLt, dLe, dGt, dGe, dIsN, dNotN, dAdd, dSub, dMod, dFdiv, dMul, dAt, dLen, dInt, dTuple, dList, mChain, sPar, setP, hy, e, hv]) (.nx rfl ⟨d', es, _, rfl, r, hh.more (by omega)⟩)
    · rintro _ ⟨d3, es, x, rfl, r3, h3⟩
      have hp : dPutAt (.dict (kvsD es)) (.tuple [.int 0, .int ((n : Int) - 1)]) (.bool true) = some (.dict (kvsD (addN es (0, n - 1)))) := by
        have := put_pair (es := es) (Nat.le_trans h3.few (by omega)) (0, n - 1)
        rw [← this]
        unfold pairN
        rw [show (((0, n - 1) : Nat × Nat).2 : Int) = (n : Int) - 1 by show ((n - 1 : Nat) : Int) = _; omega]
        rfl
      refine .seq (W.imp (N := fun ρ => ∃ (d : D) (es : List (Nat × Nat)) (x y : Sl), ρ = [.own d, .fz (.int most), .fz (.int n), .fz (.int way), .own (.dict (kvsD es)), x, y, .no] ∧ RowOk ns d ∧ Half n n es) (R := fun _ _ => False) ?_ ?_ fun _ _ h => h.elim)
      · have st : ∀ (d : D) (es' : List (Nat × Nat)), RowOk ns d → Half n n es' → ∃ (d' : D) (es : List (Nat × Nat)) (x' y : Sl), ([.own d, .fz (.int most), .fz (.int n), .fz (.int way), .own (.dict (kvsD es')), x, .no, .no] : Env) = [.own d', .fz (.int most), .fz (.int n), .fz (.int way), .own (.dict (kvsD es)), x', y, .no] ∧ RowOk ns d' ∧ Half n n es := fun d es' h1 h2 => ⟨d, es', x, .no, rfl, h1, h2⟩
        by_cases hc : (way = 1 ∨ way = 2) ∧ 2 < n
        · obtain ⟨hc1, hc2⟩ := hc
          have hc3 : (2 : Int) < n := by omega
          refine .ite (x := true) (ρ1 := [.own d3, .fz (.int most), .fz (.int n), .fz (.int way), .own (.dict (kvsD es)), x, .no, .no]) ?_ (.nx (by simp [fnM, ownIx, backs, sRet, sSeq, sIf, sSet, sOwn, sDo, sNil, sAsg, Rs.sr, mOp2, Opd.ev, Opd.fin, at_, Sl.val, Rs.then, mLit, mVar, mB, mAnd, mOr, mNot, bAnd, bOr, bNot, mIf, bYes, mTup, mLst, evm, evo, fino, mFn, mCall, eva, sls, ioIx, putBack, Arg.opd, iSeq, iRng, fR1, fR2, sFor, tmName, tmTup, tmSeq, mApp, mExt, mPutAt, mIsi, dTy, isB, dEq, dNe, dLt, dLe, dGt, dGe, dIsN, dNotN, dAdd, dSub, dMod, dFdiv, dMul, dAt, dLen, dInt, dTuple, dList, mChain, sPar, setP, hp]) (st d3 _ r3 ((h3.add (a := 0) (b := n - 1) (by omega) (by omega)).more (by omega))))
          rcases hc1 with rfl | rfl <;> simp [fnM, ownIx, backs, sRet, sSeq, sIf, sSet, sOwn, sDo, sNil, sAsg, Rs.sr, mOp2, Opd.ev, Opd.fin, at_, Sl.val, Rs.then, mLit, mVar, mB, mAnd, mOr, mNot, bAnd, bOr, bNot, mIf, bYes, mTup, mLst, evm, evo, fino, mFn, mCall, eva, sls, ioIx, putBack, Arg.opd, iSeq, iRng, fR1, fR2, sFor, tmName, tmTup, tmSeq, mApp, mExt, mPutAt, mIsi, dTy, isB, dEq, dNe, dLt, dLe, dGt, dGe, dIsN, dNotN, dAdd, dSub, dMod, dFdiv, dMul, dAt, dLen, dInt, dTuple, dList, mChain, sPar, setP, dIn, dHas, inAny, okD, SeqAt.shaped, PyData.canLay0, PyData.canLayAll0, PyData.depth, PyData.depthAll, PyData.eqv, hc2, hc3]
        · refine .ite (x := false) (ρ1 := [.own d3, .fz (.int most), .fz (.int n), .fz (.int way), .own (.dict (kvsD es)), x, .no, .no]) ?_ (.nx rfl (st d3 _ r3 (h3.more (by omega))))
          by_cases hc1 : way = 1 ∨ way = 2
          · have hc3 : ¬ (2 : Int) < n := by omega
            rcases hc1 with rfl | rfl <;> simp [fnM, ownIx, backs, sRet, sSeq, sIf, sSet, sOwn, sDo, sNil, sAsg, Rs.sr, mOp2, Opd.ev, Opd.fin, at_, Sl.val, Rs.then, mLit, mVar, mB, mAnd, mOr, mNot, bAnd, bOr, bNot, mIf, bYes, mTup, mLst, evm, evo, fino, mFn, mCall, eva, sls, ioIx, putBack, Arg.opd, iSeq, iRng, fR1, fR2, sFor, tmName, tmTup, tmSeq, mApp, mExt, mPutAt, mIsi, dTy, isB, dEq, dNe, dLt, dLe, dGt, dGe, dIsN, dNotN, dAdd, dSub, dMod, dFdiv, dMul, dAt, dLen, dInt, dTuple, dList, mChain, sPar, setP, dIn, dHas, inAny, okD, SeqAt.shaped, PyData.canLay0, PyData.canLayAll0, PyData.depth, PyData.depthAll, PyData.eqv, hc3]
          · have hc2 : ¬ 1 = way := by omega
            have hc3 : ¬ 2 = way := by omega
            simp [fnM, ownIx, backs, sRet, sSeq, sIf, sSet, sOwn, sDo, sNil, sAsg, Rs.sr, mOp2, Opd.ev, Opd.fin, at_, Sl.val, Rs.then, mLit, mVar, mB, mAnd, mOr, mNot, bAnd, bOr, bNot, mIf, bYes, mTup, mLst, evm, evo, fino, mFn, mCall, eva, sls, ioIx, putBack, Arg.opd, iSeq, iRng, fR1, fR2, sFor, tmName, tmTup, tmSeq, mApp, mExt, mPutAt, mIsi, dTy, isB, dEq, dNe, dLt, dLe, dGt, dGe, dIsN, dNotN, dAdd, dSub, dMod, dFdiv, dMul, dAt, dLen, dInt, dTuple, dList, mChain, sPar, setP, dIn, dHas, inAny, okD, SeqAt.shaped, PyData.canLay0, PyData.canLayAll0, PyData.depth, PyData.depthAll, PyData.eqv, hc2, hc3]
      · rintro _ ⟨d4, es, x, y, rfl, r4, h4⟩
        obtain ⟨c, d5, hit, r5, hc⟩ : ∃ (c : Nat) (d5 : D), iRng fR1 [.ex (mIf (mB (mOp2 dNe (.sl 3) (.ex (mLit (.int 1))))) (mCall f__law_taken [.io 0, .v (mVar 2)]) (mLit (.int 0)))] [.own d4, .fz (.int most), .fz (.int n), .fz (.int way), .own (.dict (kvsD es)), x, y, .no] = .ok (up 0 c) [.own d5, .fz (.int most), .fz (.int n), .fz (.int way), .own (.dict (kvsD es)), x, y, .no] ∧ RowOk ns d5 ∧ c ≤ n := by
          by_cases hw : way = 1
          · refine ⟨0, d4, iRng_nat (xs := [some (.int 0)]) ?_ rfl (by omega), r4, by omega⟩
            simp [fnM, ownIx, backs, sRet, sSeq, sIf, sSet, sOwn, sDo, sNil, sAsg, Rs.sr, mOp2, Opd.ev, Opd.fin, at_, Sl.val, Rs.then, mLit, mVar, mB, mAnd, mOr, mNot, bAnd, bOr, bNot, mIf, bYes, mTup, mLst, evm, evo, fino, mFn, mCall, eva, sls, ioIx, putBack, Arg.opd, iSeq, iRng, fR1, fR2, sFor, tmName, tmTup, tmSeq, mApp, mExt, mPutAt, mIsi, dTy, isB, dEq, dNe, dLt, dLe, dGt, dGe, dIsN, dNotN, dAdd, dSub, dMod, dFdiv, dMul, dAt, dLen, dInt, dTuple, dList, mChain, sPar, setP, hw, okD, SeqAt.shaped, PyData.canLay0, PyData.depth, PyData.eqv]
          · obtain ⟨v, d', e, v0, v1, r⟩ := taken r4 (m := n) (by omega) (by omega)
            have hv : v = (v.toNat : Int) := by omega
            refine ⟨v.toNat, d', iRng_nat (xs := [some (.int v)]) ?_ (by rw [← hv]; rfl) (by omega), r, by omega⟩
            simp [fnM, ownIx, backs, sRet, sSeq, sIf, sSet, sOwn, sDo, sNil, sAsg, Rs.sr, mOp2, Opd.ev, Opd.fin, at_, Sl.val, Rs.then, mLit, mVar, mB, mAnd, mOr, mNot, bAnd, bOr, bNot, mIf, bYes, mTup, mLst, evm, evo, fino, mFn, mCall, eva, sls, ioIx, putBack, Arg.opd, iSeq, iRng, fR1, fR2, sFor, tmName, tmTup, tmSeq, mApp, mExt, mPutAt, mIsi, dTy, isB, dEq, dNe, dLt, dLe, dGt, dGe, dIsN, dNotN, dAdd, dSub, dMod, dFdiv, dMul, dAt, dLen, dInt, dTuple, dList, mChain, sPar, setP, hw, e, okD, SeqAt.shaped, PyData.canLay0, PyData.depth, PyData.eqv]
        refine .seq (.rng (n := c) (fun k ρ => ∃ (d : D) (es : List (Nat × Nat)) (x y z : Sl), ρ = [.own d, .fz (.int most), .fz (.int n), .fz (.int way), .own (.dict (kvsD es)), x, y, z] ∧ RowOk ns d ∧ Half n (n + k) es) hit ⟨d5, es, x, y, _, rfl, r5, h4⟩ ?_ ?_)
        · rintro k _ hk ⟨d, es, x, y, z, rfl, r, hh⟩
          obtain ⟨a', e1, g1, a0, a1, q1⟩ := taken r (m := n) (by omega) (by omega)
          obtain ⟨b', e2, g2, b0, b1, q2⟩ := taken q1 (m := n) (by omega) (by omega)
          refine .seq (.nx (ρ' := [.own e2, .fz (.int most), .fz (.int n), .fz (.int way), .own (.dict (kvsD es)), .fz (.int a'), .fz (.int k), .fz (.int b')]) (by simp [fnM, ownIx, backs, sRet, sSeq, sIf, sSet, sOwn, sDo, sNil, sAsg, Rs.sr, mOp2, Opd.ev, Opd.fin, at_, Sl.val, Rs.then, mLit, mVar, mB, mAnd, mOr, mNot, bAnd, bOr, bNot, mIf, bYes, mTup, mLst, evm, evo, fino, mFn, mCall, eva, sls, ioIx, putBack, Arg.opd, iSeq, iRng, fR1, fR2, sFor, tmName, tmTup, tmSeq, mApp, mExt, mPutAt, mIsi, dTy, isB, dEq, dNe, dLt, dLe, dGt, dGe, dIsN, dNotN, dAdd, dSub, dMod, dFdiv, dMul, dAt, dLen, dInt, dTuple, dList, mChain, sPar, setP, g1, g2]) ?_)
          have fin : ∀ es' : List (Nat × Nat), Half n (n + (k + 1)) es' → ∃ (d : D) (es : List (Nat × Nat)) (x y z : Sl), ([.own e2, .fz (.int most), .fz (.int n), .fz (.int way), .own (.dict (kvsD es')), .fz (.int a'), .fz (.int k), .fz (.int b')] : Env) = [.own d, .fz (.int most), .fz (.int n), .fz (.int way), .own (.dict (kvsD es)), x, y, z] ∧ RowOk ns d ∧ Half n (n + (k + 1)) es := fun es' h => ⟨e2, es', _, _, _, rfl, q2, h⟩
          by_cases hab : a' = b'
          · refine .ite (x := false) (ρ1 := [.own e2, .fz (.int most), .fz (.int n), .fz (.int way), .own (.dict (kvsD es)), .fz (.int a'), .fz (.int k), .fz (.int b')]) ?_ (.nx rfl (fin es (hh.more (by omega))))
            simp [fnM, ownIx, backs, sRet, sSeq, sIf, sSet, sOwn, sDo, sNil, sAsg, Rs.sr, mOp2, Opd.ev, Opd.fin, at_, Sl.val, Rs.then, mLit, mVar, mB, mAnd, mOr, mNot, bAnd, bOr, bNot, mIf, bYes, mTup, mLst, evm, evo, fino, mFn, mCall, eva, sls, ioIx, putBack, Arg.opd, iSeq, iRng, fR1, fR2, sFor, tmName, tmTup, tmSeq, mApp, mExt, mPutAt, mIsi, dTy, isB, dEq, dNe, dLt, dLe, dGt, dGe, dIsN, dNotN, dAdd, dSub, dMod, dFdiv, dMul, dAt, dLen, dInt, dTuple, dList, mChain, sPar, setP, okD, SeqAt.shaped, PyData.canLay0, PyData.depth, PyData.eqv, hab]
          · refine .ite (x := true) (ρ1 := [.own e2, .fz (.int most), .fz (.int n), .fz (.int way), .own (.dict (kvsD es)), .fz (.int a'), .fz (.int k), .fz (.int b')]) ?_ (.nx ?_ (fin (addN es ((min a' b').toNat, (max a' b').toNat)) (hh.add (by omega) (by omega))))
            · simp [fnM, ownIx, backs, sRet, sSeq, sIf, sSet, sOwn, sDo, sNil, sAsg, Rs.sr, mOp2, Opd.ev, Opd.fin, at_, Sl.val, Rs.then, mLit, mVar, mB, mAnd, mOr, mNot, bAnd, bOr, bNot, mIf, bYes, mTup, mLst, evm, evo, fino, mFn, mCall, eva, sls, ioIx, putBack, Arg.opd, iSeq, iRng, fR1, fR2, sFor, tmName, tmTup, tmSeq, mApp, mExt, mPutAt, mIsi, dTy, isB, dEq, dNe, dLt, dLe, dGt, dGe, dIsN, dNotN, dAdd, dSub, dMod, dFdiv, dMul, dAt, dLen, dInt, dTuple, dList, mChain, sPar, setP, okD, SeqAt.shaped, PyData.canLay0, PyData.depth, PyData.eqv, hab]
            · have hp : ∀ x y : Int, x = min a' b' → y = max a' b' → dPutAt (.dict (kvsD es)) (.tuple [.int x, .int y]) (.bool true) = some (.dict (kvsD (addN es ((min a' b').toNat, (max a' b').toNat)))) := fun x y hx hy => by
                rw [← put_pair (es := es) (Nat.le_trans hh.few (by omega)), show x = ((min a' b').toNat : Int) by omega, show y = ((max a' b').toNat : Int) by omega]
                rfl
              rcases Int.lt_or_gt_of_ne hab with l | l
              · have l1 : ¬ b' < a' := by omega
                simp [fnM, ownIx, backs, sRet, sSeq, sIf, sSet, sOwn, sDo, sNil, sAsg, Rs.sr, mOp2, Opd.ev, Opd.fin, at_, Sl.val, Rs.then, mLit, mVar, mB, mAnd, mOr, mNot, bAnd, bOr, bNot, mIf, bYes, mTup, mLst, evm, evo, fino, mFn, mCall, eva, sls, ioIx, putBack, Arg.opd, iSeq, iRng, fR1, fR2, sFor, tmName, tmTup, tmSeq, mApp, mExt, mPutAt, mIsi, dTy, isB, dEq, dNe, dLt, dLe, dGt, dGe, dIsN, dNotN, dAdd, dSub, dMod, dFdiv, dMul, dAt, dLen, dInt, dTuple, dList, mChain, sPar, setP, dMin2, dMax2, l, l1, hp a' b' (by omega) (by omega)]
              · have l1 : ¬ a' < b' := by omega
                have l2 : b' < a' := l
                simp [fnM, ownIx, backs, sRet, sSeq, sIf, sSet, sOwn, sDo, sNil, sAsg, Rs.sr, mOp2, Opd.ev, Opd.fin, at_, Sl.val, Rs.then, mLit, mVar, mB, mAnd, mOr, mNot, bAnd, bOr, bNot, mIf, bYes, mTup, mLst, evm, evo, fino, mFn, mCall, eva, sls, ioIx, putBack, Arg.opd, iSeq, iRng, fR1, fR2, sFor, tmName, tmTup, tmSeq, mApp, mExt, mPutAt, mIsi, dTy, isB, dEq, dNe, dLt, dLe, dGt, dGe, dIsN, dNotN, dAdd, dSub, dMod, dFdiv, dMul, dAt, dLen, dInt, dTuple, dList, mChain, sPar, setP, dMin2, dMax2, l1, l2, hp b' a' (by omega) (by omega)]
        · rintro _ ⟨d6, es, x, y, z, rfl, r6, h6⟩
          exact .rt (d := webD ⟨n, sortN es⟩) (ρ' := [.own d6, .fz (.int most), .fz (.int n), .fz (.int way), .own (.dict (kvsD es)), x, y, z]) (by simp [fnM, ownIx, backs, sRet, sSeq, sIf, sSet, sOwn, sDo, sNil, sAsg, Rs.sr, mOp2, Opd.ev, Opd.fin, at_, Sl.val, Rs.then, mLit, mVar, mB, mAnd, mOr, mNot, bAnd, bOr, bNot, mIf, bYes, mTup, mLst, evm, evo, fino, mFn, mCall, eva, sls, ioIx, putBack, Arg.opd, iSeq, iRng, fR1, fR2, sFor, tmName, tmTup, tmSeq, mApp, mExt, mPutAt, dPutAt, mIsi, dTy, isB, dEq, dNe, dLt, dLe, dGt, dGe, dIsN, dNotN, dAdd, dSub, dMod, dFdiv, dMul, dAt, dLen, dInt, dTuple, dList, mChain, sPar, setP, mKeys, kvsD_T, kvsD_keys, dSort_pair, webD]) ⟨[d6], rfl, ⟨n, sortN es⟩, d6, rfl, rfl, h6.ok n1 (by omega) (by omega), n2, r6⟩)
  exact ⟨w, d', by rw [← er, ← eb]; exact e, hs, hn', hr⟩

set_option autoImplicit false
theorem depthAll_le {α : Type} {f : α → D} {k : Nat} (h : ∀ x, (f x).depth ≤ k) : ∀ l : List α, PyData.depthAll (l.map f) ≤ k
  | [] => Nat.zero_le _
  | x :: l => by
    show max _ _ ≤ k
    have h1 := h x
    have h2 := depthAll_le h l
    omega
theorem canAll_map {α : Type} {f : α → D} (h : ∀ x, (f x).canLay0 = true) : ∀ l : List α, PyData.canLayAll0 (l.map f) = true
  | [] => by simp [PyData.canLayAll0]
  | x :: l => by
    simp only [List.map_cons, PyData.canLayAll0, h x, canAll_map h l, Bool.and_self]
/-- laid, no deeper than k -/
structure Shp (k : Nat) (d : D) : Prop where
  can : d.canLay0 = true
  dep : d.depth ≤ k
theorem Shp.ok {k : Nat} {d : D} (h : Shp k d) (hk : k ≤ 64 := by decide) : okD d = true := by
  unfold okD SeqAt.shaped
  rw [h.can, Bool.true_and, decide_eq_true_iff]
  exact Nat.le_trans h.dep hk
theorem Shp.int (i : Int) : Shp 0 (.int i) := ⟨by simp [PyData.canLay0], by simp [PyData.depth]⟩
theorem Shp.none : Shp 0 .none := ⟨by simp [PyData.canLay0], by simp [PyData.depth]⟩
theorem Shp.bool (b : Bool) : Shp 0 (.bool b) := ⟨by simp [PyData.canLay0], by simp [PyData.depth]⟩
theorem Shp.mono {k l : Nat} {d : D} (h : Shp k d) (hk : k ≤ l) : Shp l d := ⟨h.can, Nat.le_trans h.dep hk⟩
theorem Shp.list {α : Type} {f : α → D} {k : Nat} (h : ∀ x, Shp k (f x)) (l : List α) : Shp (k + 1) (.list (l.map f)) := ⟨by simp only [PyData.canLay0]; exact canAll_map (fun x => (h x).can) l, by
  have := depthAll_le (fun x => (h x).dep) l
  simp only [PyData.depth]; omega⟩
theorem Shp.tup {α : Type} {f : α → D} {k : Nat} (h : ∀ x, Shp k (f x)) (l : List α) : Shp (k + 1) (.tuple (l.map f)) := ⟨by simp only [PyData.canLay0]; exact canAll_map (fun x => (h x).can) l, by
  have := depthAll_le (fun x => (h x).dep) l
  simp only [PyData.depth]; omega⟩
theorem Shp.pair (p : Nat × Nat) : Shp 1 (pairN p) := Shp.tup (f := PyData.int) (k := 0) Shp.int [(p.1 : Int), (p.2 : Int)]
theorem okI (i : Int) : okD (.int i) = true := (Shp.int i).ok
theorem okB (b : Bool) : okD (.bool b) = true := (Shp.bool b).ok
theorem okPair (p : Nat × Nat) : okD (pairN p) = true := (Shp.pair p).ok
theorem okPairs (es : List (Nat × Nat)) : okD (.tuple (es.map pairN)) = true := (Shp.tup Shp.pair es).ok
theorem okIntsT (l : List Int) : okD (.tuple (l.map PyData.int)) = true := (Shp.tup Shp.int l).ok
theorem eqv_int (i j : Int) : PyData.eqv (.int i) (.int j) = decide (i = j) := by simp only [PyData.eqv]; rfl
theorem eqvAll_map {α : Type} [DecidableEq α] {f : α → D} (h : ∀ x y, PyData.eqv (f x) (f y) = decide (x = y)) : ∀ l m : List α, PyData.eqvAll (l.map f) (m.map f) = decide (l = m)
  | [], [] => by simp [PyData.eqvAll]
  | x :: l, [] => by simp [PyData.eqvAll]
  | [], x :: l => by simp [PyData.eqvAll]
  | x :: l, y :: m => by
    simp only [List.map_cons, PyData.eqvAll, h x y, eqvAll_map h l m]
    rw [← Bool.decide_and]
    exact decide_eq_decide.mpr (by simp)
theorem eqv_intsT (l m : List Int) : PyData.eqv (.tuple (l.map PyData.int)) (.tuple (m.map PyData.int)) = decide (l = m) := by simp only [PyData.eqv]; exact eqvAll_map eqv_int l m
theorem eqv_pair (p q : Nat × Nat) : PyData.eqv (pairN p) (pairN q) = decide (p = q) := by
  have := eqv_intsT [(p.1 : Int), (p.2 : Int)] [(q.1 : Int), (q.2 : Int)]
  refine this.trans (decide_eq_decide.mpr ?_)
  obtain ⟨a, b⟩ := p
  obtain ⟨c, d⟩ := q
  simp
  omega
theorem inAny_map {α : Type} [DecidableEq α] {f : α → D} (h : ∀ x y, PyData.eqv (f x) (f y) = decide (x = y)) (l : List α) (x : α) : inAny (l.map f) (f x) = decide (x ∈ l) := by
  unfold inAny
  rw [Bool.eq_iff_iff]
  simp [h]
def natD (i : Nat) : D := .int i
theorem up_range (n : Nat) : up 0 n = (List.range n).map natD := by
  refine List.ext_getElem? fun i => ?_
  by_cases h : i < n
  · have h1 : i < (up 0 n).length := by rw [up_len]; exact h
    obtain ⟨_, h3⟩ := up_get n 0 i _ (List.getElem?_eq_getElem h1)
    rw [List.getElem?_eq_getElem h1, h3]
    simp [h, natD]
  · rw [List.getElem?_eq_none (by rw [up_len]; omega), List.getElem?_eq_none (by simp; omega)]
theorem compM_of {α : Type} {f : α → D} {i : Nat} {cd : MB} {elt : ME} {p : α → Bool} {g : α → D} {ρ : Env} (hi : ρ[i]? = some .no) : ∀ (ds : List α) (acc : List D), (∀ d ∈ ds, cd (ρ.set i (.fz (f d))) = .ok (p d) (ρ.set i (.fz (f d)))) → (∀ d ∈ ds, p d = true → elt (ρ.set i (.fz (f d))) = .ok (g d) (ρ.set i (.fz (f d)))) →
    compM (tmName i) cd elt [i] (ds.map f) acc ρ = .ok (acc ++ (ds.filter p).map g) ρ
  | [], acc, _, _ => by simp [compM]
  | d :: ds, acc, hc, he => by
    have h1 := hc d List.mem_cons_self
    have ih := fun acc' => compM_of hi ds acc' (fun x hx => hc x (List.mem_cons_of_mem _ hx)) fun x hx => he x (List.mem_cons_of_mem _ hx)
    have ew : wipeE (ρ.set i (.fz (f d))) [i] = ρ := by
      show (wipeE (ρ.set i (.fz (f d))) []).set i .no = ρ
      exact set_set hi
    have e0 : compM (tmName i) cd elt [i] ((d :: ds).map f) acc ρ = (cd (ρ.set i (.fz (f d)))).then fun b ρ2 => if b = true then (elt ρ2).then fun y ρ3 => compM (tmName i) cd elt [i] (ds.map f) (acc ++ [y]) (wipeE ρ3 [i]) else compM (tmName i) cd elt [i] (ds.map f) acc (wipeE ρ2 [i]) := rfl
    rw [e0, h1]
    cases hp : p d with
    | false =>
      show compM (tmName i) cd elt [i] (ds.map f) acc (wipeE (ρ.set i (.fz (f d))) [i]) = _
      rw [ew, ih acc, List.filter_cons_of_neg (by rw [hp]; decide)]
    | true =>
      have h2 := he d List.mem_cons_self hp
      show ((elt (ρ.set i (.fz (f d)))).then fun y ρ3 => compM (tmName i) cd elt [i] (ds.map f) (acc ++ [y]) (wipeE ρ3 [i])) = _
      rw [h2]
      show compM (tmName i) cd elt [i] (ds.map f) (acc ++ [g d]) (wipeE (ρ.set i (.fz (f d))) [i]) = _
      rw [ew, ih, List.filter_cons_of_pos hp, List.map_cons, List.append_assoc]
      rfl
theorem mComp_of {α : Type} {f : α → D} {i : Nat} {it : MI} {cd : MB} {elt : ME} (p : α → Bool) (g : α → D) {ρ ρ1 : Env} {ds : List α} (hit : it ρ = .ok (ds.map f) ρ1) (hf : Free ρ1 i) (hc : ∀ d ∈ ds, cd (ρ1.set i (.fz (f d))) = .ok (p d) (ρ1.set i (.fz (f d))))
    (he : ∀ d ∈ ds, p d = true → elt (ρ1.set i (.fz (f d))) = .ok (g d) (ρ1.set i (.fz (f d)))) (hz : ds.length ≤ 1000000 := by omega) : mComp it (tmName i) cd elt [i] ρ = .ok (.list ((ds.filter p).map g)) ρ1 := by
  obtain ⟨s, hs, hn⟩ := hf
  obtain ⟨hl, hg⟩ := List.getElem?_eq_some_iff.mp hs
  have hw : wipeE ρ1 [i] = ρ1.set i .no := rfl
  have hi : (ρ1.set i .no)[i]? = some .no := List.getElem?_set_self hl
  have z := compM_of (f := f) (cd := cd) (elt := elt) (p := p) (g := g) hi ds [] (fun d hd => by rw [List.set_set]; exact hc d hd) fun d hd hp => by rw [List.set_set]; exact he d hd hp
  unfold mComp
  rw [hit]
  show (if (ds.map f).length ≤ sizeLine then _ else _) = _
  rw [if_pos (by rw [List.length_map]; unfold sizeLine; omega), hw, z]
  show Rs.ok _ (unwipe ρ1 (ρ1.set i .no) [i]) = _
  have hu : unwipe ρ1 (ρ1.set i .no) [i] = ρ1 := by
    show (unwipe ρ1 (ρ1.set i .no) []).set i (Sl.keep ρ1[i]?) = ρ1
    show (ρ1.set i .no).set i (Sl.keep ρ1[i]?) = ρ1
    rw [List.set_set, hs]
    have hk : Sl.keep (some s) = s := by
      cases s with
      | no => rfl
      | fz d => rfl
      | own d => exact (hn d rfl).elim
    rw [hk, ← hg]
    exact List.set_getElem_self hl
  rw [hu]
  rfl

set_option autoImplicit false
def Web.adj (w : Web) (i j : Nat) : Bool := decide ((min i j, max i j) ∈ w.es)
def Web.nbr (w : Web) (i : Nat) : List Nat := (List.range w.n).filter (w.adj i)
theorem fn_rt {len n : Nat} {ios : List Nat} {m : SM} {ss : List Sl} {d : D} {ρ : Env} {b : List D} (h : ownIx 0 ss = ios) (e : m (ss ++ List.replicate (len - n) .no) = .rt d ρ) (hb : backs ios ρ = some b) : fnM len n ios m ss = .ok d b := by
  unfold fnM
  rw [if_pos h, e]
  simp [hb]
/-- the same, by steps -/
theorem W.fn0 {len n : Nat} {m : SM} {ss : List Sl} {d : D} (h : ownIx 0 ss = []) (w : W m (ss ++ List.replicate (len - n) .no) (fun _ => d = .none) fun d' _ => d' = d) : fnM len n [] m ss = .ok d [] := by
  obtain ⟨d', b, e, rfl, rfl⟩ := W.fn (P := fun d' b => d' = d ∧ b = []) h (w.imp (fun ρ h => ⟨[], rfl, h.symm, rfl⟩) fun d ρ h => ⟨[], rfl, h, rfl⟩)
  exact e
theorem Free.no {ρ : Env} {i : Nat} (h : ρ[i]? = some .no) : Free ρ i := ⟨_, h, fun _ e => nomatch e⟩
theorem Free.fz {ρ : Env} {i : Nat} {d : D} (h : ρ[i]? = some (.fz d)) : Free ρ i := ⟨_, h, fun _ e => nomatch e⟩
theorem sDo_app {i : Nat} {m : ME} {ρ ρ' : Env} {d : D} {ds0 ds : List D} (h0 : ρ[i]? = some (.own (.list ds0))) (h1 : m ρ = .ok d ρ') (h2 : ρ'[i]? = some (.own (.list ds))) (hz : ds.length < sizeLine) : sDo (mApp i m) ρ = .nx (ρ'.set i (.own (.list (ds ++ [d])))) := by
  unfold sDo mApp
  rw [h0]
  simp only [h1, Rs.then]
  rw [h2]
  simp only [if_pos hz]
  rfl
theorem W.app {i : Nat} {m : ME} {ρ ρ' : Env} {d : D} {ds0 ds : List D} {N : Env → Prop} {R : D → Env → Prop} (h0 : ρ[i]? = some (.own (.list ds0))) (h1 : m ρ = .ok d ρ') (h2 : ρ'[i]? = some (.own (.list ds))) (hz : ds.length < 1000000) (h : N (ρ'.set i (.own (.list (ds ++ [d]))))) : W (sDo (mApp i m)) ρ N R :=
  .nx (sDo_app h0 h1 h2 (by unfold sizeLine; omega)) h
theorem W.own {i : Nat} {m : ME} {ρ ρ' : Env} {d : D} {N : Env → Prop} {R : D → Env → Prop} (e : m ρ = .ok d ρ') (h : N (ρ'.set i (.own d))) : W (sOwn i m) ρ N R := .nx (by unfold sOwn; rw [e]; rfl) h
theorem W.set' {i : Nat} {m : ME} {ρ ρ' : Env} {d : D} {N : Env → Prop} {R : D → Env → Prop} (e : m ρ = .ok d ρ') (h : N (ρ'.set i (.fz d))) : W (sSet i m) ρ N R := .nx (by unfold sSet; rw [e]; rfl) h
theorem W.ret {m : ME} {ρ ρ' : Env} {d : D} {N : Env → Prop} {R : D → Env → Prop} (e : m ρ = .ok d ρ') (h : R d ρ') : W (sRet m) ρ N R := .rt (by unfold sRet; rw [e]; rfl) h
theorem W.do' {m : ME} {ρ ρ' : Env} {d : D} {N : Env → Prop} {R : D → Env → Prop} (e : m ρ = .ok d ρ') (h : N ρ') : W (sDo m) ρ N R := .nx (by unfold sDo; rw [e]; rfl) h
theorem op2_ok {g : D → D → Option D} {o1 o2 : Opd} {ρ ρ1 ρ2 : Env} {x1 x2 : Option D} {d1 d2 d : D} (h1 : o1.ev ρ = .ok x1 ρ1) (h2 : o2.ev ρ1 = .ok x2 ρ2) (f1 : o1.fin x1 ρ2 = some d1) (f2 : o2.fin x2 ρ2 = some d2) (hg : g d1 d2 = some d) : mOp2 g o1 o2 ρ = .ok d ρ2 := by
  unfold mOp2
  rw [h1]
  simp only [Rs.then]
  rw [h2]
  simp only [Rs.then]
  rw [f1, f2]
  simp only [hg]
theorem mFn_ok {g : List D → Option D} {os : List Opd} {ρ ρ1 : Env} {xs : List (Option D)} {ds : List D} {d : D} (h1 : evo os ρ = .ok xs ρ1) (h2 : fino os xs ρ1 = some ds) (hg : g ds = some d) : mFn g os ρ = .ok d ρ1 := by
  unfold mFn
  rw [h1]
  simp only [Rs.then]
  rw [h2]
  simp only [hg]
theorem ev_ex {m : ME} {ρ ρ' : Env} {d : D} (e : m ρ = .ok d ρ') : (Opd.ex m).ev ρ = .ok (some d) ρ' := by
  show (m ρ).then _ = _
  rw [e]
  rfl
theorem W.ifT {t : MB} {a b : SM} {ρ ρ1 : Env} {N : Env → Prop} {R : D → Env → Prop} (e : t ρ = .ok true ρ1) (h : W a ρ1 N R) : W (sIf t a b) ρ N R := .ite e h
theorem W.ifF {t : MB} {a b : SM} {ρ ρ1 : Env} {N : Env → Prop} {R : D → Env → Prop} (e : t ρ = .ok false ρ1) (h : W b ρ1 N R) : W (sIf t a b) ρ N R := .ite e h
theorem W.nil {ρ : Env} {N : Env → Prop} {R : D → Env → Prop} (h : N ρ) : W sNil ρ N R := .nx rfl h
/-- a range of numbers, as it is evaluated -/
theorem rng_map {os : List Opd} {ρ ρ1 : Env} {xs : List (Option D)} {n : Nat} (h1 : evo os ρ = .ok xs ρ1) (h2 : fino os xs ρ1 = some [.int n]) (hb : n ≤ 1000000) : iRng fR1 os ρ = .ok ((List.range n).map natD) ρ1 := by
  rw [iRng_nat h1 h2 hb, up_range]
theorem in_es (w : Web) (a b : Int) (h : 0 ≤ a) (h2 : 0 ≤ b) : dIn (.tuple [.int a, .int b]) (.tuple (w.es.map pairN)) = some (.bool (decide ((a.toNat, b.toNat) ∈ w.es))) := by
  have e : (PyData.tuple [.int a, .int b]) = pairN (a.toNat, b.toNat) := by
    unfold pairN
    rw [show (((a.toNat, b.toNat) : Nat × Nat).1 : Int) = a by show ((a.toNat : Nat) : Int) = a; omega, show (((a.toNat, b.toNat) : Nat × Nat).2 : Int) = b by show ((b.toNat : Nat) : Int) = b; omega]
  rw [e]
  show Option.map PyData.bool (if (okD (pairN (a.toNat, b.toNat)) && okD (.tuple (w.es.map pairN))) = true then some (inAny (w.es.map pairN) (pairN (a.toNat, b.toNat))) else none) = _
  rw [okPair, okPairs, inAny_map eqv_pair]
  simp

set_option autoImplicit false
theorem Web.adj_lt {w : Web} (hw : w.Ok) {i j : Nat} (h : w.adj i j = true) : i < w.n ∧ j < w.n ∧ i ≠ j := by
  unfold Web.adj at h
  have h1 := hw.inn _ (of_decide_eq_true h)
  simp only at h1
  omega
theorem Web.adj_comm (w : Web) (i j : Nat) : w.adj i j = w.adj j i := by
  unfold Web.adj
  rw [Nat.min_comm, Nat.max_comm]
def mood (s : List Int) (i : Nat) : Int := s.getD i 0
def stp (s : List Int) (a b : Nat) : Int := (mood s b - mood s a + 1) % 3 - 1
def hot (w : Web) (s : List Int) (i : Nat) : Bool := (w.nbr i).any fun j => decide (stp s i j = 1)
def nxt (w : Web) (s : List Int) : List Int := (List.range w.n).map fun i => if hot w s i = true then (mood s i + 1) % 3 else mood s i
def runL (w : Web) (s : List Int) : Nat → List Int
  | 0 => s
  | k + 1 => nxt w (runL w s k)
def cnt (w : Web) (s : List Int) : Nat → Nat → Int
  | 0, _ => 0
  | k + 1, i => cnt w s k i + if hot w (runL w s k) i = true then 1 else 0
theorem mood_three {n : Nat} {s : List Int} (h : StOk n s) (i : Nat) : 0 ≤ mood s i ∧ mood s i < 3 := by
  unfold mood
  rw [List.getD_eq_getElem?_getD]
  cases e : s[i]? with
  | none => simp
  | some x => exact h.three x (List.mem_of_getElem? e)
theorem nxt_ok {w : Web} {s : List Int} (h : StOk w.n s) : StOk w.n (nxt w s) := by
  refine ⟨by unfold nxt; simp, fun x hx => ?_⟩
  unfold nxt at hx
  obtain ⟨i, _, rfl⟩ := List.mem_map.mp hx
  have := mood_three h i
  split <;> omega
theorem run_ok {w : Web} {s : List Int} (h : StOk w.n s) : ∀ k, StOk w.n (runL w s k)
  | 0 => h
  | k + 1 => nxt_ok (run_ok h k)
def Ht (w : Web) (s : List Int) (h : Nat → Int) : Prop := ∀ a b, w.adj a b = true → h b - h a = stp s a b
section
variable {w : Web} {s : List Int} {h : Nat → Int}
end
/-- a way from one to another -/
inductive Reach (w : Web) : Nat → Nat → Prop where
  | here (i : Nat) : Reach w i i
  | on {i j k : Nat} (h : Reach w i j) (e : w.adj j k = true) : Reach w i k

set_option autoImplicit false
theorem W.forA {α : Type} {f : α → D} {l : List α} {it : MI} {v : Nat} {b : SM} {ρ ρ0 : Env} {N : Env → Prop} {R : D → Env → Prop} (I : Nat → Env → Prop) (hit : it ρ = .ok (l.map f) ρ0) (h0 : I 0 ρ0)
    (hs : ∀ i a ρ, l[i]? = some a → I i ρ → W b (ρ.set v (.fz (f a))) (I (i + 1)) R) (hk : ∀ ρ, I l.length ρ → N ρ) : W (sFor it (tmName v) b) ρ N R := by
  refine W.for' I hit h0 (fun i d ρ h1 h2 => ?_) fun ρ h => hk ρ (by rw [List.length_map] at h; exact h)
  rw [List.getElem?_map] at h1
  cases e : l[i]? with
  | none => rw [e] at h1; cases h1
  | some a =>
    rw [e] at h1
    cases h1
    exact ⟨_, rfl, hs i a ρ e h2⟩
def nc (f : List (Option Int)) : Nat := (f.filter (·.isNone)).length
theorem eqv_nat (i j : Nat) : PyData.eqv (natD i) (natD j) = decide (i = j) := by
  unfold natD
  rw [eqv_int]
  exact decide_eq_decide.mpr (by omega)
theorem eqv_nats (l m : List Nat) : PyData.eqv (.list (l.map natD)) (.list (m.map natD)) = decide (l = m) := by simp only [PyData.eqv]; exact eqvAll_map eqv_nat l m
theorem look_lt {α : Type} {f : List α} {i : Nat} {x : α} (h : f[i]? = some x) : i < f.length := by
  obtain ⟨h, _⟩ := List.getElem?_eq_some_iff.mp h
  exact h
theorem Reach.lt {w : Web} (hw : w.Ok) {i j : Nat} (hi : i < w.n) (h : Reach w i j) : j < w.n := by
  induction h with
  | here => exact hi
  | on r e ih => exact (Web.adj_lt hw e).2.1
def Has (f : List (Option Int)) (v : Nat) : Prop := ∃ x, f[v]? = some (some x)
theorem Has.set {f : List (Option Int)} {v i : Nat} {x : Int} (h : Has f v) : Has (f.set i (some x)) v := by
  obtain ⟨y, hy⟩ := h
  by_cases e : i = v
  · subst e
    exact ⟨x, by rw [List.getElem?_set_self (look_lt hy)]⟩
  · exact ⟨y, by rw [List.getElem?_set_ne e]; exact hy⟩
theorem Has.here {f : List (Option Int)} {i : Nat} {x : Int} (h : i < f.length) : Has (f.set i (some x)) i := ⟨x, by rw [List.getElem?_set_self h]⟩
theorem Has.of_set {f : List (Option Int)} {v i : Nat} {x : Int} (h : Has (f.set i (some x)) v) : v = i ∨ Has f v := by
  by_cases e : i = v
  · exact .inl e.symm
  · obtain ⟨y, hy⟩ := h
    rw [List.getElem?_set_ne e] at hy
    exact .inr ⟨y, hy⟩
structure Bfs (w : Web) (r : Nat) (f : List (Option Int)) (q : List Nat) : Prop where
  len : f.length = w.n
  rt : Has f r
  snd : ∀ v, Has f v → Reach w r v
  cls : ∀ v, Has f v → v ∈ q ∨ ∀ u, w.adj v u = true → Has f u
  inq : ∀ v ∈ q, Has f v
theorem Bfs.add {w : Web} {r : Nat} {f : List (Option Int)} {q : List Nat} {h u : Nat} {x : Int} (b : Bfs w r f q) (hq : h ∈ q) (a : w.adj h u = true) (hu : u < w.n) : Bfs w r (f.set u (some x)) (q ++ [u]) := by
  refine ⟨by rw [List.length_set]; exact b.len, b.rt.set, fun v hv => ?_, fun v hv => ?_, fun v hv => ?_⟩
  · rcases hv.of_set with rfl | hv
    · exact .on (b.snd h (b.inq h hq)) a
    · exact b.snd v hv
  · rcases hv.of_set with rfl | hv
    · exact .inl (by simp)
    · rcases b.cls v hv with m | m
      · exact .inl (List.mem_append_left _ m)
      · exact .inr fun u hu => (m u hu).set
  · rcases List.mem_append.mp hv with m | m
    · exact (b.inq v m).set
    · cases List.mem_singleton.mp m
      exact .here (by rw [b.len]; exact hu)
theorem Bfs.sub {w : Web} {r : Nat} {f : List (Option Int)} {q q' : List Nat} (b : Bfs w r f q) (hs : ∀ v, v ∈ q' → v ∈ q) (hd : ∀ v, v ∈ q → v ∈ q' ∨ ∀ u, w.adj v u = true → Has f u) : Bfs w r f q' :=
  ⟨b.len, b.rt, b.snd, fun v hv => (b.cls v hv).elim (hd v) .inr, fun v hv => b.inq v (hs v hv)⟩
theorem Bfs.done {w : Web} {r : Nat} {f : List (Option Int)} (b : Bfs w r f []) (v : Nat) : Has f v ↔ Reach w r v := by
  refine ⟨b.snd v, fun h => ?_⟩
  induction h with
  | here => exact b.rt
  | on _ e ih => rcases b.cls _ ih with m | m
                 · cases m
                 · exact m _ e
theorem dRep_list (a : List D) (k : Int) : dRep (.list a) (.int k) = if repFits a.length k = true then some (.list (reps a k)) else none := rfl

set_option autoImplicit false
def nbE (i : Nat) (e : Nat × Nat) : Option Nat := if e.1 = i then some e.2 else if e.2 = i then some e.1 else none
def nb (es : List (Nat × Nat)) (i : Nat) : List Nat := es.filterMap (nbE i)

set_option autoImplicit false
theorem web_0 (w : Web) : dAt (webD w) (.int 0) = some (natD w.n) := rfl
theorem web_1 (w : Web) : dAt (webD w) (.int 1) = some (.tuple (w.es.map pairN)) := rfl
theorem W.ext {i : Nat} {m : ME} {ρ ρ' : Env} {d : D} {b : Bool} {ds0 ds es : List D} {N : Env → Prop} {R : D → Env → Prop} (h0 : ρ[i]? = some (.own (.list ds0))) (h1 : m ρ = .ok d ρ') (hd : seqOf d = some (b, es)) (h2 : ρ'[i]? = some (.own (.list ds))) (hz : ds.length + es.length ≤ 1000000) (h : N (ρ'.set i (.own (.list (ds ++ es))))) : W (sDo (mExt i m)) ρ N R := by
  refine .nx ?_ h
  unfold sDo mExt
  rw [h0]
  simp only [h1, Rs.then]
  rw [hd, h2]
  simp only [if_pos (show ds.length + es.length ≤ sizeLine by unfold sizeLine; omega)]
  rfl
theorem mCall_ok {f : FM} {as : List Arg} {ρ ρ1 : Env} {xs : List (Option D)} {ss : List Sl} {d : D} {b : List D} (h1 : eva as ρ = .ok xs ρ1) (h2 : sls as xs ρ1 = some ss) (h3 : f ss = .ok d b) : mCall f as ρ = .ok d (putBack (ioIx as) b ρ1) := by
  unfold mCall
  rw [h1]
  simp only [Rs.then]
  rw [h2]
  simp only [h3]
theorem mCall_0 {f : FM} {as : List Arg} {ρ ρ1 : Env} {xs : List (Option D)} {ss : List Sl} {d : D} (h1 : eva as ρ = .ok xs ρ1) (h2 : sls as xs ρ1 = some ss) (h3 : f ss = .ok d []) : mCall f as ρ = .ok d ρ1 := by
  rw [mCall_ok h1 h2 h3]
  cases ioIx as <;> rfl
theorem evo_1 {m : ME} {ρ ρ1 : Env} {d : D} (h1 : m ρ = .ok d ρ1) : evo [.ex m] ρ = .ok [some d] ρ1 := by
  show ((m ρ).then fun d ρ' => Rs.ok (some d) ρ').then _ = _
  rw [h1]
  rfl
theorem mFn_1 {g : List D → Option D} {m : ME} {ρ ρ1 : Env} {d e : D} (h1 : m ρ = .ok d ρ1) (hg : g [d] = some e) : mFn g [.ex m] ρ = .ok e ρ1 := mFn_ok (evo_1 h1) rfl hg
theorem evm_cons {m : ME} {ms : List ME} {ρ ρ1 ρ2 : Env} {d : D} {ds : List D} (h1 : m ρ = .ok d ρ1) (h2 : evm ms ρ1 = .ok ds ρ2) : evm (m :: ms) ρ = .ok (d :: ds) ρ2 := by
  unfold evm
  rw [h1]
  simp only [Rs.then]
  rw [h2]
theorem W.par {is : List Nat} {ms : List (Bool × ME)} {ρ ρ1 : Env} {ds : List D} {N : Env → Prop} {R : D → Env → Prop} (e : evm (ms.map (·.2)) ρ = .ok ds ρ1) (h : N (setP is (ms.map (·.1)) ds ρ1)) : W (sPar is ms) ρ N R := .nx (by unfold sPar; rw [e]; rfl) h
theorem Reach.trans {w : Web} {i j k : Nat} (h : Reach w i j) (h2 : Reach w j k) : Reach w i k := by
  induction h2 with
  | here => exact h
  | on _ e ih => exact .on ih e
theorem Reach.symm {w : Web} {i j : Nat} (h : Reach w i j) : Reach w j i := by
  induction h with
  | here => exact .here _
  | on _ e ih => exact Reach.trans (.on (.here _) (by rw [Web.adj_comm]; exact e)) ih
structure Part (w : Web) (p : List Nat) : Prop where
  ex : ∃ x, x < w.n ∧ ∀ v, v ∈ p ↔ v < w.n ∧ Reach w x v
  len : p.length ≤ w.n
  nd : p.Nodup
theorem Part.lt {w : Web} {p : List Nat} (h : Part w p) {v : Nat} (hv : v ∈ p) : v < w.n := by
  obtain ⟨x, _, e⟩ := h.ex
  exact ((e v).mp hv).1
theorem Part.reach {w : Web} {p : List Nat} (h : Part w p) {u v : Nat} (hu : u ∈ p) (hv : v ∈ p) : Reach w u v := by
  obtain ⟨x, _, e⟩ := h.ex
  exact ((e u).mp hu).2.symm.trans ((e v).mp hv).2
theorem Part.on {w : Web} (hw : w.Ok) {p : List Nat} (h : Part w p) {u v : Nat} (hu : u ∈ p) (a : w.adj u v = true) : v ∈ p := by
  obtain ⟨x, _, e⟩ := h.ex
  exact (e v).mpr ⟨(Web.adj_lt hw a).2.1, .on ((e u).mp hu).2 a⟩
def hasB (f : List (Option Int)) (v : Nat) : Bool := (f[v]?.getD none).isSome

set_option autoImplicit false
theorem mood_at {s : List Int} {i : Nat} (h : i < s.length) : s[i]? = some (mood s i) := by
  unfold mood
  rw [List.getD_eq_getElem?_getD, List.getElem?_eq_getElem h]
  rfl
theorem st_at {s : List Int} {i : Nat} (h : i < s.length) : dAt (stD s) (natD i) = some (.int (mood s i)) := by
  show atI (s.map PyData.int) (i : Int) = _
  rw [atI_nat, List.getElem?_map, mood_at h]
  rfl
theorem ne_int (a b : Int) : dNe (.int a) (.int b) = some (.bool (!decide (a = b))) := by
  unfold dNe
  rw [okI, okI, eqv_int]
  rfl
structure Dfs (w : Web) (s : List Int) (p : List Nat) (r : Nat) (F0 f : List (Option Int)) (q : List Nat) : Prop where
  len : f.length = w.n
  out : ∀ v, v ∉ p → f[v]? = F0[v]?
  rt : Has f r
  inq : ∀ v ∈ q, v ∈ p ∧ Has f v
  cls : ∀ v ∈ p, ∀ x, f[v]? = some (some x) → v ∈ q ∨ ∀ u, w.adj v u = true → f[u]? = some (some (x + stp s v u))
  ht : ∀ g, Ht w s g → ∀ v ∈ p, ∀ x, f[v]? = some (some x) → x = g v - g r
structure Laid (w : Web) (s : List Int) (p : List Nat) (F0 f : List (Option Int)) : Prop where
  len : f.length = w.n
  out : ∀ v, v ∉ p → f[v]? = F0[v]?
  has : ∀ v ∈ p, Has f v
  on : ∀ v ∈ p, ∀ x, f[v]? = some (some x) → ∀ u, w.adj v u = true → f[u]? = some (some (x + stp s v u))
section
variable {w : Web} {s : List Int} {p : List Nat} {r : Nat} {F0 f : List (Option Int)} {q : List Nat}
theorem Dfs.init (hl : F0.length = w.n) (hn : ∀ v ∈ p, F0[v]? = some none) (hr : r ∈ p) : Dfs w s p r F0 (F0.set r (some 0)) [r] := by
  have hrl : r < F0.length := look_lt (hn r hr)
  have hv : ∀ v ∈ p, ∀ x, (F0.set r (some 0))[v]? = some (some x) → v = r ∧ x = 0 := fun v hv x hx => by
    by_cases e : r = v
    · subst e
      rw [List.getElem?_set_self hrl] at hx
      cases hx
      exact ⟨rfl, rfl⟩
    · rw [List.getElem?_set_ne e, hn v hv] at hx
      cases hx
  refine ⟨by rw [List.length_set]; exact hl, fun v hv => ?_, .here hrl, fun v hv => ?_, fun v h x hx => ?_, fun g hg v h x hx => ?_⟩
  · exact List.getElem?_set_ne (fun e => by subst e; exact hv hr)
  · cases List.mem_singleton.mp hv
    exact ⟨hr, .here hrl⟩
  · exact .inl (by simp [(hv v h x hx).1])
  · obtain ⟨rfl, rfl⟩ := hv v h x hx
    omega
theorem Dfs.add (hw : w.Ok) (hp : Part w p) (d : Dfs w s p r F0 f q) {h u : Nat} {x : Int} (hq : h ∈ q) (hx : f[h]? = some (some x)) (a : w.adj h u = true) (hu : f[u]? = some none) : Dfs w s p r F0 (f.set u (some (x + stp s h u))) (q ++ [u]) := by
  have hpin := (d.inq h hq).1
  have hup := hp.on hw hpin a
  have hul := look_lt hu
  have old : ∀ v x', (f.set u (some (x + stp s h u)))[v]? = some (some x') → (v = u ∧ x' = x + stp s h u) ∨ (v ≠ u ∧ f[v]? = some (some x')) := fun v x' hv => by
    by_cases e : u = v
    · subst e
      rw [List.getElem?_set_self hul] at hv
      cases hv
      exact .inl ⟨rfl, rfl⟩
    · rw [List.getElem?_set_ne e] at hv
      exact .inr ⟨fun z => e z.symm, hv⟩
  have new : ∀ v y, f[v]? = some (some y) → (f.set u (some (x + stp s h u)))[v]? = some (some y) := fun v y hv => by
    rw [List.getElem?_set_ne (fun e => by subst e; rw [hu] at hv; cases hv)]
    exact hv
  refine ⟨by rw [List.length_set]; exact d.len, fun v hv => ?_, d.rt.set, fun v hv => ?_, fun v hv x' hx' => ?_, fun g hg v hv x' hx' => ?_⟩
  · rw [List.getElem?_set_ne (fun e => by subst e; exact hv hup)]
    exact d.out v hv
  · rcases List.mem_append.mp hv with m | m
    · exact ⟨(d.inq v m).1, (d.inq v m).2.set⟩
    · cases List.mem_singleton.mp m
      exact ⟨hup, .here hul⟩
  · rcases old v x' hx' with ⟨rfl, _⟩ | ⟨ne, e⟩
    · exact .inl (by simp)
    · rcases d.cls v hv x' e with m | m
      · exact .inl (List.mem_append_left _ m)
      · exact .inr fun t ht => new _ _ (m t ht)
  · rcases old v x' hx' with ⟨rfl, rfl⟩ | ⟨ne, e⟩
    · have h1 := d.ht g hg h hpin x hx
      have h2 := hg h v a
      omega
    · exact d.ht g hg v hv x' e
theorem Dfs.sub (d : Dfs w s p r F0 f q) {q' : List Nat} (hs : ∀ v, v ∈ q' → v ∈ q) (hd : ∀ v, v ∈ q → v ∈ q' ∨ ∀ x, f[v]? = some (some x) → ∀ u, w.adj v u = true → f[u]? = some (some (x + stp s v u))) : Dfs w s p r F0 f q' :=
  ⟨d.len, d.out, d.rt, fun v hv => d.inq v (hs v hv), fun v hv x hx => (d.cls v hv x hx).elim (fun m => (hd v m).elim .inl fun h => .inr (h x hx)) .inr, d.ht⟩
theorem Dfs.done (hp : Part w p) (hr : r ∈ p) (hw : w.Ok) (d : Dfs w s p r F0 f []) : Laid w s p F0 f := by
  have key : ∀ v, Reach w r v → v ∈ p ∧ Has f v := fun v h => by
    induction h with
    | here => exact ⟨hr, d.rt⟩
    | on _ e ih =>
      obtain ⟨h1, x, hx⟩ := ih
      refine ⟨hp.on hw h1 e, ?_⟩
      rcases d.cls _ h1 x hx with m | m
      · cases m
      · exact ⟨_, m _ e⟩
  exact ⟨d.len, d.out, fun v hv => (key v (hp.reach hr hv)).2, fun v hv x hx => (d.cls v hv x hx).elim (fun m => by cases m) id⟩
end

set_option autoImplicit false
def valF (f : List (Option Int)) (v : Nat) : Int := (f[v]?.getD none).getD 0
theorem valF_eq {f : List (Option Int)} {v : Nat} {x : Int} (h : f[v]? = some (some x)) : valF f v = x := by
  unfold valF
  rw [h]
  rfl
theorem Has.val {f : List (Option Int)} {v : Nat} (h : Has f v) : f[v]? = some (some (valF f v)) := by
  obtain ⟨x, hx⟩ := h
  rw [valF_eq hx, hx]

set_option autoImplicit false
theorem mB_ok {m : ME} {ρ ρ' : Env} {b : Bool} (h : m ρ = .ok (.bool b) ρ') : mB m ρ = .ok b ρ' := by
  unfold mB
  rw [h]
  rfl
theorem bNot_ok {m : MB} {ρ ρ' : Env} {b : Bool} (h : m ρ = .ok b ρ') : bNot m ρ = .ok (!b) ρ' := by
  unfold bNot
  rw [h]
  rfl
theorem bOr_F {m n : MB} {ρ ρ1 ρ2 : Env} {b : Bool} (h : m ρ = .ok false ρ1) (h2 : n ρ1 = .ok b ρ2) : bOr m n ρ = .ok b ρ2 := by
  unfold bOr
  rw [h]
  exact h2
theorem bOr_T {m n : MB} {ρ ρ1 : Env} (h : m ρ = .ok true ρ1) : bOr m n ρ = .ok true ρ1 := by
  unfold bOr
  rw [h]
  rfl
theorem bAnd_T {m n : MB} {ρ ρ1 ρ2 : Env} {b : Bool} (h : m ρ = .ok true ρ1) (h2 : n ρ1 = .ok b ρ2) : bAnd m n ρ = .ok b ρ2 := by
  unfold bAnd
  rw [h]
  exact h2
theorem bAnd_F {m n : MB} {ρ ρ1 : Env} (h : m ρ = .ok false ρ1) : bAnd m n ρ = .ok false ρ1 := by
  unfold bAnd
  rw [h]
  rfl
theorem mAnd_T {m n : ME} {ρ ρ1 ρ2 : Env} {d : D} (h : m ρ = .ok (.bool true) ρ1) (h2 : n ρ1 = .ok d ρ2) : mAnd m n ρ = .ok d ρ2 := by
  unfold mAnd
  rw [h]
  exact h2
theorem isi_ok {Ts : List String} {o : Opd} {ρ ρ' : Env} {x : Option D} {t : String} (h : o.ev ρ = .ok x ρ') (h2 : (o.fin x ρ').bind dTy = some t) : mIsi Ts o ρ = .ok (.bool (Ts.any fun T => isB t T)) ρ' := by
  unfold mIsi
  rw [h]
  simp only [Rs.then, h2]
theorem num_int (i a b : Int) : f_is_number [.fz (.int i), .fz (.int a), .fz (.int b)] = .ok (.bool (decide (a ≤ i) && decide (i ≤ b))) [] := by
  unfold f_is_number
  by_cases h : a ≤ i
  · exact fn_rt (ρ := [.fz (.int i), .fz (.int a), .fz (.int b)]) rfl (by simp [m_is_number, fnM, ownIx, backs, sRet, sSeq, sIf, sSet, sOwn, sDo, sNil, sAsg, Rs.sr, mOp2, Opd.ev, Opd.fin, at_, Sl.val, Rs.then, mLit, mVar, mB, mAnd, mOr, mNot, bAnd, bOr, bNot, mIf, bYes, mTup, mLst, evm, evo, fino, mFn, mCall, eva, sls, ioIx, putBack, Arg.opd, iSeq, iRng, fR1, fR2, sFor, tmName, tmTup, tmSeq, mApp, mExt, mPutAt, dPutAt, mIsi, dTy, isB, dEq, dNe, dLt, dLe, dGt, dGe, dIsN, dNotN, dAdd, dSub, dMod, dFdiv, dMul, dAt, dLen, dInt, dTuple, dList, mChain, sPar, setP, h]) rfl
  · exact fn_rt (ρ := [.fz (.int i), .fz (.int a), .fz (.int b)]) rfl (by simp [m_is_number, fnM, ownIx, backs, sRet, sSeq, sIf, sSet, sOwn, sDo, sNil, sAsg, Rs.sr, mOp2, Opd.ev, Opd.fin, at_, Sl.val, Rs.then, mLit, mVar, mB, mAnd, mOr, mNot, bAnd, bOr, bNot, mIf, bYes, mTup, mLst, evm, evo, fino, mFn, mCall, eva, sls, ioIx, putBack, Arg.opd, iSeq, iRng, fR1, fR2, sFor, tmName, tmTup, tmSeq, mApp, mExt, mPutAt, dPutAt, mIsi, dTy, isB, dEq, dNe, dLt, dLe, dGt, dGe, dIsN, dNotN, dAdd, dSub, dMod, dFdiv, dMul, dAt, dLen, dInt, dTuple, dList, mChain, sPar, setP, h]) rfl
theorem num_bool (x : Bool) (a b : Int) : f_is_number [.fz (.bool x), .fz (.int a), .fz (.int b)] = .ok (.bool false) [] := fn_rt (ρ := [.fz (.bool x), .fz (.int a), .fz (.int b)]) rfl (by simp [m_is_number, fnM, ownIx, backs, sRet, sSeq, sIf, sSet, sOwn, sDo, sNil, sAsg, Rs.sr, mOp2, Opd.ev, Opd.fin, at_, Sl.val, Rs.then, mLit, mVar, mB, mAnd, mOr, mNot, bAnd, bOr, bNot, mIf, bYes, mTup, mLst, evm, evo, fino, mFn, mCall, eva, sls, ioIx, putBack, Arg.opd, iSeq, iRng, fR1, fR2, sFor, tmName, tmTup, tmSeq, mApp, mExt, mPutAt, dPutAt, mIsi, dTy, isB, dEq, dNe, dLt, dLe, dGt, dGe, dIsN, dNotN, dAdd, dSub, dMod, dFdiv, dMul, dAt, dLen, dInt, dTuple, dList, mChain, sPar, setP]) rfl
theorem need_one_ok {w : Web} {i : Nat} (h : i < w.n) : f_need_one [.fz (webD w), .fz (natD i)] = .ok .none [] := by
  have e : f_is_number [.fz (natD i), .fz (.int 0), .fz (.int ((w.n : Int) - 1))] = .ok (.bool true) [] := by
    unfold natD
    rw [num_int, decide_eq_true (by omega : (0 : Int) ≤ i), decide_eq_true (by omega : (i : Int) ≤ w.n - 1)]
    rfl
  refine W.fn0 rfl ?_
  unfold m_need_one
  refine .ifF (ρ1 := [.fz (webD w), .fz (natD i)]) ?_ (.nil rfl)
  have := web_0 w
  unfold natD at this
  simp [fnM, ownIx, backs, sRet, sSeq, sIf, sSet, sOwn, sDo, sNil, sAsg, Rs.sr, mOp2, Opd.ev, Opd.fin, at_, Sl.val, Rs.then, mLit, mVar, mB, mAnd, mOr, mNot, bAnd, bOr, bNot, mIf, bYes, mTup, mLst, evm, evo, fino, mFn, mCall, eva, sls, ioIx, putBack, Arg.opd, iSeq, iRng, fR1, fR2, sFor, tmName, tmTup, tmSeq, mApp, mExt, mPutAt, dPutAt, mIsi, dTy, isB, dEq, dNe, dLt, dLe, dGt, dGe, dIsN, dNotN, dAdd, dSub, dMod, dFdiv, dMul, dLen, dInt, dTuple, dList, mChain, sPar, setP, this, e]
theorem ge_pair {p q : Nat × Nat} (h : lexN p q) : dGe (pairN p) (pairN q) = some (.bool false) := by
  show some (PyData.bool (geI [(p.1 : Int), (p.2 : Int)] [(q.1 : Int), (q.2 : Int)])) = _
  congr 2
  unfold lexN at h
  by_cases e : (p.1 : Int) = q.1
  · simp only [geI, e, if_true]
    rw [if_neg (by omega)]
    exact decide_eq_false (by omega)
  · simp only [geI]
    rw [if_neg e]
    exact decide_eq_false (by omega)
theorem street_ok {w : Web} (hw : w.Ok) {e : Nat × Nat} (h : e ∈ w.es) : f_is_street [.fz (.int w.n), .fz (pairN e)] = .ok (.bool true) [] := by
  obtain ⟨h1, h2⟩ := hw.inn e h
  obtain ⟨a, b⟩ := e
  have e0 : f_is_number [.fz (.int a), .fz (.int 0), .fz (.int ((w.n : Int) - 1))] = .ok (.bool true) [] := by
    rw [num_int, decide_eq_true (by omega : (0 : Int) ≤ a), decide_eq_true (by simp only at h1 h2; omega : (a : Int) ≤ w.n - 1)]
    rfl
  have e1 : f_is_number [.fz (.int b), .fz (.int ((a : Int) + 1)), .fz (.int ((w.n : Int) - 1))] = .ok (.bool true) [] := by
    rw [num_int, decide_eq_true (by simp only at h1 h2; omega : (a : Int) + 1 ≤ b), decide_eq_true (by simp only at h1 h2; omega : (b : Int) ≤ w.n - 1)]
    rfl
  have d0 : dAt (pairN (a, b)) (.int 0) = some (.int a) := rfl
  have d1 : dAt (pairN (a, b)) (.int 1) = some (.int b) := rfl
  have t : dTy (pairN (a, b)) = some "tuple" := rfl
  have l : dLen [pairN (a, b)] = some (.int 2) := rfl
  have n2 : dNe (.int 2) (.int 2) = some (.bool false) := ne_int 2 2
  refine W.fn0 rfl ?_
  unfold m_is_street
  refine .seq (.ifF (ρ1 := [.fz (.int w.n), .fz (pairN (a, b))]) ?_ (.nil ?_))
  · have i0 : mIsi ["tuple"] (.sl 1) [.fz (.int w.n), .fz (pairN (a, b))] = .ok (.bool true) [.fz (.int w.n), .fz (pairN (a, b))] := isi_ok (x := none) (t := "tuple") rfl rfl
    have i1 : mOp2 dNe (.ex (mFn dLen [.sl 1])) (.ex (mLit (.int 2))) [.fz (.int w.n), .fz (pairN (a, b))] = .ok (.bool false) [.fz (.int w.n), .fz (pairN (a, b))] := op2_ok (x1 := some (.int 2)) (x2 := some (.int 2)) (ρ1 := [.fz (.int w.n), .fz (pairN (a, b))]) rfl rfl rfl rfl n2
    refine bOr_F (bNot_ok (mB_ok i0)) (bOr_F (mB_ok i1) (bNot_ok (b := true) (mB_ok ?_)))
    simp [fnM, ownIx, backs, sRet, sSeq, sIf, sSet, sOwn, sDo, sNil, sAsg, Rs.sr, mOp2, Opd.ev, Opd.fin, at_, Sl.val, Rs.then, mLit, mVar, mB, mAnd, mOr, mNot, bAnd, bOr, bNot, mIf, bYes, mTup, mLst, evm, evo, fino, mFn, mCall, eva, sls, ioIx, putBack, Arg.opd, iSeq, iRng, fR1, fR2, sFor, tmName, tmTup, tmSeq, mApp, mExt, mPutAt, dPutAt, mIsi, dTy, isB, dEq, dNe, dLt, dLe, dGt, dGe, dIsN, dNotN, dAdd, dSub, dMod, dFdiv, dMul, dLen, dInt, dTuple, dList, mChain, sPar, setP, d0, e0]
  · refine .rt (ρ' := [.fz (.int w.n), .fz (pairN (a, b))]) ?_ rfl
    simp [fnM, ownIx, backs, sRet, sSeq, sIf, sSet, sOwn, sDo, sNil, sAsg, Rs.sr, mOp2, Opd.ev, Opd.fin, at_, Sl.val, Rs.then, mLit, mVar, mB, mAnd, mOr, mNot, bAnd, bOr, bNot, mIf, bYes, mTup, mLst, evm, evo, fino, mFn, mCall, eva, sls, ioIx, putBack, Arg.opd, iSeq, iRng, fR1, fR2, sFor, tmName, tmTup, tmSeq, mApp, mExt, mPutAt, dPutAt, mIsi, dTy, isB, dEq, dNe, dLt, dLe, dGt, dGe, dIsN, dNotN, dAdd, dSub, dMod, dFdiv, dMul, dLen, dInt, dTuple, dList, mChain, sPar, setP, d0, d1, e1]
theorem need_web_ok {w : Web} (hw : w.Ok) : f_need_web [.fz (webD w)] = .ok .none [] := by
  have hm := hw.most
  have hp := hw.pos
  have hf := hw.few
  have e0 : f_is_number [.fz (.int w.n), .fz (.int 1), .fz (.int 10)] = .ok (.bool true) [] := by
    rw [num_int, decide_eq_true (by omega : (1 : Int) ≤ w.n), decide_eq_true (by omega : (w.n : Int) ≤ 10)]
    rfl
  have d0 : dAt (webD w) (.int 0) = some (.int w.n) := rfl
  have t : dTy (webD w) = some "tuple" := rfl
  have l : dLen [webD w] = some (.int 2) := rfl
  have n2 : dNe (.int 2) (.int 2) = some (.bool false) := ne_int 2 2
  refine W.fn0 rfl ?_
  unfold m_need_web
  refine .seq (.ifF (ρ1 := [.fz (webD w), .no, .no, .no]) ?_ (.nil ?_))
  · have i0 : mIsi ["tuple"] (.sl 0) [.fz (webD w), .no, .no, .no] = .ok (.bool true) [.fz (webD w), .no, .no, .no] := isi_ok (x := none) (t := "tuple") rfl rfl
    have i1 : mOp2 dNe (.ex (mFn dLen [.sl 0])) (.ex (mLit (.int 2))) [.fz (webD w), .no, .no, .no] = .ok (.bool false) [.fz (webD w), .no, .no, .no] := op2_ok (x1 := some (.int 2)) (x2 := some (.int 2)) (ρ1 := [.fz (webD w), .no, .no, .no]) rfl rfl rfl rfl n2
    refine bOr_F (bNot_ok (mB_ok i0)) (bOr_F (mB_ok i1) (bNot_ok (b := true) (mB_ok ?_)))
    simp [fnM, ownIx, backs, sRet, sSeq, sIf, sSet, sOwn, sDo, sNil, sAsg, Rs.sr, mOp2, Opd.ev, Opd.fin, at_, Sl.val, Rs.then, mLit, mVar, mB, mAnd, mOr, mNot, bAnd, bOr, bNot, mIf, bYes, mTup, mLst, evm, evo, fino, mFn, mCall, eva, sls, ioIx, putBack, Arg.opd, iSeq, iRng, fR1, fR2, sFor, tmName, tmTup, tmSeq, mApp, mExt, mPutAt, dPutAt, mIsi, dTy, isB, dEq, dNe, dLt, dLe, dGt, dGe, dIsN, dNotN, dAdd, dSub, dMod, dFdiv, dMul, dLen, dInt, dTuple, dList, mChain, sPar, setP, d0, e0]
  refine .seq (.ifF (ρ1 := [.fz (webD w), .no, .no, .no]) (by simp [fnM, ownIx, backs, sRet, sSeq, sIf, sSet, sOwn, sDo, sNil, sAsg, Rs.sr, mOp2, Opd.ev, Opd.fin, at_, Sl.val, Rs.then, mLit, mVar, mB, mAnd, mOr, mNot, bAnd, bOr, bNot, mIf, bYes, mTup, mLst, evm, evo, fino, mFn, mCall, eva, sls, ioIx, putBack, Arg.opd, iSeq, iRng, fR1, fR2, sFor, tmName, tmTup, tmSeq, mApp, mExt, mPutAt, dPutAt, mIsi, dTy, isB, dEq, dNe, dLt, dLe, dGt, dGe, dIsN, dNotN, dAdd, dSub, dMod, dFdiv, dMul, dLen, dInt, dTuple, dList, mChain, sPar, setP, web_1]) (.nil ?_))
  refine .seq (.nx (ρ' := [.fz (webD w), .fz (.int w.n), .fz (.tuple (w.es.map pairN)), .no]) (by simp [fnM, ownIx, backs, sRet, sSeq, sIf, sSet, sOwn, sDo, sNil, sAsg, Rs.sr, mOp2, Opd.ev, Opd.fin, at_, Sl.val, Rs.then, mLit, mVar, mB, mAnd, mOr, mNot, bAnd, bOr, bNot, mIf, bYes, mTup, mLst, evm, evo, fino, mFn, mCall, eva, sls, ioIx, putBack, Arg.opd, iSeq, iRng, fR1, fR2, sFor, tmName, tmTup, tmSeq, mApp, mExt, mPutAt, dPutAt, mIsi, dTy, isB, dEq, dNe, dLt, dLe, dGt, dGe, dIsN, dNotN, dAdd, dSub, dMod, dFdiv, dMul, dLen, dInt, dTuple, dList, mChain, sPar, setP, webD]) ?_)
  refine .rng (n := w.es.length) (ρ0 := [.fz (webD w), .fz (.int w.n), .fz (.tuple (w.es.map pairN)), .no]) (fun k ρ => ∃ x, ρ = [.fz (webD w), .fz (.int w.n), .fz (.tuple (w.es.map pairN)), x]) ?_ ⟨_, rfl⟩ ?_ (fun _ _ => rfl)
  · exact iRng_nat (xs := [some (.int w.es.length)]) (by simp [fnM, ownIx, backs, sRet, sSeq, sIf, sSet, sOwn, sDo, sNil, sAsg, Rs.sr, mOp2, Opd.ev, Opd.fin, at_, Sl.val, Rs.then, mLit, mVar, mB, mAnd, mOr, mNot, bAnd, bOr, bNot, mIf, bYes, mTup, mLst, evm, evo, fino, mFn, mCall, eva, sls, ioIx, putBack, Arg.opd, iSeq, iRng, fR1, fR2, sFor, tmName, tmTup, tmSeq, mApp, mExt, mPutAt, dPutAt, mIsi, dTy, isB, dEq, dNe, dLt, dLe, dGt, dGe, dIsN, dNotN, dAdd, dSub, dMod, dFdiv, dMul, dAt, dLen, dInt, dTuple, dList, mChain, sPar, setP]) rfl (by omega)
  · rintro k _ hk ⟨x, rfl⟩
    have ek : dAt (.tuple (w.es.map pairN)) (.int k) = some (pairN w.es[k]) := by
      show atI _ (k : Int) = _
      rw [atI_nat, List.getElem?_map, List.getElem?_eq_getElem hk]
      rfl
    have es := street_ok hw (List.getElem_mem hk)
    refine .ifF (ρ1 := [.fz (webD w), .fz (.int w.n), .fz (.tuple (w.es.map pairN)), .fz (.int k)]) ?_ (.nil ⟨_, rfl⟩)
    by_cases h0 : 0 < k
    · have ek1 : dAt (.tuple (w.es.map pairN)) (.int ((k : Int) - 1)) = some (pairN (w.es[k - 1]'(by omega))) := by
        rw [show (k : Int) - 1 = ((k - 1 : Nat) : Int) by omega]
        show atI _ ((k - 1 : Nat) : Int) = _
        rw [atI_nat, List.getElem?_map, List.getElem?_eq_getElem (by omega)]
        rfl
      have hg := ge_pair (List.pairwise_iff_getElem.mp hw.sorted (k - 1) k (by omega) hk (by omega))
      simp [fnM, ownIx, backs, sRet, sSeq, sIf, sSet, sOwn, sDo, sNil, sAsg, Rs.sr, mOp2, Opd.ev, Opd.fin, at_, Sl.val, Rs.then, mLit, mVar, mB, mAnd, mOr, mNot, bAnd, bOr, bNot, mIf, bYes, mTup, mLst, evm, evo, fino, mFn, mCall, eva, sls, ioIx, putBack, Arg.opd, iSeq, iRng, fR1, fR2, sFor, tmName, tmTup, tmSeq, mApp, mExt, mPutAt, dPutAt, mIsi, dTy, isB, dEq, dLt, dLe, dGt, dIsN, dNotN, dAdd, dSub, dMod, dFdiv, dMul, dLen, dInt, dTuple, dList, mChain, sPar, setP, ek, es, ek1, hg, h0]
    · simp [fnM, ownIx, backs, sRet, sSeq, sIf, sSet, sOwn, sDo, sNil, sAsg, Rs.sr, mOp2, Opd.ev, Opd.fin, at_, Sl.val, Rs.then, mLit, mVar, mB, mAnd, mOr, mNot, bAnd, bOr, bNot, mIf, bYes, mTup, mLst, evm, evo, fino, mFn, mCall, eva, sls, ioIx, putBack, Arg.opd, iSeq, iRng, fR1, fR2, sFor, tmName, tmTup, tmSeq, mApp, mExt, mPutAt, dPutAt, mIsi, dTy, isB, dEq, dLt, dLe, dGt, dIsN, dNotN, dAdd, dSub, dMod, dFdiv, dMul, dLen, dInt, dTuple, dList, mChain, sPar, setP, ek, es, h0]
theorem are_moods_ok {n : Nat} {s : List Int} (hs : StOk n s) (hn : n ≤ 10) : f_are_moods [.fz (stD s), .fz (.int n)] = .ok (.bool true) [] := by
  have t : dTy (stD s) = some "tuple" := rfl
  have l : dLen [stD s] = some (.int n) := by
    show some (PyData.int ((s.map PyData.int).length : Nat)) = _
    rw [List.length_map, hs.len]
  have q : dEq (.int (n : Int)) (.int n) = some (.bool true) := by
    unfold dEq
    rw [okI, eqv_int]
    simp
  have hc := mComp_of (f := PyData.int) (i := 2) (it := iSeq (mVar 0)) (cd := bYes) (elt := mCall f_is_number [.v (mVar 2), .v (mLit (.int 0)), .v (mOp2 dSub (.ex (mLit (.int 3))) (.ex (mLit (.int 1))))]) (fun _ => true) (fun _ => .bool true) (ρ := [.fz (stD s), .fz (.int n), .no]) (ρ1 := [.fz (stD s), .fz (.int n), .no]) (ds := s)
    (by simp [fnM, ownIx, backs, sRet, sSeq, sIf, sSet, sOwn, sDo, sNil, sAsg, Rs.sr, mOp2, Opd.ev, Opd.fin, at_, Sl.val, Rs.then, mLit, mVar, mB, mAnd, mOr, mNot, bAnd, bOr, bNot, mIf, bYes, mTup, mLst, evm, evo, fino, mFn, mCall, eva, sls, ioIx, putBack, Arg.opd, iSeq, iRng, fR1, fR2, sFor, tmName, tmTup, tmSeq, mApp, mExt, mPutAt, dPutAt, mIsi, dTy, isB, dEq, dNe, dLt, dLe, dGt, dGe, dIsN, dNotN, dAdd, dSub, dMod, dFdiv, dMul, dAt, dLen, dInt, dTuple, dList, mChain, sPar, setP, stD]) (.no rfl) (fun j hj => by simp [bYes]) (fun j hj _ => by
      have h3 := hs.three j hj
      have e := num_int j 0 2
      rw [decide_eq_true h3.1, decide_eq_true (by omega : j ≤ 2)] at e
      simp [fnM, ownIx, backs, sRet, sSeq, sIf, sSet, sOwn, sDo, sNil, sAsg, Rs.sr, mOp2, Opd.ev, Opd.fin, at_, Sl.val, Rs.then, mLit, mVar, mB, mAnd, mOr, mNot, bAnd, bOr, bNot, mIf, bYes, mTup, mLst, evm, evo, fino, mFn, mCall, eva, sls, ioIx, putBack, Arg.opd, iSeq, iRng, fR1, fR2, sFor, tmName, tmTup, tmSeq, mApp, mExt, mPutAt, dPutAt, mIsi, dTy, isB, dEq, dNe, dLt, dLe, dGt, dGe, dIsN, dNotN, dAdd, dSub, dMod, dFdiv, dMul, dAt, dLen, dInt, dTuple, dList, mChain, sPar, setP, e]) (by have := hs.len; omega)
  rw [List.filter_eq_self.mpr (fun _ _ => rfl)] at hc
  have ha : dAll [.list (s.map fun _ => PyData.bool true)] = some (.bool true) := by
    have hb : ∀ s : List Int, dBls (s.map fun _ => PyData.bool true) = some (s.map fun _ => true) := fun s => by
      induction s with
      | nil => rfl
      | cons a s ih => show (dBls (s.map fun _ => PyData.bool true)).map _ = _; rw [ih]; rfl
    show (dBls (s.map fun _ => PyData.bool true)).map _ = _
    rw [hb]
    simp
  refine W.fn0 rfl ?_
  unfold m_are_moods
  refine .ret (ρ' := [.fz (stD s), .fz (.int n), .no]) ?_ rfl
  have i0 : mIsi ["tuple"] (.sl 0) [.fz (stD s), .fz (.int n), .no] = .ok (.bool true) [.fz (stD s), .fz (.int n), .no] := isi_ok (x := none) (t := "tuple") rfl rfl
  have l1 : mFn dLen [.sl 0] [.fz (stD s), .fz (.int n), .no] = .ok (.int n) [.fz (stD s), .fz (.int n), .no] := mFn_ok (xs := [none]) (ds := [stD s]) rfl rfl l
  refine mAnd_T i0 (mAnd_T (op2_ok (x1 := some (.int n)) (x2 := none) (ρ1 := [.fz (stD s), .fz (.int n), .no]) (ev_ex l1) rfl rfl rfl q) (mFn_1 hc ha))
theorem need_both_ok {w : Web} (hw : w.Ok) {s : List Int} (hs : StOk w.n s) : f_need_both [.fz (webD w), .fz (stD s)] = .ok .none [] := by
  refine W.fn0 rfl ?_
  unfold m_need_both
  refine .seq (.do' (mCall_0 (ρ1 := [.fz (webD w), .fz (stD s)]) (xs := [some (webD w)]) (ss := [.fz (webD w)]) rfl rfl (need_web_ok hw)) ?_)
  have e : mCall f_are_moods [.v (mVar 1), .v (mOp2 dAt (.sl 0) (.ex (mLit (.int 0))))] [.fz (webD w), .fz (stD s)] = .ok (.bool true) [.fz (webD w), .fz (stD s)] := mCall_0 (xs := [some (stD s), some (.int w.n)]) (ss := [.fz (stD s), .fz (.int w.n)]) rfl rfl (are_moods_ok hs hw.most)
  refine .ifF (ρ1 := [.fz (webD w), .fz (stD s)]) ?_ (.nil rfl)
  unfold bNot mB
  simp only [e, Rs.then]
  rfl

set_option autoImplicit false
theorem eva_cons {a : Arg} {as : List Arg} {ρ ρ1 ρ2 : Env} {x : Option D} {xs : List (Option D)} (h1 : a.opd.ev ρ = .ok x ρ1) (h2 : eva as ρ1 = .ok xs ρ2) : eva (a :: as) ρ = .ok (x :: xs) ρ2 := by
  unfold eva
  rw [h1]
  simp only [Rs.then]
  rw [h2]
theorem eq_st (s t : List Int) : dEq (stD s) (stD t) = some (.bool (decide (s = t))) := by
  unfold dEq stD
  rw [okIntsT, okIntsT, eqv_intsT]
  rfl

set_option autoImplicit false
theorem seq_nx {a b : SM} {ρ ρ1 : Env} (h : a ρ = .nx ρ1) : sSeq a b ρ = b ρ1 := by
  unfold sSeq
  rw [h]
theorem seq_ex {a b : SM} {ρ ρ1 : Env} {e : Exn} (h : a ρ = .ex e ρ1) : sSeq a b ρ = .ex e ρ1 := by
  unfold sSeq
  rw [h]
theorem fn_ex {len n : Nat} {m : SM} {ss : List Sl} {e : Exn} {ρ : Env} (h : ownIx 0 ss = []) (h2 : m (ss ++ List.replicate (len - n) .no) = .ex e ρ) : fnM len n [] m ss = .ex e := by
  unfold fnM
  rw [if_pos h, h2]
  rfl
theorem mCall_ex {f : FM} {as : List Arg} {ρ ρ1 : Env} {xs : List (Option D)} {ss : List Sl} {e : Exn} (hio : ioIx as = []) (h1 : eva as ρ = .ok xs ρ1) (h2 : sls as xs ρ1 = some ss) (h3 : f ss = .ex e) : mCall f as ρ = .ex e ρ1 := by
  unfold mCall
  rw [h1]
  simp only [Rs.then]
  rw [h2]
  simp only [h3, if_pos hio]
theorem sDo_ex {m : ME} {ρ ρ1 : Env} {e : Exn} (h : m ρ = .ex e ρ1) : sDo m ρ = .ex e ρ1 := by
  unfold sDo
  rw [h]
  rfl

set_option autoImplicit false
theorem eqv_str (a b : Str) : PyData.eqv (.str a) (.str b) = decide (a = b) := by simp only [PyData.eqv]; rw [Bool.eq_iff_iff]; simp
theorem Shp.str {a : Str} (h : PyData.strOk a = true) : Shp 0 (.str a) := ⟨by simp [PyData.canLay0, h], by simp [PyData.depth]⟩
theorem eq_int (a b : Int) : dEq (.int a) (.int b) = some (.bool (decide (a = b))) := by
  unfold dEq
  rw [okI, okI, eqv_int]
  rfl
theorem eqv_bool (a b : Bool) : PyData.eqv (.bool a) (.bool b) = decide (a = b) := by cases a <;> cases b <;> rfl
theorem eq_bool (a b : Bool) : dEq (.bool a) (.bool b) = some (.bool (decide (a = b))) := by
  unfold dEq
  rw [okB, okB, eqv_bool]
  rfl
theorem rep_ok {a : List D} {k : Nat} (h : a.length * k ≤ 1000000) (hk : k ≤ 1000000) : dRep (.list a) (.int k) = some (.list (reps a k)) := by
  have h2 : repFits a.length (k : Int) = true := by
    unfold repFits sizeLine
    rw [Bool.and_eq_true, Bool.and_eq_true, decide_eq_true_iff, decide_eq_true_iff, decide_eq_true_iff, Int.toNat_natCast]
    omega
  rw [dRep_list, if_pos h2]
inductive Alk : Nat → D → Prop where
  | none (k : Nat) : Alk (k + 1) .none
  | int (k : Nat) (i : Int) : Alk (k + 1) (.int i)
  | bool (k : Nat) (b : Bool) : Alk (k + 1) (.bool b)
  | tup {k : Nat} {ds : List D} (h : ∀ d ∈ ds, Alk k d) (hl : ds.length ≤ 1000000) : Alk (k + 1) (.tuple ds)
  | lst {k : Nat} {ds : List D} (h : ∀ d ∈ ds, Alk k d) (hl : ds.length ≤ 1000000) : Alk (k + 1) (.list ds)
theorem alike_row {k : Nat} {ds : List D} {d : D} (h : ∀ d ∈ ds, f__law_alike k [.fz d, .fz d] = .ok (.bool true) []) (hl : ds.length ≤ 1000000) (hd : ∀ i : Nat, dAt d (natD i) = ds[i]?) (hn : dLen [d] = some (.int ds.length)) :
    mOp2 dEq (.ex (mComp (iRng fR1 [.ex (mFn dLen [.sl 1])]) (tmName 2) (bNot (mB (mCall (f__law_alike k) [.v (mOp2 dAt (.sl 0) (.sl 2)), .v (mOp2 dAt (.sl 1) (.sl 2))]))) (mVar 2) [2])) (.ex (mLst [])) [.fz d, .fz d, .no] = .ok (.bool true) [.fz d, .fz d, .no] := by
  have hc := mComp_of (f := natD) (i := 2) (it := iRng fR1 [.ex (mFn dLen [.sl 1])]) (cd := bNot (mB (mCall (f__law_alike k) [.v (mOp2 dAt (.sl 0) (.sl 2)), .v (mOp2 dAt (.sl 1) (.sl 2))]))) (elt := mVar 2) (fun _ => false) natD
    (ρ := [.fz d, .fz d, .no]) (ρ1 := [.fz d, .fz d, .no]) (ds := List.range ds.length)
    (rng_map (xs := [some (.int ds.length)]) (evo_1 (mFn_ok (xs := [Option.none]) (ds := [d]) rfl rfl hn)) rfl hl) (.no rfl) (fun j hj => ?_) (fun j hj h => by cases h) (by simp; omega)
  · rw [List.filter_eq_nil_iff.mpr (fun _ _ => by simp)] at hc
    exact op2_ok (x2 := some (.list [])) (ev_ex hc) rfl rfl rfl rfl
  · have hj' : j < ds.length := List.mem_range.mp hj
    have e0 : mOp2 dAt (.sl 0) (.sl 2) [.fz d, .fz d, .fz (natD j)] = .ok ds[j] [.fz d, .fz d, .fz (natD j)] := op2_ok (x1 := Option.none) (x2 := Option.none) (ρ1 := [.fz d, .fz d, .fz (natD j)]) rfl rfl rfl rfl (by rw [hd, List.getElem?_eq_getElem hj'])
    have e1 : mOp2 dAt (.sl 1) (.sl 2) [.fz d, .fz d, .fz (natD j)] = .ok ds[j] [.fz d, .fz d, .fz (natD j)] := op2_ok (x1 := Option.none) (x2 := Option.none) (ρ1 := [.fz d, .fz d, .fz (natD j)]) rfl rfl rfl rfl (by rw [hd, List.getElem?_eq_getElem hj'])
    exact bNot_ok (b := true) (mB_ok (mCall_0 (eva_cons (ev_ex e0) (eva_cons (ev_ex e1) rfl)) (ss := [.fz ds[j], .fz ds[j]]) rfl (h _ (List.getElem_mem hj'))))
theorem alike_self {k : Nat} {d : D} (h : Alk k d) : f__law_alike k [.fz d, .fz d] = .ok (.bool true) [] := by
  induction h with
  | none k =>
    refine W.fn0 rfl ?_
    unfold m__law_alike
    exact .seq (.ifF (ρ1 := [.fz .none, .fz .none, .no]) rfl (.nil (.seq (.ifT (ρ1 := [.fz .none, .fz .none, .no]) rfl (.ret (ρ' := [.fz .none, .fz .none, .no]) rfl rfl)))))
  | int k i =>
    refine W.fn0 rfl ?_
    unfold m__law_alike
    refine .seq (.ifF (ρ1 := [.fz (.int i), .fz (.int i), .no]) rfl (.nil (.seq (.ifF (ρ1 := [.fz (.int i), .fz (.int i), .no]) rfl (.nil (.ret (ρ' := [.fz (.int i), .fz (.int i), .no]) ?_ rfl))))))
    have i0 : mIsi ["int"] (.sl 0) [.fz (.int i), .fz (.int i), .no] = .ok (.bool true) [.fz (.int i), .fz (.int i), .no] := rfl
    have i1 : mOp2 dEq (.ex (mIsi ["bool"] (.sl 0))) (.ex (mIsi ["bool"] (.sl 1))) [.fz (.int i), .fz (.int i), .no] = .ok (.bool true) [.fz (.int i), .fz (.int i), .no] := rfl
    exact mAnd_T i0 (mAnd_T i1 (op2_ok (x1 := Option.none) (x2 := Option.none) (ρ1 := [.fz (.int i), .fz (.int i), .no]) rfl rfl rfl rfl ((eq_int i i).trans (by simp))))
  | bool k b =>
    refine W.fn0 rfl ?_
    unfold m__law_alike
    refine .seq (.ifF (ρ1 := [.fz (.bool b), .fz (.bool b), .no]) rfl (.nil (.seq (.ifF (ρ1 := [.fz (.bool b), .fz (.bool b), .no]) rfl (.nil (.ret (ρ' := [.fz (.bool b), .fz (.bool b), .no]) ?_ rfl))))))
    have i0 : mIsi ["int"] (.sl 0) [.fz (.bool b), .fz (.bool b), .no] = .ok (.bool true) [.fz (.bool b), .fz (.bool b), .no] := rfl
    have i1 : mOp2 dEq (.ex (mIsi ["bool"] (.sl 0))) (.ex (mIsi ["bool"] (.sl 1))) [.fz (.bool b), .fz (.bool b), .no] = .ok (.bool true) [.fz (.bool b), .fz (.bool b), .no] := rfl
    exact mAnd_T i0 (mAnd_T i1 (op2_ok (x1 := Option.none) (x2 := Option.none) (ρ1 := [.fz (.bool b), .fz (.bool b), .no]) rfl rfl rfl rfl ((eq_bool b b).trans (by simp))))
  | @tup k ds h hl ih =>
    refine W.fn0 rfl ?_
    unfold m__law_alike
    have hn : dLen [.tuple ds] = some (.int ds.length) := rfl
    have l0 : mFn dLen [.sl 0] [.fz (.tuple ds), .fz (.tuple ds), .no] = .ok (.int ds.length) [.fz (.tuple ds), .fz (.tuple ds), .no] := rfl
    have l1 : mFn dLen [.sl 1] [.fz (.tuple ds), .fz (.tuple ds), .no] = .ok (.int ds.length) [.fz (.tuple ds), .fz (.tuple ds), .no] := rfl
    have i1 := mB_ok (op2_ok (ev_ex l0) (ev_ex l1) rfl rfl ((ne_int ds.length ds.length).trans (show _ = some (PyData.bool false) by simp)))
    refine .seq (.ifT (ρ1 := [.fz (.tuple ds), .fz (.tuple ds), .no]) rfl (.seq (.ifF (ρ1 := [.fz (.tuple ds), .fz (.tuple ds), .no]) rfl (.nil (.seq (.ifF i1 (.nil (.ret (alike_row ih hl (fun i => atI_nat ds i) hn) rfl))))))))
  | @lst k ds h hl ih =>
    refine W.fn0 rfl ?_
    unfold m__law_alike
    have hn : dLen [.list ds] = some (.int ds.length) := rfl
    have l0 : mFn dLen [.sl 0] [.fz (.list ds), .fz (.list ds), .no] = .ok (.int ds.length) [.fz (.list ds), .fz (.list ds), .no] := rfl
    have l1 : mFn dLen [.sl 1] [.fz (.list ds), .fz (.list ds), .no] = .ok (.int ds.length) [.fz (.list ds), .fz (.list ds), .no] := rfl
    have i1 := mB_ok (op2_ok (ev_ex l0) (ev_ex l1) rfl rfl ((ne_int ds.length ds.length).trans (show _ = some (PyData.bool false) by simp)))
    refine .seq (.ifT (ρ1 := [.fz (.list ds), .fz (.list ds), .no]) rfl (.seq (.ifF (ρ1 := [.fz (.list ds), .fz (.list ds), .no]) rfl (.nil (.seq (.ifF i1 (.nil (.ret (alike_row ih hl (fun i => atI_nat ds i) hn) rfl))))))))
theorem Alk.mono {k : Nat} {d : D} (h : Alk k d) : Alk (k + 1) d := by
  induction h with
  | none k => exact .none _
  | int k i => exact .int _ _
  | bool k i => exact .bool _ _
  | tup h hl ih => exact .tup ih hl
  | lst h hl ih => exact .lst ih hl
theorem alk_st {s : List Int} (h : s.length ≤ 1000000) (k : Nat) : Alk (k + 2) (stD s) := by
  refine .tup (fun d hd => ?_) (by rw [List.length_map]; exact h)
  obtain ⟨i, _, rfl⟩ := List.mem_map.mp hd
  exact .int _ _

set_option autoImplicit false
theorem bls_map {α : Type} (p : α → Bool) : ∀ l : List α, dBls (l.map fun x => PyData.bool (p x)) = some (l.map p)
  | [] => rfl
  | x :: l => by
    show (dBls (l.map fun x => PyData.bool (p x))).map _ = _
    rw [bls_map p l]
    rfl
theorem if_ex {t : MB} {a b : SM} {ρ ρ1 ρ2 : Env} {e : Exn} (h : t ρ = .ok true ρ1) (h2 : a ρ1 = .ex e ρ2) : sIf t a b ρ = .ex e ρ2 := by
  unfold sIf
  rw [h]
  exact h2
theorem mAnd_F {m n : ME} {ρ ρ1 : Env} (h : m ρ = .ok (.bool false) ρ1) : mAnd m n ρ = .ok (.bool false) ρ1 := by
  unfold mAnd
  rw [h]
  rfl
theorem mRef_ex {m : ME} {ρ ρ' : Env} {x y : Str} (h : m ρ = .ex ⟨x, none⟩ ρ') (hc : codeOf x = some y) : mRef m ρ = .ok (.str y) ρ' := by
  unfold mRef
  rw [h]
  simp only [hc]
theorem pick {ns : List Int} {d : D} (h : RowOk ns d) {ds : List D} (h0 : 0 < ds.length) (h1 : ds.length < 9000) : ∃ (i : Nat) (x d' : D), ds[i]? = some x ∧ f__law_pick [.own d, .fz (.list ds)] = .ok x [d'] ∧ RowOk ns d' := by
  obtain ⟨v, d1, e1, v0, v1, r1⟩ := taken h (m := ds.length) (by omega) (by omega)
  obtain ⟨i, rfl⟩ : ∃ i : Nat, v = i := ⟨v.toNat, by omega⟩
  have hi : i < ds.length := by omega
  refine ⟨i, ds[i], d1, List.getElem?_eq_getElem hi, ?_, r1⟩
  have l1 : mFn dLen [.sl 1] [.own d, .fz (.list ds)] = .ok (.int ds.length) [.own d, .fz (.list ds)] := rfl
  have e2 : mCall f__law_taken [.io 0, .v (mFn dLen [.sl 1])] [.own d, .fz (.list ds)] = .ok (natD i) [.own d1, .fz (.list ds)] := mCall_ok (as := [.io 0, .v (mFn dLen [.sl 1])]) (ρ1 := [.own d, .fz (.list ds)]) (eva_cons (ρ1 := [.own d, .fz (.list ds)]) (x := none) rfl (eva_cons (a := .v (mFn dLen [.sl 1])) (ev_ex l1) rfl)) (ss := [.own d, .fz (.int ds.length)]) rfl e1
  have e3 : dAt (.list ds) (natD i) = some ds[i] := by
    show atI ds (i : Int) = _
    rw [atI_nat, List.getElem?_eq_getElem hi]
  have e4 : mOp2 dAt (.sl 1) (.ex (mCall f__law_taken [.io 0, .v (mFn dLen [.sl 1])])) [.own d, .fz (.list ds)] = .ok ds[i] [.own d1, .fz (.list ds)] := op2_ok (x1 := none) (ρ1 := [.own d, .fz (.list ds)]) rfl (ev_ex e2) rfl rfl e3
  unfold f__law_pick
  refine fn_rt (ρ := [.own d1, .fz (.list ds)]) rfl ?_ rfl
  show m__law_pick [.own d, .fz (.list ds)] = _
  unfold m__law_pick sRet
  rw [e4]
  rfl

set_option autoImplicit false
theorem Shp.st (s : List Int) : Shp 1 (stD s) := Shp.tup Shp.int s
theorem toKs_ints : ∀ l : List Int, toKs (l.map PyData.int) = some (l.map Sum.inl)
  | [] => rfl
  | x :: l => by
    show (toK1 (.int x)).bind _ = _
    rw [show toKs (l.map PyData.int) = _ from toKs_ints l]
    rfl
theorem toKT_st (s : List Int) : toKT (stD s) = some (s.map Sum.inl) := toKs_ints s
theorem toK1_st (s : List Int) : toK1 (stD s) = none := rfl
theorem inl_inj (s t : List Int) : (s.map Sum.inl : List Key) = t.map Sum.inl ↔ s = t := by
  refine ⟨fun h => ?_, fun h => by rw [h]⟩
  induction s generalizing t with
  | nil => cases t with
    | nil => rfl
    | cons y t => cases h
  | cons x s ih => cases t with
    | nil => cases h
    | cons y t =>
      simp only [List.map_cons, List.cons.injEq, Sum.inl.injEq] at h
      rw [h.1, ih t h.2]
theorem dkEq_st (s t : List Int) : dkEq (stD s) (stD t) = decide (s = t) := by
  unfold dkEq
  rw [toK1_st, toK1_st, toKT_st, toKT_st]
  exact decide_eq_decide.mpr (inl_inj s t)
/-- a dict whose keys are states -/
def kvsS (l : List (List Int × D)) : List (D × D) := l.map fun p => (stD p.1, p.2)
theorem keyFits_st (l : List (List Int × D)) (t : List Int) : keyFits (kvsS l) (stD t) = true := by
  unfold keyFits
  rw [toK1_st, toKT_st]
  simp [kvsS, toKT_st]
theorem dGetV_st (l : List (List Int × D)) (t : List Int) : dGetV (kvsS l) (stD t) = (l.find? fun p => decide (p.1 = t)).map (·.2) := by
  unfold dGetV kvsS
  induction l with
  | nil => rfl
  | cons p l ih =>
    rw [List.map_cons, List.find?_cons, List.find?_cons]
    simp only [dkEq_st]
    by_cases h : p.1 = t
    · simp [h]
    · simp only [h, decide_false]
      exact ih
theorem dPutV_st {l : List (List Int × D)} {t : List Int} {d : D} (h : ∀ p ∈ l, p.1 ≠ t) : dPutV (kvsS l) (stD t) d = kvsS (l ++ [(t, d)]) := by
  unfold dPutV
  rw [if_neg]
  · simp [kvsS]
  · unfold kvsS
    rw [List.any_map, List.any_eq_true]
    rintro ⟨p, hp, e⟩
    exact h p hp (of_decide_eq_true ((dkEq_st _ _).symm.trans e))
theorem has_dict (l : List (List Int × D)) (t : List Int) : dHas (stD t) (.dict (kvsS l)) = some (decide (t ∈ l.map (·.1))) := by
  have h0 : dHas (stD t) (.dict (kvsS l)) = (if keyFits (kvsS l) (stD t) = true then some (dGetV (kvsS l) (stD t)).isSome else none) := by cases l <;> rfl
  rw [h0]
  rw [keyFits_st, dGetV_st]
  simp only [if_true]
  congr 1
  rw [Bool.eq_iff_iff, decide_eq_true_iff, Option.isSome_map, List.find?_isSome]
  simp [eq_comm]
theorem at_dict (l : List (List Int × D)) (t : List Int) : dAt (.dict (kvsS l)) (stD t) = (l.find? fun p => decide (p.1 = t)).map (·.2) := by
  rw [← dGetV_st]
  have h : ∀ kvs : List (D × D), keyFits kvs (stD t) = true → dAt (.dict kvs) (stD t) = dGetV kvs (stD t) := fun kvs hk => by
    have e : dAt (.dict kvs) (stD t) = if keyFits kvs (stD t) then dGetV kvs (stD t) else none := by
      unfold stD
      cases kvs with
      | nil => rfl
      | cons p kvs =>
        cases kvs with
        | nil =>
          obtain ⟨a, b⟩ := p
          cases a <;> first | rfl | (cases b <;> rfl)
        | cons q kvs =>
          obtain ⟨a, b⟩ := p
          cases a <;> first | rfl | (cases b <;> rfl)
    rw [e, hk]
    rfl
  exact h _ (keyFits_st l t)
theorem nat_few : ∀ (n : Nat) (l : List Nat), l.Nodup → (∀ x ∈ l, x < n) → l.length ≤ n
  | 0, l, _, h => by
    cases l with
    | nil => exact Nat.le_refl _
    | cons x l => exact absurd (h x List.mem_cons_self) (Nat.not_lt_zero _)
  | n + 1, l, hn, h => by
    by_cases hm : n ∈ l
    · have h1 := nat_few n (l.erase n) (hn.erase n) fun x hx => by
        have := hn.mem_erase_iff.mp hx
        have := h x this.2
        omega
      rw [List.length_erase_of_mem hm] at h1
      omega
    · have := nat_few n l hn fun x hx => by
        have := h x hx
        have : x ≠ n := fun e => hm (e ▸ hx)
        omega
      omega
def code : List Int → Nat
  | [] => 0
  | x :: s => x.toNat + 3 * code s
theorem code_lt : ∀ {s : List Int}, (∀ x ∈ s, 0 ≤ x ∧ x < 3) → code s < 3 ^ s.length
  | [], _ => by decide
  | x :: s, h => by
    have h1 := code_lt fun y hy => h y (List.mem_cons_of_mem _ hy)
    have h2 := h x List.mem_cons_self
    rw [List.length_cons, Nat.pow_succ]
    show x.toNat + 3 * code s < _
    omega
theorem code_inj : ∀ {s t : List Int}, s.length = t.length → (∀ x ∈ s, 0 ≤ x ∧ x < 3) → (∀ x ∈ t, 0 ≤ x ∧ x < 3) → code s = code t → s = t
  | [], [], _, _, _, _ => rfl
  | [], _ :: _, h, _, _, _ => by cases h
  | _ :: _, [], h, _, _, _ => by cases h
  | x :: s, y :: t, hl, hs, ht, h => by
    have h1 := hs x List.mem_cons_self
    have h2 := ht y List.mem_cons_self
    have h3 : x.toNat + 3 * code s = y.toNat + 3 * code t := h
    rw [code_inj (Nat.succ.inj hl) (fun z hz => hs z (List.mem_cons_of_mem _ hz)) (fun z hz => ht z (List.mem_cons_of_mem _ hz)) (by omega), show x = y by omega]
theorem few_states {n : Nat} {l : List (List Int)} (hn : l.Nodup) (h : ∀ s ∈ l, StOk n s) : l.length ≤ 3 ^ n := by
  have h1 := nat_few (3 ^ n) (l.map code) (by
    unfold List.Nodup
    rw [List.pairwise_map]
    exact hn.imp_of_mem fun ha hb hne e => hne (code_inj (by rw [(h _ ha).len, (h _ hb).len]) (h _ ha).three (h _ hb).three e)) fun x hx => by
    obtain ⟨s, hs, rfl⟩ := List.mem_map.mp hx
    have := code_lt (h s hs).three
    rw [(h s hs).len] at this
    exact this
  rwa [List.length_map] at h1
def rowS (w : Web) (s : List Int) (k : Nat) : List (List Int) := (List.range k).map (runL w s)
theorem rowS_len (w : Web) (s : List Int) (k : Nat) : (rowS w s k).length = k := by unfold rowS; simp
theorem rowS_get {w : Web} {s : List Int} {k i : Nat} (h : i < k) : (rowS w s k)[i]? = some (runL w s i) := by
  unfold rowS
  rw [List.getElem?_map, List.getElem?_range h]
  rfl
theorem mem_rowS {w : Web} {s : List Int} {k : Nat} {t : List Int} : t ∈ rowS w s k ↔ ∃ i, i < k ∧ runL w s i = t := by
  unfold rowS
  simp
def Diff (w : Web) (s : List Int) (k : Nat) : Prop := ∀ i j, i < j → j < k → runL w s i ≠ runL w s j
theorem Diff.most {w : Web} (hw : w.Ok) {s : List Int} (hs : StOk w.n s) {k : Nat} (h : Diff w s k) : k ≤ 59049 := by
  have h1 := few_states (n := w.n) (l := rowS w s k) (by
    unfold List.Nodup
    rw [List.pairwise_iff_getElem]
    intro i j hi hj hij
    rw [rowS_len] at hi hj
    have e1 := rowS_get (w := w) (s := s) hi
    have e2 := rowS_get (w := w) (s := s) hj
    rw [List.getElem?_eq_getElem (by rw [rowS_len]; exact hi)] at e1
    rw [List.getElem?_eq_getElem (by rw [rowS_len]; exact hj)] at e2
    rw [Option.some.inj e1, Option.some.inj e2]
    exact h i j hij hj) fun t ht => by
    obtain ⟨i, _, rfl⟩ := mem_rowS.mp ht
    exact run_ok hs i
  rw [rowS_len] at h1
  have h2 : 3 ^ w.n ≤ 3 ^ 10 := Nat.pow_le_pow_right (by omega) hw.most
  omega
structure Rnd (w : Web) (s : List Int) (N f : Nat) : Prop where
  lt : f < N
  eq : runL w s N = runL w s f
  df : Diff w s N
theorem Rnd.only {w : Web} {s : List Int} {N f N' f' : Nat} (h : Rnd w s N f) (h' : Rnd w s N' f') : N = N' ∧ f = f' := by
  have key : ∀ {N f N' f' : Nat}, Rnd w s N f → Rnd w s N' f' → N' ≤ N := fun {N f N' f'} h h' => by
    by_cases hl : N < N'
    · exact absurd h.eq.symm (h'.df f N h.lt hl)
    · omega
  have e : N = N' := Nat.le_antisymm (key h' h) (key h h')
  subst e
  refine ⟨rfl, ?_⟩
  have e := h.eq.symm.trans h'.eq
  rcases Nat.lt_trichotomy f f' with l | l | l
  · exact absurd e (h.df _ _ l h'.lt)
  · exact l
  · exact absurd e.symm (h.df _ _ l h.lt)
theorem Rnd.fold {w : Web} {s : List Int} {N f : Nat} (h : Rnd w s N f) : ∀ m, runL w s (N + m) = runL w s (f + m)
  | 0 => h.eq
  | m + 1 => by
    show nxt w (runL w s (N + m)) = nxt w (runL w s (f + m))
    rw [h.fold m]
theorem Rnd.at {w : Web} {s : List Int} {N f : Nat} (h : Rnd w s N f) : ∀ (q r : Nat), runL w s (f + r + (N - f) * q) = runL w s (f + r)
  | 0, r => by rw [Nat.mul_zero, Nat.add_zero]
  | q + 1, r => by
    have hl := h.lt
    have e : f + r + (N - f) * (q + 1) = N + (r + (N - f) * q) := by rw [Nat.mul_succ]; omega
    rw [e, h.fold, show f + (r + (N - f) * q) = f + r + (N - f) * q by omega, h.at q r]

set_option autoImplicit false

set_option autoImplicit false
theorem W.asg2 {m : ME} {i j : Nat} {a b : D} {ρ ρ1 : Env} {N : Env → Prop} {R : D → Env → Prop} (e : m ρ = .ok (.tuple [a, b]) ρ1) (h : N ((ρ1.set i (.fz a)).set j (.fz b))) : W (sAsg m (tmTup [([i], tmName i), ([j], tmName j)])) ρ N R :=
  .nx (by unfold sAsg; rw [e]; rfl) h
theorem mIf_T {t : MB} {m n : ME} {ρ ρ1 : Env} (h : t ρ = .ok true ρ1) : mIf t m n ρ = m ρ1 := by
  unfold mIf
  rw [h]
  rfl
theorem mIf_F {t : MB} {m n : ME} {ρ ρ1 : Env} (h : t ρ = .ok false ρ1) : mIf t m n ρ = n ρ1 := by
  unfold mIf
  rw [h]
  rfl
def Least (p : Nat → Prop) (r : D) : Prop := (r = .none ∧ ∀ m, ¬ p m) ∨ ∃ m, r = natD m ∧ p m ∧ ∀ m', m' < m → ¬ p m'
theorem Least.only {p : Nat → Prop} {r r' : D} (h : Least p r) (h' : Least p r') : r = r' := by
  rcases h with ⟨rfl, h⟩ | ⟨m, rfl, h1, h2⟩
  · rcases h' with ⟨rfl, _⟩ | ⟨m, _, h1, _⟩
    · rfl
    · exact absurd h1 (h m)
  · rcases h' with ⟨_, h⟩ | ⟨m', rfl, h3, h4⟩
    · exact absurd h1 (h m)
    · rcases Nat.lt_trichotomy m m' with l | l | l
      · exact absurd h1 (h4 m l)
      · rw [l]
      · exact absurd h3 (h2 m' l)
theorem Least.imp {p q : Nat → Prop} {r : D} (h : Least p r) (e : ∀ m, p m ↔ q m) : Least q r := by
  rw [show q = p from funext fun m => propext (e m).symm]
  exact h
theorem max_nat (a b : Nat) : dMax2 [natD a, natD b] = some (natD (max a b)) := by
  show some (PyData.int (if (b : Int) > a then (b : Int) else a)) = _
  congr 1
  unfold natD
  congr 1
  split <;> omega
def Be (w : Web) (s t : List Int) (N : Nat) (r : D) : Prop := (t ∉ rowS w s N ∧ r = .none) ∨ ∃ i, i < N ∧ runL w s i = t ∧ r = natD i
theorem Be.only {w : Web} {s t : List Int} {N : Nat} (hd : Diff w s N) {r r' : D} (h : Be w s t N r) (h' : Be w s t N r') : r = r' := by
  rcases h with ⟨h, rfl⟩ | ⟨i, hi, e, rfl⟩
  · rcases h' with ⟨_, rfl⟩ | ⟨i, hi, e, rfl⟩
    · rfl
    · exact absurd (mem_rowS.mpr ⟨i, hi, e⟩) h
  · rcases h' with ⟨h, rfl⟩ | ⟨j, hj, e', rfl⟩
    · exact absurd (mem_rowS.mpr ⟨i, hi, e⟩) h
    · rcases Nat.lt_trichotomy i j with l | l | l
      · exact absurd (e.trans e'.symm) (hd i j l hj)
      · rw [l]
      · exact absurd (e'.trans e.symm) (hd j i l hi)

set_option autoImplicit false
def tl (s : List Int) : List D := (s.drop 1).map PyData.int
theorem eva_v {m : ME} {as : List Arg} {ρ ρ1 ρ2 : Env} {d : D} {xs : List (Option D)} (h1 : m ρ = .ok d ρ1) (h2 : eva as ρ1 = .ok xs ρ2) : eva (.v m :: as) ρ = .ok (some d :: xs) ρ2 := eva_cons (a := .v m) (ev_ex h1) h2

set_option autoImplicit false
inductive Walk (w : Web) : Nat → Nat → Nat → Prop where
  | here (i : Nat) : Walk w i i 0
  | on {i j k m : Nat} (h : Walk w i j m) (e : w.adj j k = true) : Walk w i k (m + 1)
theorem Walk.reach {w : Web} {i j m : Nat} (h : Walk w i j m) : Reach w i j := by
  induction h with
  | here => exact .here _
  | on _ e ih => exact .on ih e
def Val (f : List (Option Int)) (v : Nat) (x : Int) : Prop := f[v]? = some (some x)
theorem Val.set {f : List (Option Int)} {v u : Nat} {x y : Int} (h : Val f v x) (hu : f[u]? = some none) : Val (f.set u (some y)) v x := by
  unfold Val at *
  by_cases e : u = v
  · subst e
    rw [hu] at h
    cases h
  · rw [List.getElem?_set_ne e]
    exact h
theorem Val.here {f : List (Option Int)} {u : Nat} {y : Int} (hu : f[u]? = some none) : Val (f.set u (some y)) u y := by
  unfold Val
  rw [List.getElem?_set_self (look_lt hu)]
theorem Val.of_set {f : List (Option Int)} {v u : Nat} {x y : Int} (h : Val (f.set u (some y)) v x) (hu : f[u]? = some none) : (v = u ∧ x = y) ∨ Val f v x := by
  unfold Val at *
  by_cases e : u = v
  · subst e
    rw [List.getElem?_set_self (look_lt hu)] at h
    cases h
    exact .inl ⟨rfl, rfl⟩
  · rw [List.getElem?_set_ne e] at h
    exact .inr h
theorem Val.only {f : List (Option Int)} {v : Nat} {x y : Int} (h : Val f v x) (h' : Val f v y) : x = y := by
  unfold Val at *
  rw [h] at h'
  cases h'
  rfl
structure Bfd (w : Web) (r : Nat) (L : Int) (f : List (Option Int)) (row later : List Nat) : Prop where
  len : f.length = w.n
  pos : 0 ≤ L
  rt : Val f r 0
  val : ∀ v x, Val f v x → 0 ≤ x ∧ Walk w r v x.toNat ∧ x ≤ L + 1
  now : ∀ v ∈ row, Val f v L
  lat : ∀ v ∈ later, Val f v (L + 1)
  cl : ∀ v x, Val f v x → v ∈ row ++ later ∨ ∀ u, w.adj v u = true → ∃ y, Val f u y ∧ y ≤ x + 1
theorem Bfd.add {w : Web} {r : Nat} {L : Int} {f : List (Option Int)} {row later : List Nat} {h u : Nat} (b : Bfd w r L f row later) (hq : h ∈ row) (a : w.adj h u = true) (hu : f[u]? = some none) : Bfd w r L (f.set u (some (L + 1))) row (later ++ [u]) := by
  have hp := b.pos
  refine ⟨by rw [List.length_set]; exact b.len, hp, b.rt.set hu, fun v x hv => ?_, fun v hv => (b.now v hv).set hu, fun v hv => ?_, fun v x hv => ?_⟩
  · rcases hv.of_set hu with ⟨rfl, rfl⟩ | hv
    · refine ⟨by omega, ?_, Int.le_refl _⟩
      have := (b.val h L (b.now h hq)).2.1
      rw [show (L + 1).toNat = L.toNat + 1 by omega]
      exact .on this a
    · exact b.val v x hv
  · rcases List.mem_append.mp hv with m | m
    · exact (b.lat v m).set hu
    · cases List.mem_singleton.mp m
      exact .here hu
  · rcases hv.of_set hu with ⟨rfl, rfl⟩ | hv
    · exact .inl (by simp)
    · rcases b.cl v x hv with m | m
      · refine .inl ?_
        rw [← List.append_assoc]
        exact List.mem_append_left _ m
      · refine .inr fun z hz => ?_
        obtain ⟨y, hy, hyx⟩ := m z hz
        exact ⟨y, hy.set hu, hyx⟩
/-- the least number of steps -/
def Dist (w : Web) (r v : Nat) (d : Nat) : Prop := Walk w r v d ∧ ∀ m, Walk w r v m → d ≤ m
theorem Bfd.walk {w : Web} {r : Nat} {L : Int} {f : List (Option Int)} (b : Bfd w r L f [] []) {v m : Nat} (h : Walk w r v m) : ∃ y, Val f v y ∧ y ≤ m := by
  induction h with
  | here => exact ⟨0, b.rt, Int.le_refl _⟩
  | on h e ih =>
    obtain ⟨x, hx, hm⟩ := ih
    rcases b.cl _ x hx with z | z
    · cases z
    · obtain ⟨y, hy, hyx⟩ := z _ e
      exact ⟨y, hy, by rw [Int.natCast_succ]; omega⟩
theorem Reach.walk {w : Web} {i j : Nat} (h : Reach w i j) : ∃ m, Walk w i j m := by
  induction h with
  | here => exact ⟨0, .here _⟩
  | on _ e ih => obtain ⟨m, hm⟩ := ih; exact ⟨m + 1, .on hm e⟩

set_option autoImplicit false
theorem Walk.cons {w : Web} {i j k m : Nat} (e : w.adj i j = true) (h : Walk w j k m) : Walk w i k (m + 1) := by
  induction h with
  | here => exact .on (.here _) e
  | on _ e' ih => exact .on ih e'
theorem Walk.symm {w : Web} {i j m : Nat} (h : Walk w i j m) : Walk w j i m := by
  induction h with
  | here => exact .here _
  | on _ e ih => exact ih.cons (by rw [Web.adj_comm]; exact e)
theorem Walk.lt {w : Web} (hw : w.Ok) {i j m : Nat} (hi : i < w.n) (h : Walk w i j m) : j < w.n := h.reach.lt hw hi
section
variable {w : Web} {s : List Int} {g : Nat → Int}
/-- a greatest height stands no farther away -/
def TopBy (w : Web) (g : Nat → Int) (i k : Nat) : Prop := ∃ j d, j < w.n ∧ g j = 0 ∧ d ≤ k ∧ Walk w j i d
theorem TopBy.mono {i k l : Nat} (h : TopBy w g i k) (hk : k ≤ l) : TopBy w g i l := by
  obtain ⟨j, d, h1, h2, h3, h4⟩ := h
  exact ⟨j, d, h1, h2, by omega, h4⟩
end

set_option autoImplicit false

set_option autoImplicit false
def kvsI (l : List (Nat × Int)) : List (D × D) := l.map fun p => (natD p.1, .int p.2)
theorem dkEq_nat (i j : Nat) : dkEq (natD i) (natD j) = decide (i = j) := by
  show decide ((Sum.inl (i : Int) : Key) = Sum.inl (j : Int)) = _
  exact decide_eq_decide.mpr (by simp; omega)
theorem keyFits_nat (l : List (Nat × Int)) (v : Nat) : keyFits (kvsI l) (natD v) = true := by
  show ((kvsI l).all fun p => (toK1 p.1).isSome) = true
  simp [kvsI, natD, toK1]
theorem dGetV_nat (l : List (Nat × Int)) (v : Nat) : dGetV (kvsI l) (natD v) = (l.find? fun p => decide (p.1 = v)).map fun p => .int p.2 := by
  unfold dGetV kvsI
  induction l with
  | nil => rfl
  | cons p l ih =>
    rw [List.map_cons, List.find?_cons, List.find?_cons]
    simp only [dkEq_nat]
    by_cases h : p.1 = v
    · simp [h]
    · simp only [h, decide_false]
      exact ih
theorem at_dictI (l : List (Nat × Int)) (v : Nat) : dAt (.dict (kvsI l)) (natD v) = (l.find? fun p => decide (p.1 = v)).map fun p => .int p.2 := by
  rw [← dGetV_nat]
  have e : dAt (.dict (kvsI l)) (natD v) = if keyFits (kvsI l) (natD v) then dGetV (kvsI l) (natD v) else none := by
    cases l with
    | nil => rfl
    | cons p l => cases l <;> rfl
  rw [e, keyFits_nat]
  rfl
/-- a list of what may be, as a dict -/
structure Dct (f : List (Option Int)) (l : List (Nat × Int)) : Prop where
  mem : ∀ v x, Val f v x ↔ (v, x) ∈ l
  nd : (l.map (·.1)).Nodup
theorem Dct.at {f : List (Option Int)} {l : List (Nat × Int)} (h : Dct f l) {v : Nat} {x : Int} (hv : Val f v x) : dAt (.dict (kvsI l)) (natD v) = some (.int x) := by
  rw [at_dictI]
  cases e : l.find? fun p => decide (p.1 = v) with
  | none =>
    have := List.find?_eq_none.mp e _ ((h.mem v x).mp hv)
    simp at this
  | some p =>
    have h1 : p.1 = v := by
      have := List.find?_some e
      simpa using this
    have h2 := List.mem_of_find?_eq_some e
    have h3 := (h.mem p.1 p.2).mpr h2
    rw [h1] at h3
    rw [Option.map_some, h3.only hv]
theorem Dct.has {f : List (Option Int)} {l : List (Nat × Int)} (h : Dct f l) (v : Nat) : v ∈ l.map (·.1) ↔ Has f v := by
  refine ⟨fun hv => ?_, fun ⟨x, hx⟩ => List.mem_map.mpr ⟨(v, x), (h.mem v x).mp hx, rfl⟩⟩
  obtain ⟨p, hp, rfl⟩ := List.mem_map.mp hv
  exact ⟨p.2, (h.mem p.1 p.2).mpr hp⟩
theorem Dct.add {f : List (Option Int)} {l : List (Nat × Int)} (h : Dct f l) {u : Nat} {y : Int} (hu : f[u]? = some none) : u ∉ l.map (·.1) ∧ Dct (f.set u (some y)) (l ++ [(u, y)]) := by
  have hn : u ∉ l.map (·.1) := fun z => by
    obtain ⟨x, hx⟩ := (h.has u).mp z
    rw [hu] at hx
    cases hx
  refine ⟨hn, fun v x => ⟨fun hv => ?_, fun hv => ?_⟩, ?_⟩
  · rcases hv.of_set hu with ⟨rfl, rfl⟩ | hv
    · simp
    · exact List.mem_append_left _ ((h.mem v x).mp hv)
  · rcases List.mem_append.mp hv with m | m
    · exact ((h.mem v x).mpr m).set hu
    · cases List.mem_singleton.mp m
      exact .here hu
  · rw [List.map_append]
    exact List.nodup_append.mpr ⟨h.nd, by simp, fun a ha b hb e => by
      cases List.mem_singleton.mp hb
      rw [show a = u from e] at ha
      exact hn ha⟩
theorem Dct.few {f : List (Option Int)} {l : List (Nat × Int)} (h : Dct f l) : l.length ≤ f.length := by
  have := nat_few f.length (l.map (·.1)) h.nd fun v hv => by
    obtain ⟨x, hx⟩ := (h.has v).mp hv
    exact look_lt hx
  rwa [List.length_map] at this

set_option autoImplicit false
theorem W.put {m : ME} {ix : Opd} {i : Nat} {ρ ρ1 ρ2 : Env} {d c0 c c' kd : D} {x : Option D} {N : Env → Prop} {R : D → Env → Prop} (h1 : m ρ = .ok d ρ1) (h2 : at_ ρ1 i = some c0) (h3 : ix.ev ρ1 = .ok x ρ2) (h4 : ix.fin x ρ2 = some kd) (h5 : ρ2[i]? = some (.own c)) (h6 : dPutAt c kd d = some c') (h : N (ρ2.set i (.own c'))) : W (sAsg m (mPutAt i ix)) ρ N R := by
  refine .nx ?_ h
  unfold sAsg
  rw [h1]
  simp only [Rs.sr]
  have : mPutAt i ix d ρ1 = .ok () (ρ2.set i (.own c')) := by
    unfold mPutAt
    rw [h2]
    simp only [h3, Rs.then]
    rw [h4, h5]
    simp only [h6]
  rw [this]

set_option autoImplicit false
theorem sRet_ex {m : ME} {ρ ρ1 : Env} {e : Exn} (h : m ρ = .ex e ρ1) : sRet m ρ = .ex e ρ1 := by
  unfold sRet
  rw [h]
  rfl
theorem sSet_ex {m : ME} {i : Nat} {ρ ρ1 : Env} {e : Exn} (h : m ρ = .ex e ρ1) : sSet i m ρ = .ex e ρ1 := by
  unfold sSet
  rw [h]
  rfl
theorem reps_1 (d : D) (n : Nat) : reps [d] (n : Int) = List.replicate n d := by
  unfold reps
  rw [Int.toNat_natCast]
  induction n with
  | zero => rfl
  | succ n ih => rw [List.replicate_succ, List.replicate_succ, List.flatten_cons, ih]; rfl

set_option autoImplicit false
theorem cut_1 (ds : List D) (h : 1 ≤ ds.length) : dCut (.list ds) (some 1) none = some (.list (ds.drop 1)) := by
  show some (PyData.list ((ds.drop (HT.sIx ds.length 0 (some 1))).take (HT.sIx ds.length ds.length none - HT.sIx ds.length 0 (some 1)))) = _
  rw [HT.sIx_none, show (1 : Int) = ((1 : Nat) : Int) by rfl, HT.sIx_nat, Nat.min_eq_left h, List.take_of_length_le (by rw [List.length_drop]; omega)]
theorem cut_list {i : Nat} {ρ : Env} {ds : List D} (h : 1 ≤ ds.length) (hi : at_ ρ i = some (.list ds)) : mCut (.sl i) (some (mLit (.int 1))) none ρ = .ok (.list (ds.drop 1)) ρ := by
  have si : (Opd.sl i).ev ρ = .ok none ρ := by show (match at_ ρ i with | some _ => _ | none => _) = _; rw [hi]
  unfold mCut
  rw [si]
  simp only [Rs.then, oI, mLit]
  rw [show Opd.fin (.sl i) none ρ = some (.list ds) from hi]
  simp only [Option.bind, cut_1 ds h]

set_option autoImplicit false
theorem lead_of (w : Web) (y : Nat) : ∃ x, x ≤ y ∧ Reach w x y ∧ ∀ z, z < x → ¬ Reach w z x := by
  induction y using Nat.strongRecOn with
  | ind y ih =>
    by_cases h : ∀ z, z < y → ¬ Reach w z y
    · exact ⟨y, Nat.le_refl _, .here y, h⟩
    · obtain ⟨z, hz⟩ := Classical.not_forall.mp h
      obtain ⟨hz1, hz2⟩ := Classical.not_imp.mp hz
      have hz3 : Reach w z y := Classical.not_not.mp hz2
      obtain ⟨x, h1, h2, h3⟩ := ih z hz1
      exact ⟨x, by omega, h2.trans hz3, h3⟩

set_option autoImplicit false
theorem Dist.symm {w : Web} {i j d : Nat} (h : Dist w i j d) : Dist w j i d := ⟨h.1.symm, fun m hm => h.2 m hm.symm⟩
theorem Dist.only {w : Web} {i j d e : Nat} (h : Dist w i j d) (h' : Dist w i j e) : d = e := Nat.le_antisymm (h.2 e h'.1) (h'.2 d h.1)
def FarO (w : Web) (i j : Nat) (o : Option Int) : Prop := (o = none ∧ ¬ Reach w i j) ∨ ∃ d : Nat, o = some (d : Int) ∧ Dist w i j d
theorem FarO.only {w : Web} {i j : Nat} {o o' : Option Int} (h : FarO w i j o) (h' : FarO w i j o') : o = o' := by
  rcases h with ⟨rfl, h⟩ | ⟨d, rfl, h⟩
  · rcases h' with ⟨rfl, _⟩ | ⟨e, _, h'⟩
    · rfl
    · exact absurd h'.1.reach h
  · rcases h' with ⟨_, h'⟩ | ⟨e, rfl, h'⟩
    · exact absurd h.1.reach h'
    · rw [h.only h']
theorem FarO.symm {w : Web} {i j : Nat} {o : Option Int} (h : FarO w i j o) : FarO w j i o := by
  rcases h with ⟨rfl, h⟩ | ⟨d, rfl, h⟩
  · exact .inl ⟨rfl, fun r => h r.symm⟩
  · exact .inr ⟨d, rfl, h.symm⟩
theorem mRef_exF {m : ME} {ρ ρ' : Env} {x w f : Str} {d : D} (h : m ρ = .ex ⟨x, some (f, d)⟩ ρ') (hc : codeFOf x = some (w, f)) : mRef m ρ = .ok (.tuple [.str w, d]) ρ' := by
  unfold mRef
  rw [h]
  simp only [hc, if_true]
abbrev exW (d : D) : Exn := ⟨"BadWeb", some ("index", d)⟩

set_option autoImplicit false
section
variable {ρ ρ' ρ1 ρ2 : Env}
theorem mVar_fz {i : Nat} {d : D} (h : ρ[i]? = some (.fz d)) : mVar i ρ = .ok d ρ := by unfold mVar; rw [h]
theorem mVar_own {i : Nat} {d : D} (h : ρ[i]? = some (.own d)) : mVar i ρ = .ok d (ρ.set i (.fz d)) := by unfold mVar; rw [h]
theorem mLit_ok {d : D} : mLit d ρ = .ok d ρ := rfl
theorem ev_sl {i : Nat} {d : D} (h : at_ ρ i = some d) : (Opd.sl i).ev ρ = .ok none ρ := by
  show (match at_ ρ i with | some _ => _ | none => _) = _
  rw [h]
theorem evo_nil : evo [] ρ = .ok [] ρ := rfl
theorem evo_cons {o : Opd} {os : List Opd} {x : Option D} {xs : List (Option D)} (h1 : o.ev ρ = .ok x ρ1) (h2 : evo os ρ1 = .ok xs ρ2) : evo (o :: os) ρ = .ok (x :: xs) ρ2 := by
  show (o.ev ρ).then _ = _
  rw [h1]
  show (evo os ρ1).then _ = _
  rw [h2]
  rfl
theorem evm_nil : evm [] ρ = .ok [] ρ := rfl
theorem eva_nil : eva [] ρ = .ok [] ρ := rfl
theorem eva_io {i : Nat} {d : D} {as : List Arg} {xs : List (Option D)} (h : at_ ρ i = some d) (h2 : eva as ρ = .ok xs ρ2) : eva (.io i :: as) ρ = .ok (none :: xs) ρ2 := eva_cons (a := .io i) (ev_sl h) h2
theorem mCall_io {f : FM} {as : List Arg} {xs : List (Option D)} {ss : List Sl} {d : D} {b : List D} (h1 : eva as ρ = .ok xs ρ1) (h2 : sls as xs ρ1 = some ss) (h3 : f ss = .ok d b) (h4 : putBack (ioIx as) b ρ1 = ρ2) : mCall f as ρ = .ok d ρ2 := by
  rw [← h4]
  exact mCall_ok h1 h2 h3
theorem mCall_n {f : FM} {as : List Arg} {xs : List (Option D)} {ss : List Sl} {d : D} (hio : ioIx as = []) (h1 : eva as ρ = .ok xs ρ1) (h2 : sls as xs ρ1 = some ss) (h3 : f ss = .ok d []) : mCall f as ρ = .ok d ρ1 := mCall_0 h1 h2 h3
theorem mTup_ok {ms : List ME} {ds : List D} (h : evm ms ρ = .ok ds ρ') : mTup ms ρ = .ok (.tuple ds) ρ' := by
  unfold mTup; rw [h]; rfl
theorem mLst_ok {ms : List ME} {ds : List D} (h : evm ms ρ = .ok ds ρ') : mLst ms ρ = .ok (.list ds) ρ' := by
  unfold mLst; rw [h]; rfl
theorem mNot_ok {m : ME} {b : Bool} (h : m ρ = .ok (.bool b) ρ') : mNot m ρ = .ok (.bool (!b)) ρ' := by
  unfold mNot; rw [h]; rfl
theorem mNeg_ok {m : ME} {i : Int} (h : m ρ = .ok (.int i) ρ') : mNeg m ρ = .ok (.int (-i)) ρ' := by
  unfold mNeg; rw [h]; rfl
theorem mOr_T {m n : ME} (h : m ρ = .ok (.bool true) ρ1) : mOr m n ρ = .ok (.bool true) ρ1 := by
  unfold mOr; rw [h]; rfl
theorem mOr_F {m n : ME} {d : D} (h : m ρ = .ok (.bool false) ρ1) (h2 : n ρ1 = .ok d ρ2) : mOr m n ρ = .ok d ρ2 := by
  unfold mOr; rw [h]; exact h2
theorem mIf_t {t : MB} {m n : ME} {d : D} (h : t ρ = .ok true ρ1) (h2 : m ρ1 = .ok d ρ2) : mIf t m n ρ = .ok d ρ2 := by rw [mIf_T h, h2]
theorem mIf_f {t : MB} {m n : ME} {d : D} (h : t ρ = .ok false ρ1) (h2 : n ρ1 = .ok d ρ2) : mIf t m n ρ = .ok d ρ2 := by rw [mIf_F h, h2]
theorem iSeq_L {m : ME} {ds : List D} (h : m ρ = .ok (.list ds) ρ') : iSeq m ρ = .ok ds ρ' := by
  unfold iSeq; rw [h]; rfl
theorem iSeq_T {m : ME} {ds : List D} (h : m ρ = .ok (.tuple ds) ρ') : iSeq m ρ = .ok ds ρ' := by
  unfold iSeq; rw [h]; rfl
theorem mChain_ok {g g' : D → D → Option D} {o1 o2 o3 : Opd} {x1 x2 x3 : Option D} {d1 d2 d3 d : D} {ρ3 : Env} (h1 : o1.ev ρ = .ok x1 ρ1) (h2 : o2.ev ρ1 = .ok x2 ρ2) (f1 : o1.fin x1 ρ2 = some d1) (f2 : o2.fin x2 ρ2 = some d2) (hg : g d1 d2 = some (.bool true)) (h3 : o3.ev ρ2 = .ok x3 ρ3) (f2' : o2.fin x2 ρ3 = some d2) (f3 : o3.fin x3 ρ3 = some d3) (hg' : g' d2 d3 = some d) : mChain g g' o1 o2 o3 ρ = .ok d ρ3 := by
  unfold mChain
  rw [h1]
  simp only [Rs.then]
  rw [h2]
  simp only [Rs.then]
  rw [f1, f2]
  simp only [hg]
  rw [h3]
  simp only [Rs.then]
  rw [f2', f3]
  simp only [hg']
end
theorem bNot_T {m : MB} {ρ ρ' : Env} (h : m ρ = .ok false ρ') : bNot m ρ = .ok true ρ' := bNot_ok h
theorem bNot_F {m : MB} {ρ ρ' : Env} (h : m ρ = .ok true ρ') : bNot m ρ = .ok false ρ' := bNot_ok h
theorem rng_nat {os : List Opd} {ρ ρ1 : Env} {xs : List (Option D)} {n : Nat} (h1 : evo os ρ = .ok xs ρ1) (h2 : fino os xs ρ1 = some [natD n]) (hb : n ≤ 1000000) : iRng fR1 os ρ = .ok ((List.range n).map natD) ρ1 := rng_map h1 h2 hb
theorem st_at' {n : Nat} {s : List Int} {i : Nat} (hs : StOk n s) (h : i < n) : dAt (stD s) (natD i) = some (.int (mood s i)) := st_at (by rw [hs.len]; exact h)
theorem eq_nat (i j : Nat) : dEq (natD i) (natD j) = some (.bool (decide (i = j))) := by
  unfold natD
  rw [eq_int]
  exact congrArg (fun b => some (PyData.bool b)) (decide_eq_decide.mpr (by omega))
theorem isi_T {Ts : List String} {o : Opd} {ρ ρ' : Env} {x : Option D} {t : String} (h : o.ev ρ = .ok x ρ') (h2 : (o.fin x ρ').bind dTy = some t) (h3 : (Ts.any fun T => isB t T) = true) : mIsi Ts o ρ = .ok (.bool true) ρ' := by
  rw [isi_ok h h2, h3]
theorem isi_F {Ts : List String} {o : Opd} {ρ ρ' : Env} {x : Option D} {t : String} (h : o.ev ρ = .ok x ρ') (h2 : (o.fin x ρ').bind dTy = some t) (h3 : (Ts.any fun T => isB t T) = false) : mIsi Ts o ρ = .ok (.bool false) ρ' := by
  rw [isi_ok h h2, h3]
structure X (m : SM) (ρ : Env) (e : Exn) : Prop where
  run : ∃ ρ', m ρ = .ex e ρ'
section
variable {ρ ρ' : Env} {e : Exn}
theorem X.fn {len n : Nat} {m : SM} {ss : List Sl} (h : ownIx 0 ss = []) (h2 : X m (ss ++ List.replicate (len - n) .no) e) : fnM len n [] m ss = .ex e := by
  obtain ⟨ρ, h2⟩ := h2
  exact fn_ex h h2
theorem X.seq {a b : SM} (h : W a ρ (fun ρ' => X b ρ' e) fun _ _ => False) : X (sSeq a b) ρ e := by
  obtain ⟨h⟩ := h
  cases q : a ρ with
  | nx ρ' =>
    rw [q] at h
    obtain ⟨ρ2, h⟩ := h.run
    exact ⟨ρ2, by rw [seq_nx q, h]⟩
  | rt d ρ' => rw [q] at h; exact h.elim
  | ex x ρ' => rw [q] at h; exact h.elim
  | stuck => rw [q] at h; exact h.elim
theorem X.here {a b : SM} (h : X a ρ e) : X (sSeq a b) ρ e := by
  obtain ⟨ρ', h⟩ := h
  exact ⟨ρ', seq_ex h⟩
theorem X.do' {m : ME} (h : m ρ = .ex e ρ') : X (sDo m) ρ e := ⟨ρ', sDo_ex h⟩
theorem X.set' {m : ME} {i : Nat} (h : m ρ = .ex e ρ') : X (sSet i m) ρ e := ⟨ρ', sSet_ex h⟩
theorem X.own' {m : ME} {i : Nat} (h : m ρ = .ex e ρ') : X (sOwn i m) ρ e := ⟨ρ', by unfold sOwn; rw [h]; rfl⟩
theorem X.ret {m : ME} (h : m ρ = .ex e ρ') : X (sRet m) ρ e := ⟨ρ', sRet_ex h⟩
theorem X.ifT {t : MB} {a b : SM} (h : t ρ = .ok true ρ') (h2 : X a ρ' e) : X (sIf t a b) ρ e := by
  obtain ⟨ρ2, h2⟩ := h2
  exact ⟨ρ2, if_ex h h2⟩
theorem X.raise {c : Str} : X (sRaise c) ρ ⟨c, none⟩ := ⟨_, rfl⟩
theorem X.raiseF {c f : Str} {m : ME} {d : D} (h : m ρ = .ok d ρ') : X (sRaiseF c f m) ρ ⟨c, some (f, d)⟩ := ⟨ρ', by unfold sRaiseF; rw [h]; rfl⟩
end
theorem mCut_lo {o : Opd} {m : ME} {ρ ρ1 ρ2 : Env} {x : Option D} {i : Nat} {c d : D} (h1 : o.ev ρ = .ok x ρ1) (h2 : m ρ1 = .ok (natD i) ρ2) (h3 : o.fin x ρ2 = some c) (h4 : dCut c none (some (i : Int)) = some d) : mCut o none (some m) ρ = .ok d ρ2 := by
  unfold mCut
  rw [h1]
  simp only [Rs.then, oI]
  rw [h2]
  simp only [Rs.then, natD]
  rw [h3]
  simp only [Option.bind, h4]
theorem mCut_hi {o : Opd} {m : ME} {ρ ρ1 ρ2 : Env} {x : Option D} {i : Nat} {c d : D} (h1 : o.ev ρ = .ok x ρ1) (h2 : m ρ1 = .ok (natD i) ρ2) (h3 : o.fin x ρ2 = some c) (h4 : dCut c (some (i : Int)) none = some d) : mCut o (some m) none ρ = .ok d ρ2 := by
  unfold mCut
  rw [h1]
  simp only [Rs.then, oI]
  rw [h2]
  simp only [Rs.then, natD]
  rw [h3]
  simp only [Option.bind, h4]
theorem add_nat1 (i : Nat) : dAdd (natD i) (.int 1) = some (natD (i + 1)) := rfl
theorem sub_nat1 {i : Nat} (h : 1 ≤ i) : dSub (natD i) (.int 1) = some (natD (i - 1)) := by
  show some (PyData.int ((i : Int) - 1)) = some (.int ((i - 1 : Nat) : Int))
  rw [show ((i - 1 : Nat) : Int) = (i : Int) - 1 by omega]
theorem len_T (ds : List D) : dLen [.tuple ds] = some (natD ds.length) := rfl
theorem at_L (ds : List D) (i : Nat) : dAt (.list ds) (natD i) = ds[i]? := by
  show atI ds (i : Int) = _
  rw [atI_nat]
section
variable {m : ME} {ρ ρ' : Env} {d : D}
abbrev exN (x : Str) : Exn := ⟨x, none⟩
abbrev exWalk (d : D) : Exn := ⟨"BadWalk", some ("index", d)⟩
abbrev exM (d : D) : Exn := ⟨"TooMany", some ("most", d)⟩
abbrev exT (d : D) : Exn := ⟨"InvalidText", some ("word", d)⟩
theorem mRef_web (h : m ρ = .ex (exW d) ρ') : mRef m ρ = .ok (.tuple [.str "web", d]) ρ' := mRef_exF h (by decide)
theorem mRef_walk (h : m ρ = .ex (exWalk d) ρ') : mRef m ρ = .ok (.tuple [.str "walk", d]) ρ' := mRef_exF h (by decide)
theorem mRef_many (h : m ρ = .ex (exM d) ρ') : mRef m ρ = .ok (.tuple [.str "many", d]) ρ' := mRef_exF h (by decide)
theorem mRef_word (h : m ρ = .ex (exT d) ρ') : mRef m ρ = .ok (.tuple [.str "word", d]) ρ' := mRef_exF h (by decide)
theorem mRef_state (h : m ρ = .ex (exN "BadState") ρ') : mRef m ρ = .ok (.str "state") ρ' := mRef_ex h (by decide)
theorem mRef_folk (h : m ρ = .ex (exN "BadFolk") ρ') : mRef m ρ = .ok (.str "folk") ρ' := mRef_ex h (by decide)
theorem mRef_number (h : m ρ = .ex (exN "BadNumber") ρ') : mRef m ρ = .ok (.str "number") ρ' := mRef_ex h (by decide)
theorem mRef_street (h : m ρ = .ex (exN "BadStreet") ρ') : mRef m ρ = .ok (.str "street") ρ' := mRef_ex h (by decide)
theorem mRef_order (h : m ρ = .ex (exN "BadOrder") ρ') : mRef m ρ = .ok (.str "order") ρ' := mRef_ex h (by decide)
theorem mRef_resting (h : m ρ = .ex (exN "NotResting") ρ') : mRef m ρ = .ok (.str "resting") ρ' := mRef_ex h (by decide)
theorem mRef_text (h : m ρ = .ex (exN "NotText") ρ') : mRef m ρ = .ok (.str "text") ρ' := mRef_ex h (by decide)
end

set_option autoImplicit false
/-- a walk of so many steps with a sum -/
inductive Wk (w : Web) (s : List Int) : Nat → Nat → Nat → Int → Prop where
  | nil (a : Nat) : Wk w s a a 0 0
  | stay {a b k : Nat} {c : Int} : Wk w s a b k c → Wk w s a b (k + 1) c
  | go {a b d k : Nat} {c : Int} : w.adj a b = true → Wk w s b d k c → Wk w s a d (k + 1) (stp s a b + c)
section
variable {w : Web} {s : List Int}
theorem Wk.append {a b d k l : Nat} {c e : Int} (h : Wk w s a b k c) (h2 : Wk w s b d l e) : Wk w s a d (k + l) (c + e) := by
  induction h with
  | nil a => rw [Nat.zero_add, Int.zero_add]; exact h2
  | @stay a b k c _ ih => rw [show k + 1 + l = k + l + 1 by omega]; exact .stay (ih h2)
  | @go a b d k c e' _ ih => rw [show k + 1 + l = k + l + 1 by omega, Int.add_assoc]; exact .go e' (ih h2)
theorem Wk.one {a b : Nat} {c : Int} (h : Wk w s a b 1 c) : (a = b ∧ c = 0) ∨ (w.adj a b = true ∧ c = stp s a b) := by
  cases h with
  | stay h => cases h; exact .inl ⟨rfl, rfl⟩
  | go e h => cases h; exact .inr ⟨e, by omega⟩
theorem Reach.trans' {i j k : Nat} (h : Reach w i j) (h2 : Reach w j k) : Reach w i k := by
  induction h2 with
  | here => exact h
  | on _ e ih => exact .on ih e
theorem Wk.reach {a b k : Nat} {c : Int} (h : Wk w s a b k c) : Reach w a b := by
  induction h with
  | nil a => exact .here _
  | stay _ ih => exact ih
  | go e _ ih => exact (Reach.on (.here _) e).trans' ih
theorem Wk.lt (hw : w.Ok) {a b k : Nat} {c : Int} (h : Wk w s a b k c) (ha : a < w.n) : b < w.n := by
  induction h with
  | nil a => exact ha
  | stay _ ih => exact ih ha
  | go e _ ih => exact ih (Web.adj_lt hw e).2.1
theorem cntM_mono : ∀ {k l a : Nat}, k ≤ l → cnt w s k a ≤ cnt w s l a := by
  intro k l a h
  induction h with
  | refl => exact Int.le_refl _
  | @step l _ ih =>
    show cnt w s k a ≤ cnt w s l a + if hot w (runL w s l) a = true then 1 else 0
    split <;> omega
def PathF (w : Web) : Nat → List Nat → Prop
  | _, [] => True
  | a, b :: r => w.adj a b = true ∧ PathF w b r
def sumF (s : List Int) : Nat → List Nat → Int
  | _, [] => 0
  | a, b :: r => stp s a b + sumF s b r
def endF : Nat → List Nat → Nat
  | a, [] => a
  | _, b :: r => endF b r
theorem PathF.append {a : Nat} {X Y : List Nat} : PathF w a (X ++ Y) ↔ PathF w a X ∧ PathF w (endF a X) Y := by
  induction X generalizing a with
  | nil => simp [PathF, endF]
  | cons b r ih => simp only [List.cons_append, PathF, endF, ih, and_assoc]
theorem endF_append {a : Nat} {X Y : List Nat} : endF a (X ++ Y) = endF (endF a X) Y := by
  induction X generalizing a with
  | nil => rfl
  | cons b r ih => simp only [List.cons_append, endF, ih]
theorem PathF.lt (hw : w.Ok) {a : Nat} {X : List Nat} (h : PathF w a X) {x : Nat} (hx : x ∈ X) : x < w.n := by
  induction X generalizing a with
  | nil => cases hx
  | cons b r ih =>
    rcases List.mem_cons.mp hx with rfl | hx
    · exact (Web.adj_lt hw h.1).2.1
    · exact ih h.2 hx
/-- a ring, told by its first and the others -/
structure RingF (w : Web) (a : Nat) (X : List Nat) : Prop where
  nd : (a :: X).Nodup
  len : 2 ≤ X.length
  path : PathF w a X
  back : w.adj (endF a X) a = true
def rsumF (s : List Int) (a : Nat) (X : List Nat) : Int := sumF s a (X ++ [a])
theorem RingF.full {a : Nat} {X : List Nat} (h : RingF w a X) : PathF w a (X ++ [a]) := PathF.append.mpr ⟨h.path, h.back, trivial⟩
theorem Ht.sum {g : Nat → Int} (hg : Ht w s g) {a : Nat} {X : List Nat} (h : PathF w a X) : sumF s a X = g (endF a X) - g a := by
  induction X generalizing a with
  | nil => simp [sumF, endF]
  | cons b r ih =>
    have := hg a b h.1
    have := ih h.2
    simp only [sumF, endF]
    omega
theorem Ht.ring {g : Nat → Int} (hg : Ht w s g) {a : Nat} {X : List Nat} (h : RingF w a X) : rsumF s a X = 0 := by
  unfold rsumF
  rw [hg.sum h.full, endF_append]
  show g a - g a = 0
  omega
end

set_option autoImplicit false
section
variable {w : Web} {s : List Int}
/-- a ring that begins with its least one -/
structure RingL (w : Web) (a : Nat) (X : List Nat) : Prop where
  ring : RingF w a X
  least : ∀ x ∈ X, a < x
theorem PathF.reach {a : Nat} {X : List Nat} (h : PathF w a X) {x : Nat} (hx : x ∈ a :: X) : Reach w a x := by
  induction X generalizing a with
  | nil => cases List.mem_singleton.mp hx; exact .here _
  | cons b r ih =>
    rcases List.mem_cons.mp hx with rfl | hx
    · exact .here _
    · exact (Reach.on (.here _) h.1).trans' (ih h.2 hx)
structure Sp (w : Web) (s : List Int) (x p q : Nat) : Prop where
  pos : 0 < q
  low : Nat.gcd p q = 1
  most : ∀ a X, Reach w x a → RingF w a X → rsumF s a X * q ≤ p * ((X.length : Int) + 1)
  some : p = 0 ∨ ∃ a X, Reach w x a ∧ RingF w a X ∧ rsumF s a X * q = p * ((X.length : Int) + 1)
theorem frac_eq {p q p' q' : Nat} (h1 : 0 < q) (h2 : 0 < q') (g1 : Nat.gcd p q = 1) (g2 : Nat.gcd p' q' = 1) (e : p * q' = p' * q) : p = p' ∧ q = q' := by
  have d1 : q ∣ q' := by
    have : q ∣ p * q' := ⟨p', by rw [e, Nat.mul_comm]⟩
    exact Nat.Coprime.dvd_of_dvd_mul_left (Nat.coprime_comm.mp g1) this
  have d2 : q' ∣ q := by
    have : q' ∣ p' * q := ⟨p, by rw [← e, Nat.mul_comm]⟩
    exact Nat.Coprime.dvd_of_dvd_mul_left (Nat.coprime_comm.mp g2) this
  have hq := Nat.dvd_antisymm d1 d2
  subst hq
  exact ⟨Nat.eq_of_mul_eq_mul_right h1 e, rfl⟩
/-- what is reached by a round is at most what is over all rounds -/
theorem frac_le {p q p' q' L : Nat} {c : Int} (hL : 0 < L) (h1 : c * q = p * (L : Int)) (h2 : c * q' ≤ p' * (L : Int)) : p * q' ≤ p' * q := by
  have h3 : (p : Int) * L * q' ≤ p' * L * q := by
    rw [← h1, Int.mul_right_comm c, ← Int.mul_right_comm (p' : Int)]
    calc c * q' * q ≤ p' * L * q := Int.mul_le_mul_of_nonneg_right h2 (by omega)
      _ = _ := by rw [Int.mul_right_comm]
  have h4 : ((p * q' * L : Nat) : Int) ≤ ((p' * q * L : Nat) : Int) := by
    simp only [Int.natCast_mul]
    rw [Int.mul_right_comm (p : Int), Int.mul_right_comm (p' : Int)]
    exact h3
  have h5 : p * q' * L ≤ p' * q * L := by omega
  exact Nat.le_of_mul_le_mul_right h5 hL
theorem Sp.only {x p q p' q' : Nat} (h : Sp w s x p q) (h' : Sp w s x p' q') : p = p' ∧ q = q' := by
  refine frac_eq h.pos h'.pos h.low h'.low (Nat.le_antisymm ?_ ?_)
  · rcases h.some with rfl | ⟨a, X, h1, h2, h3⟩
    · rw [Nat.zero_mul]; exact Nat.zero_le _
    · exact frac_le (L := X.length + 1) (by omega) h3 (h'.most a X h1 h2)
  · rcases h'.some with rfl | ⟨a, X, h1, h2, h3⟩
    · rw [Nat.zero_mul]; exact Nat.zero_le _
    · exact frac_le (L := X.length + 1) (by omega) h3 (h.most a X h1 h2)
end

set_option autoImplicit false
local macro_rules | `(tactic| decreasing_trivial_pre_omega) => `(tactic| first
  | with_reducible assumption
  | ((with_reducible apply need_both_ok) <;> first | assumption | omega | (simp; done))
  | ((with_reducible apply need_one_ok) <;> first | assumption | omega | (simp; done))
  | ((with_reducible apply need_web_ok) <;> first | assumption | omega | (simp; done))
  | ((with_reducible apply web_1) <;> first | assumption | omega | (simp; done))
  | ((with_reducible apply web_0) <;> first | assumption | omega | (simp; done))
  | ((with_reducible apply st_at') <;> first | assumption | omega | (simp; done))
  | ((with_reducible apply st_at) <;> first | assumption | omega | (simp; done))
  | ((with_reducible apply eq_nat) <;> first | assumption | omega | (simp; done))
  | ((with_reducible apply eq_st) <;> first | assumption | omega | (simp; done))
  | ((with_reducible apply eq_int) <;> first | assumption | omega | (simp; done))
  | ((with_reducible apply ne_int) <;> first | assumption | omega | (simp; done))
  | ((with_reducible apply num_bool) <;> first | assumption | omega | (simp; done))
  | ((with_reducible apply len_T) <;> first | assumption | omega | (simp; done))
  | ((with_reducible apply sub_nat1) <;> first | assumption | omega | (simp; done))
  | ((with_reducible apply add_nat1) <;> first | assumption | omega | (simp; done)))
local macro_rules | `(tactic| array_get_dec) => `(tactic| first
  | with_reducible assumption
  | with_reducible exact mLit_ok
  | ((with_reducible apply mVar_fz); rfl)
  | ((with_reducible apply mVar_own); rfl)
  | ((with_reducible apply ev_sl); rfl)
  | ((with_reducible apply ev_ex); array_get_dec)
  | with_reducible exact evo_nil
  | ((with_reducible apply evo_cons); (· array_get_dec); (· array_get_dec))
  | with_reducible exact eva_nil
  | ((with_reducible apply eva_v); (· array_get_dec); (· array_get_dec))
  | ((with_reducible apply eva_io); (· rfl); (· array_get_dec))
  | with_reducible exact evm_nil
  | ((with_reducible apply evm_cons); (· array_get_dec); (· array_get_dec))
  | ((with_reducible apply op2_ok); (· array_get_dec); (· array_get_dec); (· rfl); (· rfl); (· first | decreasing_trivial_pre_omega | rfl))
  | ((with_reducible apply mFn_ok); (· array_get_dec); (· rfl); (· first | decreasing_trivial_pre_omega | rfl))
  | ((with_reducible apply mCall_n); (· rfl); (· array_get_dec); (· rfl); (· decreasing_trivial_pre_omega))
  | ((with_reducible apply mCall_io); (· array_get_dec); (· rfl); (· decreasing_trivial_pre_omega); (· first | (simp only [ioIx, putBack, List.set_cons_zero, List.set_cons_succ]; done) | (simp only [ioIx, putBack, List.set_cons_zero, List.set_cons_succ]; rfl)))
  | ((with_reducible apply mRef_web); array_get_dec; done)
  | ((with_reducible apply mRef_folk); array_get_dec; done)
  | ((with_reducible apply mRef_number); array_get_dec; done)
  | ((with_reducible apply mRef_state); array_get_dec; done)
  | ((with_reducible apply mRef_many); array_get_dec; done)
  | ((with_reducible apply mRef_walk); array_get_dec; done)
  | ((with_reducible apply mRef_word); array_get_dec; done)
  | ((with_reducible apply mRef_street); array_get_dec; done)
  | ((with_reducible apply mRef_order); array_get_dec; done)
  | ((with_reducible apply mRef_resting); array_get_dec; done)
  | ((with_reducible apply mRef_text); array_get_dec; done)
  | ((with_reducible apply mCall_ex); (· rfl); (· array_get_dec); (· rfl); (· decreasing_trivial_pre_omega))
  | ((with_reducible apply mTup_ok); array_get_dec)
  | ((with_reducible apply isi_T); (· array_get_dec); (· first | rfl | assumption); (· first | rfl | (simp; done) | (simp [*]; done)))
  | ((with_reducible apply isi_F); (· array_get_dec); (· first | rfl | assumption); (· first | rfl | (simp; done) | (simp [*]; done)))
  | ((with_reducible apply mCut_lo); (· array_get_dec); (· array_get_dec); (· rfl); (· decreasing_trivial_pre_omega))
  | ((with_reducible apply mCut_hi); (· array_get_dec); (· array_get_dec); (· rfl); (· decreasing_trivial_pre_omega))
  | ((with_reducible apply mLst_ok); array_get_dec)
  | ((with_reducible apply mNot_ok); array_get_dec)
  | ((with_reducible apply mNeg_ok); array_get_dec)
  | ((with_reducible apply mAnd_T); (· array_get_dec); (· array_get_dec))
  | ((with_reducible apply mAnd_F); array_get_dec)
  | ((with_reducible apply mOr_T); array_get_dec)
  | ((with_reducible apply mOr_F); (· array_get_dec); (· array_get_dec))
  | ((with_reducible apply mIf_t); (· array_get_dec); (· array_get_dec))
  | ((with_reducible apply mIf_f); (· array_get_dec); (· array_get_dec))
  | ((with_reducible apply mChain_ok); (· array_get_dec); (· array_get_dec); (· rfl); (· rfl); (· first | decreasing_trivial_pre_omega | rfl); (· array_get_dec); (· rfl); (· rfl); (· first | decreasing_trivial_pre_omega | rfl))
  | ((with_reducible apply mB_ok); array_get_dec)
  | ((with_reducible apply bNot_T); array_get_dec)
  | ((with_reducible apply bNot_F); array_get_dec)
  | ((with_reducible apply bNot_ok); array_get_dec)
  | ((with_reducible apply bOr_T); array_get_dec)
  | ((with_reducible apply bOr_F); (· array_get_dec); (· array_get_dec))
  | ((with_reducible apply bAnd_F); array_get_dec)
  | ((with_reducible apply bAnd_T); (· array_get_dec); (· array_get_dec))
  | ((with_reducible apply iSeq_L); array_get_dec)
  | ((with_reducible apply iSeq_T); array_get_dec)
  | ((with_reducible apply rng_nat); (· array_get_dec); (· rfl); (· omega)))
local macro_rules | `(tactic| sizeOf_list_dec) => `(tactic| first
  | ((with_reducible apply W.seq); sizeOf_list_dec)
  | ((with_reducible apply W.set'); (· array_get_dec); simp only [List.set_cons_zero, List.set_cons_succ])
  | ((with_reducible apply W.own); (· array_get_dec); simp only [List.set_cons_zero, List.set_cons_succ])
  | ((with_reducible apply W.do'); (· array_get_dec); skip)
  | ((with_reducible apply W.app); (· rfl); (· array_get_dec); (· rfl); (· first | omega | (simp; omega)); simp only [List.set_cons_zero, List.set_cons_succ])
  | ((with_reducible apply W.par); (· array_get_dec); simp only [setP, List.set_cons_zero, List.set_cons_succ, List.map_cons, List.map_nil])
  | ((with_reducible apply W.ifF); (· array_get_dec); (with_reducible apply W.nil))
  | ((with_reducible apply W.ifT); (· array_get_dec); skip)
  | ((with_reducible apply W.ret); (· array_get_dec); skip)
  | ((with_reducible apply X.here); sizeOf_list_dec; done)
  | ((with_reducible apply X.do'); array_get_dec; done)
  | ((with_reducible apply X.set'); array_get_dec; done)
  | ((with_reducible apply X.own'); array_get_dec; done)
  | ((with_reducible apply X.ret); array_get_dec; done)
  | ((with_reducible apply X.ifT); (· array_get_dec); sizeOf_list_dec; done)
  | ((with_reducible apply X.raise); done)
  | ((with_reducible apply X.raiseF); array_get_dec; done)
  | ((with_reducible apply X.seq); sizeOf_list_dec))

set_option autoImplicit false
section
variable {w : Web} {s : List Int}
structure RowB (w : Web) (s : List Int) (k a : Nat) (row : List (Option Int)) : Prop where
  len : row.length = w.n
  val : ∀ b, b < w.n → (hasB row b = true ∧ Wk w s a b k (valF row b) ∧ ∀ c, Wk w s a b k c → c ≤ valF row b) ∨ (hasB row b = false ∧ ∀ c, ¬ Wk w s a b k c)
structure TabB (w : Web) (s : List Int) (k : Nat) (T : List (List (Option Int))) : Prop where
  len : T.length = w.n
  row : ∀ a, a < w.n → RowB w s k a (T.getD a [])
def tblE (w : Web) (s : List Int) (a b : Nat) : Option Int := if a = b then some 0 else if w.adj a b = true then some (stp s a b) else none
def tbl (w : Web) (s : List Int) : List (List (Option Int)) := (List.range w.n).map fun a => (List.range w.n).map (tblE w s a)
end

set_option autoImplicit false
local macro_rules | `(tactic| decreasing_trivial_pre_omega) => `(tactic| first
  | with_reducible assumption)

set_option autoImplicit false
theorem W.parT {ts : List PT} {ms : List (Bool × ME)} {ρ ρ1 ρ2 : Env} {ds : List D} {N : Env → Prop} {R : D → Env → Prop} (e : evm (ms.map (·.2)) ρ = .ok ds ρ1) (h2 : asgP ts (ms.map (·.1)) ds ρ1 = some ρ2) (h : N ρ2) : W (sParT ts ms) ρ N R := by
  refine .nx (ρ' := ρ2) ?_ h
  unfold sParT
  rw [e]
  simp only [Rs.sr]
  rw [h2]
/-- a comprehension without a condition -/
theorem comp_all {α : Type} {f : α → D} {i : Nat} {it : MI} {elt : ME} (g : α → D) {ρ ρ1 : Env} {ds : List α} (hit : it ρ = .ok (ds.map f) ρ1) (hf : Free ρ1 i) (he : ∀ d ∈ ds, elt (ρ1.set i (.fz (f d))) = .ok (g d) (ρ1.set i (.fz (f d)))) (hz : ds.length ≤ 1000000) :
    mComp it (tmName i) bYes elt [i] ρ = .ok (.list (ds.map g)) ρ1 := by
  have := mComp_of (cd := bYes) (fun _ => true) g hit hf (fun _ _ => rfl) (fun d hd _ => he d hd) hz
  rw [List.filter_eq_self.mpr (fun _ _ => rfl)] at this
  exact this
local macro_rules | `(tactic| decreasing_trivial_pre_omega) => `(tactic| first
  | with_reducible assumption)

set_option autoImplicit false
def VP (w : Web) (r : List Nat) : Prop := ∃ a X, r = a :: X ∧ a < w.n ∧ (a :: X).Nodup ∧ PathF w a X ∧ ∀ x ∈ X, a < x
def frn (w : Web) (r : List Nat) : Nat := ((List.range w.n).filter fun v => decide (r.headD 0 < v) && decide (v ∉ r)).length
def TT : Nat → Nat
  | 0 => 1
  | m + 1 => 1 + (m + 1) * TT m
theorem TT_mono1 : ∀ m, TT m ≤ TT (m + 1)
  | 0 => by simp [TT]
  | m + 1 => by
    show 1 + (m + 1) * TT m ≤ 1 + (m + 1 + 1) * TT (m + 1)
    have h1 := TT_mono1 m
    have h2 : (m + 1) * TT m ≤ (m + 1 + 1) * TT (m + 1) := Nat.mul_le_mul (by omega) h1
    omega
theorem TT_mono {m k : Nat} (h : m ≤ k) : TT m ≤ TT k := by
  induction h with
  | refl => exact Nat.le_refl _
  | step _ ih => exact Nat.le_trans ih (TT_mono1 _)
def wgt (w : Web) (l : List (List Nat)) : Nat := (l.map fun r => TT (frn w r)).sum
theorem wgt_le (w : Web) (B : Nat) : ∀ l : List (List Nat), (∀ r ∈ l, TT (frn w r) ≤ B) → wgt w l ≤ l.length * B
  | [], _ => Nat.zero_le _
  | r :: l, h => by
    have h1 := wgt_le w B l fun x hx => h x (List.mem_cons_of_mem _ hx)
    have h2 := h r List.mem_cons_self
    show TT (frn w r) + wgt w l ≤ (l.length + 1) * B
    rw [Nat.add_mul]
    omega
structure Rg (w : Web) (found stack : List (List Nat)) : Prop where
  vp : ∀ r ∈ stack, VP w r
  all : ∀ r ∈ found, ∃ a X, r = a :: X ∧ RingL w a X
  mem : ∀ a X, RingL w a X → a :: X ∈ found ∨ ∃ p ∈ stack, p <+: a :: X
  few : found.length + wgt w stack ≤ 100000
theorem Rg.init {w : Web} (hw : w.Ok) (h7 : w.n ≤ 7) : Rg w [] ((List.range w.n).map fun a => [a]) := by
  refine ⟨fun r hr => ?_, by simp, fun a X hR => ?_, ?_⟩
  · obtain ⟨a, ha, rfl⟩ := List.mem_map.mp hr
    exact ⟨a, [], rfl, List.mem_range.mp ha, by simp, trivial, by simp⟩
  · refine .inr ⟨[a], List.mem_map.mpr ⟨a, List.mem_range.mpr (Web.adj_lt hw hR.ring.back).2.1, rfl⟩, ⟨X, rfl⟩⟩
  · have h1 := wgt_le w (TT 7) ((List.range w.n).map fun a => [a]) fun r hr => TT_mono (by
      unfold frn
      have := List.length_filter_le (fun v => decide (r.headD 0 < v) && decide (v ∉ r)) (List.range w.n)
      rw [List.length_range] at this
      omega)
    rw [List.length_map, List.length_range] at h1
    have h2 : TT 7 = 13700 := by decide
    rw [h2] at h1
    simp only [List.length_nil]
    omega

set_option autoImplicit false
theorem nodup_le : ∀ (n : Nat) (l : List Nat), l.Nodup → (∀ x ∈ l, x < n) → l.length ≤ n
  | 0, l, _, h => by
    cases l with
    | nil => exact Nat.le_refl _
    | cons a l => exact absurd (h a List.mem_cons_self) (Nat.not_lt_zero _)
  | n + 1, l, hn, h => by
    have h1 := nodup_le n (l.erase n) (hn.erase n) fun x hx => by
      have h2 := (List.Nodup.mem_erase_iff hn).mp hx
      have := h x h2.2
      have := h2.1
      omega
    by_cases hm : n ∈ l
    · rw [List.length_erase_of_mem hm] at h1
      omega
    · rw [List.erase_of_not_mem hm] at h1
      omega
theorem VP.len {w : Web} (hw : w.Ok) {r : List Nat} (h : VP w r) : r.length ≤ w.n := by
  obtain ⟨a, X, rfl, h1, h2, h3, _⟩ := h
  refine nodup_le _ _ h2 fun x hx => ?_
  rcases List.mem_cons.mp hx with rfl | hx
  · exact h1
  · exact h3.lt hw hx
theorem gt_nat (a b : Nat) : dGt (natD a) (natD b) = some (.bool (decide (b < a))) := by
  show some (PyData.bool (decide ((b : Int) < (a : Int)))) = _
  rw [decide_eq_decide.mpr (show (b : Int) < (a : Int) ↔ b < a by omega)]
local macro_rules | `(tactic| decreasing_trivial_pre_omega) => `(tactic| first
  | with_reducible assumption
  | ((with_reducible apply gt_nat) <;> first | assumption | omega | (simp; done)))

set_option autoImplicit false
def lowF (p q : Nat) : Nat × Nat := (p / Nat.gcd p q, q / Nat.gcd p q)
theorem lowF_ok {p q : Nat} (hq : 0 < q) : 0 < (lowF p q).2 ∧ Nat.gcd (lowF p q).1 (lowF p q).2 = 1 ∧ (lowF p q).1 * q = p * (lowF p q).2 := by
  have hg : 0 < Nat.gcd p q := Nat.gcd_pos_of_pos_right p hq
  unfold lowF
  refine ⟨Nat.div_pos (Nat.gcd_le_right p hq) hg, Nat.gcd_div_gcd_div_gcd_of_pos_right hq, ?_⟩
  simp only
  obtain ⟨a, ha⟩ := Nat.gcd_dvd_left p q
  obtain ⟨b, hb⟩ := Nat.gcd_dvd_right p q
  generalize Nat.gcd p q = g at *
  rw [ha, hb, Nat.mul_div_cancel_left _ hg, Nat.mul_div_cancel_left _ hg]
  rw [Nat.mul_left_comm, Nat.mul_assoc]
/-- what has been looked at, by length and sum -/
structure Best (S : Int → Nat → Prop) (p q : Nat) : Prop where
  pos : 0 < q
  low : Nat.gcd p q = 1
  most : ∀ c L, S c L → c * q ≤ p * (L : Int)
  some : p = 0 ∨ ∃ c L, S c L ∧ c * q = p * (L : Int)
theorem Best.init : Best (fun _ _ => False) 0 1 := ⟨by omega, by simp, fun _ _ h => h.elim, .inl rfl⟩
theorem Best.keep {S : Int → Nat → Prop} {p q : Nat} (h : Best S p q) {c : Int} {L : Nat} (h2 : ¬ (p : Int) * L < c * q) : Best (fun c' L' => S c' L' ∨ (c' = c ∧ L' = L)) p q := by
  refine ⟨h.pos, h.low, fun c' L' hh => ?_, ?_⟩
  · rcases hh with hh | ⟨rfl, rfl⟩
    · exact h.most _ _ hh
    · omega
  · rcases h.some with hh | ⟨c', L', h3, h4⟩
    · exact .inl hh
    · exact .inr ⟨c', L', .inl h3, h4⟩
theorem Best.next {S : Int → Nat → Prop} {p q : Nat} (h : Best S p q) (hS : ∀ c L, S c L → 0 < L) {c : Int} {L : Nat} (hL : 0 < L) (h2 : (p : Int) * L < c * q) : 0 < c ∧ Best (fun c' L' => S c' L' ∨ (c' = c ∧ L' = L)) (lowF c.toNat L).1 (lowF c.toNat L).2 := by
  have hq := h.pos
  have hc : 0 < c := by
    by_cases hc : 0 < c
    · exact hc
    · have h3 : c * q ≤ 0 := Int.mul_nonpos_of_nonpos_of_nonneg (by omega) (by omega)
      have h4 : (0 : Int) ≤ p * L := Int.mul_nonneg (by omega) (by omega)
      omega
  obtain ⟨l1, l2, l3⟩ := lowF_ok (p := c.toNat) hL
  have e3 : c * ((lowF c.toNat L).2 : Int) = ((lowF c.toNat L).1 : Int) * L := by
    have : ((c.toNat * (lowF c.toNat L).2 : Nat) : Int) = (((lowF c.toNat L).1 * L : Nat) : Int) := by rw [l3]
    rw [Int.natCast_mul, Int.natCast_mul, show ((c.toNat : Nat) : Int) = c by omega] at this
    exact this
  refine ⟨hc, l1, l2, fun c' L' hh => ?_, .inr ⟨c, L, .inr ⟨rfl, rfl⟩, e3⟩⟩
  rcases hh with hh | ⟨rfl, rfl⟩
  · -- c' q ≤ p L', p L < c q, c y = x L : c' y ≤ x L'
    have h3 := h.most _ _ hh
    have hL' := hS _ _ hh
    generalize (lowF c.toNat L).1 = x at *
    generalize (lowF c.toNat L).2 = y at *
    have a1 : c' * q * (L * y) ≤ p * L' * (L * y) := Int.mul_le_mul_of_nonneg_right h3 (Int.mul_nonneg (by omega) (by omega))
    have a2 : p * (L : Int) * (L' * y) ≤ c * q * (L' * y) := Int.mul_le_mul_of_nonneg_right (by omega) (Int.mul_nonneg (by omega) (by omega))
    have a3 : c * q * (L' * y) = x * L * (q * L') := by
      rw [← e3]
      ac_rfl
    have a4 : c' * q * (L * y) = (c' * y) * (q * L) := by ac_rfl
    have a5 : (p : Int) * L' * (L * y) = p * L * (L' * y) := by ac_rfl
    have a6 : x * L * (q * L') = (x * (L' : Int)) * (q * L) := by ac_rfl
    have a7 : (c' * y) * ((q : Int) * L) ≤ (x * (L' : Int)) * (q * L) := by omega
    exact Int.le_of_mul_le_mul_right a7 (Int.mul_pos (by omega) (by omega))
  · omega
theorem RingL.lt {w : Web} (hw : w.Ok) {a : Nat} {X : List Nat} (h : RingL w a X) : ∀ x ∈ a :: X, x < w.n := fun x hx => by
  rcases List.mem_cons.mp hx with rfl | hx
  · exact (Web.adj_lt hw h.ring.back).2.1
  · exact h.ring.path.lt hw hx

set_option autoImplicit false
local macro_rules | `(tactic| decreasing_trivial_pre_omega) => `(tactic| first
  | with_reducible assumption)
local macro_rules | `(tactic| decreasing_trivial_pre_omega) => `(tactic| first
  | with_reducible assumption)

set_option autoImplicit false
local macro_rules | `(tactic| decreasing_trivial_pre_omega) => `(tactic| first
  | with_reducible assumption)

set_option autoImplicit false
section
variable {w : Web} {s : List Int}
def IsB (w : Web) (s : List Int) (L v : Nat) (c : Int) : Prop := Wk w s v v L c ∧ ∀ c', Wk w s v v L c' → c' ≤ c
theorem IsB.only {L v : Nat} {c c' : Int} (h : IsB w s L v c) (h' : IsB w s L v c') : c = c' := Int.le_antisymm (h'.2 c h.1) (h.2 c' h'.1)
end
theorem rng1_nat {os : List Opd} {ρ ρ1 : Env} {xs : List (Option D)} {m : Nat} (h1 : evo os ρ = .ok xs ρ1) (h2 : fino os xs ρ1 = some [.int 1, natD (m + 1)]) (hb : m ≤ 100000) : iRng fR2 os ρ = .ok ((List.range m).map fun k => natD (k + 1)) ρ1 := by
  have h3 : fR2 [.int 1, natD (m + 1)] = some (1, ((m + 1 : Nat) : Int)) := rfl
  rw [iRng_ok h1 h2 h3 (by omega), show (((m + 1 : Nat) : Int) - 1).toNat = m by omega]
  congr 1
  refine List.ext_getElem? fun i => ?_
  by_cases hi : i < m
  · cases e : (up 1 m)[i]? with
    | none =>
      have := List.getElem?_eq_none_iff.mp e
      rw [up_len] at this
      omega
    | some d =>
      obtain ⟨_, rfl⟩ := up_get _ _ _ _ e
      rw [List.getElem?_map, List.getElem?_range hi]
      show some (PyData.int (1 + (i : Int))) = some (.int ((i + 1 : Nat) : Int))
      rw [show (1 : Int) + (i : Int) = ((i + 1 : Nat) : Int) by omega]
  · rw [List.getElem?_eq_none (by rw [up_len]; omega), List.getElem?_eq_none (by simp; omega)]
local macro_rules | `(tactic| decreasing_trivial_pre_omega) => `(tactic| first
  | with_reducible assumption)

set_option autoImplicit false
section
variable {w : Web} {s : List Int}
theorem Reach.path {v a : Nat} (h : Reach w v a) : ∃ P, (v :: P).Nodup ∧ PathF w v P ∧ endF v P = a := by
  induction h with
  | here => exact ⟨[], by simp, trivial, rfl⟩
  | @on j k _ e ih =>
    obtain ⟨P, h1, h2, h3⟩ := ih
    by_cases hk : k ∈ v :: P
    · rcases List.mem_cons.mp hk with rfl | hk
      · exact ⟨[], by simp, trivial, rfl⟩
      · obtain ⟨X, Y, rfl⟩ := List.append_of_mem hk
        refine ⟨X ++ [k], ?_, ?_, by rw [endF_append]; rfl⟩
        · refine List.Nodup.sublist ?_ h1
          exact List.Sublist.cons_cons v (List.Sublist.append (List.Sublist.refl _) (List.Sublist.cons_cons k (List.nil_sublist _)))
        · have := PathF.append.mp h2
          exact PathF.append.mpr ⟨this.1, this.2.1, trivial⟩
    · refine ⟨P ++ [k], ?_, PathF.append.mpr ⟨h2, by rw [h3]; exact ⟨e, trivial⟩⟩, by rw [endF_append]; rfl⟩
      rw [← List.cons_append]
      refine List.nodup_append.mpr ⟨h1, by simp, fun x hx y hy => ?_⟩
      cases List.mem_singleton.mp hy
      exact fun z => hk (z ▸ hx)
theorem Ht.walk {w : Web} {g : Nat → Int} (hg : Ht w s g) {a b k : Nat} {c : Int} (h : Wk w s a b k c) : c = g b - g a := by
  induction h with
  | nil a => omega
  | stay _ ih => exact ih
  | @go a b d k c e _ ih => have := hg a b e; omega
end

set_option autoImplicit false
local macro_rules | `(tactic| decreasing_trivial_pre_omega) => `(tactic| first
  | with_reducible assumption)
/-- the first tick by which one has changed so often -/
def First (w : Web) (s : List Int) (v g k : Nat) : Prop := (g : Int) ≤ cnt w s k v ∧ ∀ j, j < k → cnt w s j v < g
theorem First.of {w : Web} {s : List Int} {v g k : Nat} (h1 : cnt w s k v < g) (h2 : (g : Int) ≤ cnt w s (k + 1) v) : First w s v g (k + 1) := ⟨h2, fun j hj => Int.lt_of_le_of_lt (cntM_mono (by omega)) h1⟩
local macro_rules | `(tactic| decreasing_trivial_pre_omega) => `(tactic| first
  | with_reducible assumption)

set_option autoImplicit false
def three (s : List Int) : List (List Int) := [s ++ [0], s ++ [1], s ++ [2]]
def allS : Nat → List (List Int)
  | 0 => [[]]
  | n + 1 => (allS n).flatMap three
theorem StOk.nil : StOk 0 [] := ⟨rfl, by simp⟩
local macro_rules | `(tactic| decreasing_trivial_pre_omega) => `(tactic| first
  | with_reducible assumption)

set_option autoImplicit false
def Mo (l : List Int) : Prop := ∀ x ∈ l, 0 ≤ x ∧ x < 3
theorem Mo.app {a b : List Int} (h : Mo a) (h' : Mo b) : Mo (a ++ b) := fun x hx => (List.mem_append.mp hx).elim (h x) (h' x)
theorem Mo.take {a : List Int} (h : Mo a) (k : Nat) : Mo (a.take k) := fun x hx => h x (List.mem_of_mem_take hx)
theorem Mo.drop {a : List Int} (h : Mo a) (k : Nat) : Mo (a.drop k) := fun x hx => h x (List.mem_of_mem_drop hx)
theorem okStr1 {x : Str} (h : PyData.strOk x = true) : okD (.str x) = true := by
  unfold okD
  simp only [SeqAt.shaped, PyData.canLay0, PyData.depth, h, Bool.true_and]
  rfl

set_option autoImplicit false
local macro_rules | `(tactic| decreasing_trivial_pre_omega) => `(tactic| first
  | with_reducible assumption)

set_option autoImplicit false
def oneOf (z : Str) (c : Nat) : Bool := decide (c ∈ z.cps.toList)
def okT (z x : Str) : Bool := x.cps.toList.all (oneOf z)
local macro_rules | `(tactic| decreasing_trivial_pre_omega) => `(tactic| first
  | with_reducible assumption)

set_option autoImplicit false
theorem W.forQ {it : MI} {v : Nat} {b : SM} {ρ ρ0 : Env} {l : List D} {N : Env → Prop} {R : D → Env → Prop} (hit : it ρ = .ok l ρ0) (h0 : Free ρ0 v) (hb : ∀ d ∈ l, W b (ρ0.set v (.fz d)) (fun ρ' => ρ' = ρ0.set v (.fz d)) R) (hk : ∀ x : Sl, (∀ d, x ≠ .own d) → N (ρ0.set v x)) : W (sFor it (tmName v) b) ρ N R := by
  obtain ⟨s, hs, hn⟩ := h0
  obtain ⟨hl, hg⟩ := List.getElem?_eq_some_iff.mp hs
  refine W.for' (fun _ ρ => ∃ x, (∀ d, x ≠ .own d) ∧ ρ = ρ0.set v x) hit ⟨s, fun d e => hn d e, by rw [← hg, List.set_getElem_self]⟩ ?_ (by rintro _ ⟨x, hx, rfl⟩; exact hk x hx)
  rintro i d _ ei ⟨x, _, rfl⟩
  refine ⟨_, rfl, ?_⟩
  rw [List.set_set]
  exact (hb d (List.mem_of_getElem? ei)).imp (fun _ h => ⟨.fz d, (fun _ e => nomatch e), h⟩) fun _ _ h => h

set_option autoImplicit false
def Tally (L : List (List Int)) (l : List (List Int × D)) : Prop := ∃ ks : List (List Int), l = ks.map (fun t => (t, natD (L.count t))) ∧ ks.Nodup ∧ ∀ t, t ∈ ks ↔ t ∈ L
theorem find_map {α : Type} (f : List Int → α) (ks : List (List Int)) (t : List Int) : (ks.map fun u => (u, f u)).find? (fun p => decide (p.1 = t)) = if t ∈ ks then some (t, f t) else none := by
  induction ks with
  | nil => rfl
  | cons u ks ih =>
    rw [List.map_cons, List.find?_cons]
    by_cases h : u = t
    · simp [h]
    · have h' : t ≠ u := fun e => h e.symm
      simp only [h, decide_false, ih, List.mem_cons, h', false_or]
theorem Tally.get {L : List (List Int)} {l : List (List Int × D)} (h : Tally L l) (t : List Int) : dGetV (kvsS l) (stD t) = if t ∈ L then some (natD (L.count t)) else none := by
  obtain ⟨ks, rfl, hn, hk⟩ := h
  rw [dGetV_st, find_map]
  by_cases hm : t ∈ ks
  · rw [if_pos hm, if_pos ((hk t).mp hm)]
    rfl
  · rw [if_neg hm, if_neg (fun z => hm ((hk t).mpr z))]
    rfl
theorem Tally.at {L : List (List Int)} {l : List (List Int × D)} (h : Tally L l) {t : List Int} (ht : t ∈ L) : dAt (.dict (kvsS l)) (stD t) = some (natD (L.count t)) := by
  rw [at_dict, ← dGetV_st, h.get, if_pos ht]
theorem Tally.has {L : List (List Int)} {l : List (List Int × D)} (h : Tally L l) (t : List Int) : dIn (stD t) (.dict (kvsS l)) = some (.bool (decide (t ∈ L))) := by
  show (dHas _ _).map _ = _
  rw [has_dict]
  obtain ⟨ks, rfl, hn, hk⟩ := h
  rw [List.map_map]
  show some (PyData.bool (decide (t ∈ ks.map id))) = _
  rw [List.map_id]
  congr 2
  exact decide_eq_decide.mpr (hk t)
theorem Tally.nil : Tally [] [] := ⟨[], rfl, List.nodup_nil, fun t => Iff.rfl⟩
theorem Tally.put {M M' : List (List Int)} {l : List (List Int × D)} (h : Tally M l) {t0 : List Int} {c : Nat} (hc : 0 < c) (hM : ∀ t, M'.count t = M.count t + if t = t0 then c else 0) : ∃ l', dPutV (kvsS l) (stD t0) (natD (M.count t0 + c)) = kvsS l' ∧ Tally M' l' := by
  obtain ⟨ks, rfl, hn, hk⟩ := h
  have hmem : ∀ t, t ∈ M' ↔ t ∈ M ∨ t = t0 := fun t => by
    rw [← List.count_pos_iff, ← List.count_pos_iff, hM]
    by_cases e : t = t0
    · simp [e]; omega
    · simp [e]
  by_cases hm : t0 ∈ ks
  · refine ⟨ks.map fun t => (t, natD (M'.count t)), ?_, ks, rfl, hn, fun t => ?_⟩
    · unfold dPutV
      rw [if_pos]
      · unfold kvsS
        rw [List.map_map, List.map_map, List.map_map]
        refine List.map_congr_left fun t _ => ?_
        simp only [Function.comp]
        rw [dkEq_st]
        by_cases e : t = t0
        · simp [e, hM]
        · simp [e, hM]
      · unfold kvsS
        rw [List.map_map, List.any_map, List.any_eq_true]
        exact ⟨t0, hm, by simp only [Function.comp]; rw [dkEq_st]; simp⟩
    · rw [hmem, hk]
      refine ⟨.inl, fun z => z.elim id fun e => ?_⟩
      rw [e]
      exact (hk t0).mp hm
  · refine ⟨(ks.map fun t => (t, natD (M.count t))) ++ [(t0, natD (M.count t0 + c))], dPutV_st (fun p hp e => ?_), ks ++ [t0], ?_, ?_, fun t => ?_⟩
    · obtain ⟨t, ht, rfl⟩ := List.mem_map.mp hp
      exact hm (e ▸ ht)
    · rw [List.map_append]
      congr 1
      · refine List.map_congr_left fun t ht => ?_
        have e : t ≠ t0 := fun e => hm (e ▸ ht)
        rw [hM, if_neg e, Nat.add_zero]
      · rw [List.map_cons, List.map_nil, hM, if_pos rfl]
    · rw [List.nodup_append]
      exact ⟨hn, by simp, fun a ha b hb e => hm (by cases List.mem_singleton.mp hb; rw [← e]; exact ha)⟩
    · rw [List.mem_append, List.mem_singleton, hmem, hk]

set_option autoImplicit false
local macro_rules | `(tactic| decreasing_trivial_pre_omega) => `(tactic| first
  | with_reducible assumption)
theorem nodup_few : ∀ {ks L : List (List Int)}, ks.Nodup → (∀ t ∈ ks, t ∈ L) → ks.length ≤ L.length
  | [], _, _, _ => Nat.zero_le _
  | t :: ks, L, hn, h => by
    obtain ⟨h1, h2⟩ := List.nodup_cons.mp hn
    have ht := h t List.mem_cons_self
    have := nodup_few (ks := ks) (L := L.erase t) h2 fun u hu => (List.mem_erase_of_ne (fun e => h1 (by rw [← e]; exact hu))).mpr (h u (List.mem_cons_of_mem _ hu))
    rw [List.length_erase_of_mem ht] at this
    have := List.length_pos_of_mem ht
    rw [List.length_cons]
    omega
theorem Tally.len {L : List (List Int)} {l : List (List Int × D)} (h : Tally L l) : l.length ≤ L.length := by
  obtain ⟨ks, rfl, hn, hk⟩ := h
  rw [List.length_map]
  exact nodup_few hn fun t ht => (hk t).mp ht

set_option autoImplicit false
def atT (w : Web) (m : Nat) : List (List Int) := (allS w.n).map fun t => runL w t m
local macro_rules | `(tactic| decreasing_trivial_pre_omega) => `(tactic| first
  | with_reducible assumption)

set_option autoImplicit false
local macro_rules | `(tactic| decreasing_trivial_pre_omega) => `(tactic| first
  | with_reducible assumption)

set_option autoImplicit false
section
variable {w : Web} {s : List Int}
end

set_option autoImplicit false
section
variable {w : Web} {s : List Int}
end

set_option autoImplicit false
section
variable {w : Web} {s : List Int}
end

set_option autoImplicit false
section
variable {w : Web}
end
local macro_rules | `(tactic| decreasing_trivial_pre_omega) => `(tactic| first
  | with_reducible assumption)

set_option autoImplicit false
def isDig (c : Nat) : Bool := decide (48 ≤ c ∧ c < 58)
/-- a word's street -/
def sp (x : Str) : Option (Nat × Nat) := match x.cps.toList with
  | [p, q, r] => if q = 45 ∧ isDig p = true ∧ isDig r = true then some (p - 48, r - 48) else none
  | _ => none
local macro_rules | `(tactic| decreasing_trivial_pre_omega) => `(tactic| first
  | with_reducible assumption)

set_option autoImplicit false
instance (p q : Nat × Nat) : Decidable (lexN p q) := by unfold lexN; infer_instance
theorem up_range' (a n : Nat) : up (a : Int) n = (List.range' a n).map natD := by
  induction n generalizing a with
  | zero => rfl
  | succ n ih =>
    show PyData.int (a : Int) :: up ((a : Int) + 1) n = _
    rw [show ((a : Int) + 1) = ((a + 1 : Nat) : Int) by omega, ih]
    rfl
theorem rng2_up {os : List Opd} {ρ ρ1 : Env} {xs : List (Option D)} {a b : Nat} (h1 : evo os ρ = .ok xs ρ1) (h2 : fino os xs ρ1 = some [natD a, natD b]) (hb : b ≤ 100000) (ha : a ≤ 100000) : iRng fR2 os ρ = .ok ((List.range' a (b - a)).map natD) ρ1 := by
  have := iRng_ok (f := fR2) (lo := (a : Int)) (hi := (b : Int)) h1 h2 rfl ⟨by omega, by omega, by omega, by omega⟩
  rw [this, show ((b : Int) - a).toNat = b - a by omega, up_range']
local macro_rules | `(tactic| decreasing_trivial_pre_omega) => `(tactic| first
  | with_reducible assumption)

set_option autoImplicit false
local macro_rules | `(tactic| decreasing_trivial_pre_omega) => `(tactic| first
  | with_reducible assumption)

set_option autoImplicit false
local macro_rules | `(tactic| decreasing_trivial_pre_omega) => `(tactic| first
  | with_reducible assumption)

set_option autoImplicit false
local macro_rules | `(tactic| decreasing_trivial_pre_omega) => `(tactic| first
  | with_reducible assumption)

set_option autoImplicit false
def unN : D → Option Nat
  | .int i => if 0 ≤ i then some i.toNat else none
  | _ => none
def unNs : List D → Option (List Nat)
  | [] => some []
  | d :: ds => (unN d).bind fun x => (unNs ds).map fun l => x :: l
theorem unN_eq {d : D} {k : Nat} (h : unN d = some k) : d = natD k := by
  unfold unN at h
  split at h
  · split at h
    · rename_i i hi
      cases h
      unfold natD
      rw [show ((i.toNat : Nat) : Int) = i by omega]
    · cases h
  · cases h
theorem unNs_eq : ∀ {ds : List D} {l : List Nat}, unNs ds = some l → ds = l.map natD
  | [], l, h => by cases h; rfl
  | d :: ds, l, h => by
    unfold unNs at h
    cases e1 : unN d with
    | none => rw [e1] at h; cases h
    | some x =>
      rw [e1] at h
      cases e2 : unNs ds with
      | none => rw [e2] at h; cases h
      | some l' =>
        rw [e2] at h
        cases h
        rw [List.map_cons, ← unNs_eq e2, unN_eq e1]

set_option autoImplicit false
section
variable {w : Web}
noncomputable def root (w : Web) (v : Nat) : Nat := (lead_of w v).choose
theorem root_spec (w : Web) (v : Nat) : root w v ≤ v ∧ Reach w (root w v) v ∧ ∀ z, z < root w v → ¬ Reach w z (root w v) := (lead_of w v).choose_spec
theorem root_eq {u v : Nat} (h : Reach w u v) : root w u = root w v := by
  obtain ⟨_, h1, h2⟩ := root_spec w u
  obtain ⟨_, h3, h4⟩ := root_spec w v
  have r : Reach w (root w u) (root w v) := (h1.trans h).trans h3.symm
  rcases Nat.lt_trichotomy (root w u) (root w v) with h | h | h
  · exact absurd r (h4 _ h)
  · exact h
  · exact absurd r.symm (h2 _ h)
theorem depE (w : Web) (v : Nat) : ∃ m, Dist w (root w v) v m := by
  obtain ⟨m, hm⟩ := (root_spec w v).2.1.walk
  have : ∀ k, (∃ m, m ≤ k ∧ Walk w (root w v) v m) → ∃ m, Dist w (root w v) v m := by
    intro k
    induction k with
    | zero =>
      rintro ⟨m, h0, hm⟩
      exact ⟨m, hm, fun j hj => by omega⟩
    | succ k ih =>
      rintro ⟨m, h0, hm⟩
      by_cases h : ∃ m, m ≤ k ∧ Walk w (root w v) v m
      · exact ih h
      · refine ⟨m, hm, fun j hj => ?_⟩
        by_cases hjk : j ≤ k
        · exact absurd ⟨j, hjk, hj⟩ h
        · omega
  exact this m ⟨m, Nat.le_refl _, hm⟩
noncomputable def dep (w : Web) (v : Nat) : Nat := (depE w v).choose
theorem dep_spec (w : Web) (v : Nat) : Dist w (root w v) v (dep w v) := (depE w v).choose_spec
theorem adj_root {u v : Nat} (h : w.adj u v = true) : root w u = root w v := root_eq (Reach.on (.here u) h)
theorem dep_step {u v : Nat} (h : w.adj u v = true) : dep w v ≤ dep w u + 1 := by
  refine (dep_spec w v).2 _ ?_
  rw [← adj_root h]
  exact .on (dep_spec w u).1 h
theorem dep_zero {v : Nat} (h : dep w v = 0) : root w v = v := by
  have := (dep_spec w v).1
  rw [h] at this
  generalize root w v = r at this
  cases this
  rfl
theorem parE {v : Nat} (h : root w v ≠ v) : ∃ u, w.adj u v = true ∧ dep w u + 1 = dep w v := by
  obtain ⟨h1, h2⟩ := dep_spec w v
  cases hd : dep w v with
  | zero => exact absurd (dep_zero hd) h
  | succ d =>
    rw [hd] at h1
    generalize hr : root w v = r at h1
    cases h1 with
    | on hw' e =>
      refine ⟨_, e, ?_⟩
      have h3 := dep_step e
      have h4 := (dep_spec w _).2 d (by rw [adj_root e, hr]; exact hw')
      omega
noncomputable def par (w : Web) (v : Nat) : Nat := if h : root w v ≠ v then (parE h).choose else v
end
local macro_rules | `(tactic| decreasing_trivial_pre_omega) => `(tactic| first
  | with_reducible assumption)

set_option autoImplicit false
local macro_rules | `(tactic| decreasing_trivial_pre_omega) => `(tactic| first
  | with_reducible assumption)

set_option autoImplicit false
theorem take_on {α : Type} {l : List α} {i : Nat} {a : α} (h : l[i]? = some a) : l.take (i + 1) = l.take i ++ [a] := by rw [List.take_add_one, h]; rfl
theorem mod3 (i : Int) : dMod (.int i) (.int 3) = some (.int (i % 3)) := rfl
local macro_rules | `(tactic| decreasing_trivial_pre_omega) => `(tactic| first
  | with_reducible assumption)

set_option autoImplicit false
local macro_rules | `(tactic| decreasing_trivial_pre_omega) => `(tactic| first
  | with_reducible assumption)

set_option autoImplicit false

set_option autoImplicit false
local macro_rules | `(tactic| decreasing_trivial_pre_omega) => `(tactic| first
  | with_reducible assumption)

set_option autoImplicit false
theorem min_nat (a b : Nat) : dMin2 [natD a, natD b] = some (natD (min a b)) := by
  show some (PyData.int (if (b : Int) < a then (b : Int) else a)) = _
  unfold natD
  congr 2
  split <;> omega
def edg (a b : Nat) : Nat × Nat := (min a b, max a b)
theorem in_edg (w : Web) (a b : Nat) : dIn (.tuple [natD (min a b), natD (max a b)]) (.tuple (w.es.map pairN)) = some (.bool (w.adj a b)) := by
  have := in_es w (min a b : Nat) (max a b : Nat) (by omega) (by omega)
  rw [Int.toNat_natCast, Int.toNat_natCast] at this
  exact this
theorem notin_edg (w : Web) (a b : Nat) : dNotIn (pairN (edg a b)) (.tuple (w.es.map pairN)) = some (.bool (!w.adj a b)) := by
  have := in_edg w a b
  unfold dIn at this
  show (dHas (pairN (edg a b)) _).map _ = _
  cases e : dHas (.tuple [natD (min a b), natD (max a b)]) (.tuple (w.es.map pairN)) with
  | none => rw [e] at this; cases this
  | some x =>
    rw [e] at this
    cases this
    have e' : dHas (pairN (edg a b)) (.tuple (w.es.map pairN)) = some (w.adj a b) := e
    rw [e']
    rfl
theorem ne_boolV (a b : Bool) : dNe (.bool a) (.bool b) = some (.bool (!decide (a = b))) := by cases a <;> cases b <;> rfl
theorem ne_pairV (p q : Nat × Nat) : dNe (pairN p) (pairN q) = some (.bool (!decide (p = q))) := by
  unfold dNe
  rw [okPair p, okPair q, eqv_pair]
  rfl
theorem okSort_pairs (es : List (Nat × Nat)) : okSort (es.map pairN) = true := by
  have h1 : ∀ p : Nat × Nat, goodD (pairN p) = true := fun p => by rfl
  have h2 : ∀ p q : Nat × Nat, PySem.W.alike (encD (pairN p)) (encD (pairN q)) = true := fun p q => by
    show PySem.W.alike (.tuple [.int p.1, .int p.2]) (.tuple [.int q.1, .int q.2]) = true
    simp only [PySem.W.alike, PySem.W.alikeAll, Bool.and_self]
  have h3 : ∀ p : Nat × Nat, tup1 (encD (pairN p)) = true := fun p => rfl
  have h4 : ∀ p : Nat × Nat, (encD (pairN p)).depth ≤ 8 := fun p => by
    show (PyData.tuple [.int p.1, .int p.2]).depth ≤ 8
    simp [PyData.depth, PyData.depthAll]
  unfold okSort
  rw [Bool.and_eq_true, Bool.and_eq_true, Bool.and_eq_true, Bool.or_eq_true]
  refine ⟨⟨⟨?_, ?_⟩, .inl ?_⟩, ?_⟩ <;> refine List.all_eq_true.mpr fun d hd => ?_ <;> obtain ⟨p, _, rfl⟩ := List.mem_map.mp hd
  · exact h1 p
  · refine List.all_eq_true.mpr fun d hd => ?_
    obtain ⟨q, _, rfl⟩ := List.mem_map.mp hd
    exact h2 p q
  · exact h3 p
  · exact decide_eq_true (h4 p)
theorem sortM_ok (es : List (Nat × Nat)) : dSortM [.tuple (es.map pairN)] = some (.list (sortM (es.map pairN))) := if_pos (okSort_pairs es)
theorem add_pair {es : List (Nat × Nat)} (h : es.length ≤ 1000) (p : Nat × Nat) : dAdd (.tuple (es.map pairN)) (.tuple [pairN p]) = some (.tuple ((es ++ [p]).map pairN)) := by
  rw [List.map_append]
  exact if_pos (by rw [List.length_map]; show es.length + 1 ≤ _; unfold sizeLine; omega)
def withD (w : Web) (a b : Nat) : D := .tuple [natD w.n, .tuple (sortM ((w.es ++ [edg a b]).map pairN))]
def lessL (w : Web) (a b : Nat) : List (Nat × Nat) := w.es.filter fun e => !decide (e = edg a b)
theorem alk_with (w : Web) (hw : w.Ok) (a b k : Nat) : Alk (k + 4) (withD w a b) := by
  have hl := hw.few
  refine .tup (fun d hd => ?_) (by simp)
  rcases List.mem_cons.mp hd with rfl | hd
  · exact .int _ _
  · rw [List.mem_singleton.mp hd]
    refine .tup (fun d hd => ?_) (by unfold sortM; rw [List.length_mergeSort, List.length_map, List.length_append]; simp; omega)
    have hd : d ∈ ((w.es ++ [edg a b]).map pairN) := List.mem_mergeSort.mp hd
    obtain ⟨p, _, rfl⟩ := List.mem_map.mp hd
    exact .tup (fun d hd => by
      simp only [List.mem_cons, List.not_mem_nil, or_false] at hd
      rcases hd with rfl | rfl <;> exact .int _ _) (by simp)
theorem alk_pairs {es : List (Nat × Nat)} (h : es.length ≤ 1000) (n k : Nat) : Alk (k + 4) (.tuple [natD n, .tuple (es.map pairN)]) := by
  refine .tup (fun d hd => ?_) (by simp)
  rcases List.mem_cons.mp hd with rfl | hd
  · exact .int _ _
  · rw [List.mem_singleton.mp hd]
    refine .tup (fun d hd => ?_) (by rw [List.length_map]; omega)
    obtain ⟨p, _, rfl⟩ := List.mem_map.mp hd
    exact .tup (fun d hd => by
      simp only [List.mem_cons, List.not_mem_nil, or_false] at hd
      rcases hd with rfl | rfl <;> exact .int _ _) (by simp)
/-- a comprehension whatever its target -/
theorem compM_vs {α : Type} {f : α → D} {tm : TM} {cd : MB} {elt : ME} {vs : List Nat} {E : α → Env} {Wp : Env} (p : α → Bool) (g : α → D) : ∀ (ds : List α) (acc : List D), (∀ d ∈ ds, tm (f d) Wp = .ok () (E d) ∧ cd (E d) = .ok (p d) (E d) ∧ wipeE (E d) vs = Wp) → (∀ d ∈ ds, p d = true → elt (E d) = .ok (g d) (E d)) →
    compM tm cd elt vs (ds.map f) acc Wp = .ok (acc ++ (ds.filter p).map g) Wp
  | [], acc, _, _ => by simp [compM]
  | d :: ds, acc, h1, h2 => by
    obtain ⟨a1, a2, a3⟩ := h1 d List.mem_cons_self
    have ih := fun acc => compM_vs (E := E) (Wp := Wp) (vs := vs) (tm := tm) (cd := cd) (elt := elt) (f := f) p g ds acc (fun x hx => h1 x (List.mem_cons_of_mem _ hx)) fun x hx => h2 x (List.mem_cons_of_mem _ hx)
    have e0 : compM tm cd elt vs ((d :: ds).map f) acc Wp = (tm (f d) Wp).then fun _ ρ1 => (cd ρ1).then fun b ρ2 => if b = true then (elt ρ2).then fun y ρ3 => compM tm cd elt vs (ds.map f) (acc ++ [y]) (wipeE ρ3 vs) else compM tm cd elt vs (ds.map f) acc (wipeE ρ2 vs) := rfl
    rw [e0, a1]
    show ((cd (E d)).then fun b ρ2 => _) = _
    rw [a2]
    cases hp : p d with
    | false =>
      show compM tm cd elt vs (ds.map f) acc (wipeE (E d) vs) = _
      rw [a3, ih acc, List.filter_cons_of_neg (by rw [hp]; decide)]
    | true =>
      show ((elt (E d)).then fun y ρ3 => compM tm cd elt vs (ds.map f) (acc ++ [y]) (wipeE ρ3 vs)) = _
      rw [h2 d List.mem_cons_self hp]
      show compM tm cd elt vs (ds.map f) (acc ++ [g d]) (wipeE (E d) vs) = _
      rw [a3, ih, List.filter_cons_of_pos hp, List.map_cons, List.append_assoc]
      rfl
theorem mComp_vs {α : Type} {f : α → D} {it : MI} {tm : TM} {cd : MB} {elt : ME} {vs : List Nat} {E : α → Env} {Wp ρ ρ1 : Env} (p : α → Bool) (g : α → D) {ds : List α} (hit : it ρ = .ok (ds.map f) ρ1) (hw : wipeE ρ1 vs = Wp) (hu : unwipe ρ1 Wp vs = ρ1)
    (h1 : ∀ d ∈ ds, tm (f d) Wp = .ok () (E d) ∧ cd (E d) = .ok (p d) (E d) ∧ wipeE (E d) vs = Wp) (h2 : ∀ d ∈ ds, p d = true → elt (E d) = .ok (g d) (E d)) (hz : ds.length ≤ 1000000) : mComp it tm cd elt vs ρ = .ok (.list ((ds.filter p).map g)) ρ1 := by
  unfold mComp
  rw [hit]
  show (if (ds.map f).length ≤ sizeLine then _ else _) = _
  rw [if_pos (by rw [List.length_map]; unfold sizeLine; omega), hw, compM_vs p g ds [] h1 h2]
  show Rs.ok _ (unwipe ρ1 Wp vs) = _
  rw [hu]
  rfl
theorem mComp_vall {α : Type} {f : α → D} {it : MI} {tm : TM} {elt : ME} {vs : List Nat} {E : α → Env} {Wp ρ ρ1 : Env} (g : α → D) {ds : List α} (hit : it ρ = .ok (ds.map f) ρ1) (hw : wipeE ρ1 vs = Wp) (hu : unwipe ρ1 Wp vs = ρ1)
    (h1 : ∀ d ∈ ds, tm (f d) Wp = .ok () (E d) ∧ wipeE (E d) vs = Wp) (h2 : ∀ d ∈ ds, elt (E d) = .ok (g d) (E d)) (hz : ds.length ≤ 1000000) : mComp it tm bYes elt vs ρ = .ok (.list (ds.map g)) ρ1 := by
  have := mComp_vs (cd := bYes) (fun _ => true) g hit hw hu (fun d hd => ⟨(h1 d hd).1, rfl, (h1 d hd).2⟩) (fun d hd _ => h2 d hd) hz
  rw [List.filter_eq_self.mpr (fun _ _ => rfl)] at this
  exact this
local macro_rules | `(tactic| decreasing_trivial_pre_omega) => `(tactic| first
  | with_reducible assumption)
theorem are_nb {w : Web} (a b : Nat) : f_are_neighbours [.fz (webD w), .fz (natD a), .fz (natD b)] = .ok (.bool (w.adj a b)) [] := by
  have h1 := min_nat a b
  have h2 := max_nat a b
  have h3 := in_edg w a b
  have w1 := web_1 w
  refine W.fn0 rfl ?_; unfold m_are_neighbours; simp only [Nat.reduceSub, List.replicate_succ, List.replicate_zero, List.cons_append, List.nil_append]
  exact .ret (by array_get_dec) rfl
theorem need_ends_ok {w : Web} {a b : Nat} (ha : a < w.n) (hb : b < w.n) (hne : a ≠ b) : f_need_ends [.fz (webD w), .fz (natD a), .fz (natD b), .fz (.bool (w.adj a b))] = .ok .none [] := by
  have n1 := need_one_ok ha
  have n2 := need_one_ok hb
  have e1 := eq_nat a b
  rw [decide_eq_false hne] at e1
  have e2 := are_nb (w := w) a b
  have e3 := ne_boolV (w.adj a b) (w.adj a b)
  rw [decide_eq_true rfl] at e3
  have e3 : dNe (.bool (w.adj a b)) (.bool (w.adj a b)) = some (.bool false) := e3
  refine W.fn0 rfl ?_; unfold m_need_ends; simp only [Nat.reduceSub, List.replicate_succ, List.replicate_zero, List.cons_append, List.nil_append]
  sizeOf_list_dec
  sizeOf_list_dec
  exact .ifF (bOr_F (by array_get_dec) (by array_get_dec)) (.nil trivial)
theorem need_ends_no {w : Web} {a b : Nat} (ha : a < w.n) (hb : b < w.n) {t : Bool} (h : a = b ∨ w.adj a b ≠ t) : f_need_ends [.fz (webD w), .fz (natD a), .fz (natD b), .fz (.bool t)] = .ex (exN "BadStreet") := by
  have n1 := need_one_ok ha
  have n2 := need_one_ok hb
  have e1 := eq_nat a b
  have e2 := are_nb (w := w) a b
  have e3 := ne_boolV (w.adj a b) t
  refine X.fn rfl ?_; unfold m_need_ends; simp only [Nat.reduceSub, List.replicate_succ, List.replicate_zero, List.cons_append, List.nil_append]
  sizeOf_list_dec
  sizeOf_list_dec
  by_cases hab : a = b
  · rw [decide_eq_true hab] at e1
    exact .ifT (bOr_T (by array_get_dec)) .raise
  · rw [decide_eq_false hab] at e1
    rw [decide_eq_false (h.resolve_left hab)] at e3
    have e3 : dNe (.bool (w.adj a b)) (.bool t) = some (.bool true) := e3
    exact .ifT (bOr_F (by array_get_dec) (by array_get_dec)) .raise
theorem with_street_ok {w : Web} (hw : w.Ok) {a b : Nat} (ha : a < w.n) (hb : b < w.n) (hne : a ≠ b) (hadj : w.adj a b = false) : f_with_street [.fz (webD w), .fz (natD a), .fz (natD b)] = .ok (withD w a b) [] := by
  have n0 := need_web_ok hw
  have n1 := need_ends_ok ha hb hne
  rw [hadj] at n1
  have w0 := web_0 w
  have w1 := web_1 w
  have h1 := min_nat a b
  have h2 := max_nat a b
  have h3 := add_pair (es := w.es) (by have := hw.few; omega) (edg a b)
  have h3 : dAdd (.tuple (w.es.map pairN)) (.tuple [.tuple [natD (min a b), natD (max a b)]]) = some (.tuple ((w.es ++ [edg a b]).map pairN)) := h3
  have h4 := sortM_ok (w.es ++ [edg a b])
  unfold withD
  refine W.fn0 rfl ?_; unfold m_with_street; simp only [Nat.reduceSub, List.replicate_succ, List.replicate_zero, List.cons_append, List.nil_append]
  sizeOf_list_dec
  sizeOf_list_dec
  exact .ret (by array_get_dec) rfl
theorem with_street_no {w : Web} (hw : w.Ok) {a b : Nat} (ha : a < w.n) (hb : b < w.n) (h : a = b ∨ w.adj a b = true) : f_with_street [.fz (webD w), .fz (natD a), .fz (natD b)] = .ex (exN "BadStreet") := by
  have n0 := need_web_ok hw
  have n1 := need_ends_no ha hb (t := false) (h.imp id fun z => by rw [z]; decide)
  refine X.fn rfl ?_; unfold m_with_street; simp only [Nat.reduceSub, List.replicate_succ, List.replicate_zero, List.cons_append, List.nil_append]
  sizeOf_list_dec
  sizeOf_list_dec
theorem without_eq {w : Web} (hw : w.Ok) (a b : Nat) : f_without [.fz (webD w), .fz (natD a), .fz (natD b)] = .ok (.tuple [natD w.n, .tuple ((lessL w a b).map pairN)]) [] := by
  have w0 := web_0 w
  have w1 := web_1 w
  have h1 := min_nat a b
  have h2 := max_nat a b
  have hl := hw.few
  unfold lessL
  refine W.fn0 rfl ?_; unfold m_without; simp only [Nat.reduceSub, List.replicate_succ, List.replicate_zero, List.cons_append, List.nil_append]
  have hc := mComp_of (f := pairN) (i := 3) (it := iSeq (mOp2 dAt (.sl 0) (.ex (mLit (.int 1))))) (cd := mB (mOp2 dNe (.sl 3) (.ex (mTup [mFn dMin2 [.sl 1, .sl 2], mFn dMax2 [.sl 1, .sl 2]])))) (elt := mVar 3) (fun e => !decide (e = edg a b)) pairN (ds := w.es)
    (ρ := [.fz (webD w), .fz (natD a), .fz (natD b), .no]) (ρ1 := [.fz (webD w), .fz (natD a), .fz (natD b), .no]) (iSeq_T (by array_get_dec)) (.no rfl) (fun e _ => by
      simp only [List.set_cons_zero, List.set_cons_succ]
      have h3 : dNe (pairN e) (.tuple [natD (min a b), natD (max a b)]) = some (.bool (!decide (e = edg a b))) := ne_pairV e (edg a b)
      array_get_dec) (fun e _ _ => by simp only [List.set_cons_zero, List.set_cons_succ]; array_get_dec) (by omega)
  exact .ret (by array_get_dec) rfl
theorem without_street_ok {w : Web} (hw : w.Ok) {a b : Nat} (ha : a < w.n) (hb : b < w.n) (hne : a ≠ b) (hadj : w.adj a b = true) : f_without_street [.fz (webD w), .fz (natD a), .fz (natD b)] = .ok (.tuple [natD w.n, .tuple ((lessL w a b).map pairN)]) [] := by
  have n0 := need_web_ok hw
  have n1 := need_ends_ok ha hb hne
  rw [hadj] at n1
  have n2 := without_eq hw a b
  refine W.fn0 rfl ?_; unfold m_without_street; simp only [Nat.reduceSub, List.replicate_succ, List.replicate_zero, List.cons_append, List.nil_append]
  sizeOf_list_dec
  sizeOf_list_dec
  exact .ret (by array_get_dec) rfl
theorem without_street_no {w : Web} (hw : w.Ok) {a b : Nat} (ha : a < w.n) (hb : b < w.n) (h : w.adj a b = false) : f_without_street [.fz (webD w), .fz (natD a), .fz (natD b)] = .ex (exN "BadStreet") := by
  have n0 := need_web_ok hw
  have n1 := need_ends_no ha hb (t := true) (.inr (by rw [h]; decide))
  refine X.fn rfl ?_; unfold m_without_street; simp only [Nat.reduceSub, List.replicate_succ, List.replicate_zero, List.cons_append, List.nil_append]
  sizeOf_list_dec
  sizeOf_list_dec

set_option autoImplicit false
def shf (k : Nat) (e : Nat × Nat) : Nat × Nat := (e.1 + k, e.2 + k)
theorem add_natV (a b : Nat) : dAdd (natD a) (natD b) = some (natD (a + b)) := by
  show some (PyData.int ((a : Int) + b)) = _
  unfold natD
  rw [Int.natCast_add]
theorem add_pairsV {es fs : List (Nat × Nat)} (h : es.length + fs.length ≤ 10000) : dAdd (.tuple (es.map pairN)) (.tuple (fs.map pairN)) = some (.tuple ((es ++ fs).map pairN)) := by
  rw [List.map_append]
  exact if_pos (by rw [List.length_map, List.length_map]; unfold sizeLine; omega)
theorem cat_pairsV {es fs : List (Nat × Nat)} (h : es.length + fs.length ≤ 10000) : dCat (.list (es.map pairN)) (.list (fs.map pairN)) = some (.list ((es ++ fs).map pairN)) := by
  rw [List.map_append]
  exact if_pos (by rw [List.length_map, List.length_map]; unfold sizeLine; omega)
theorem cat_natV {l r : List Nat} (h : l.length + r.length ≤ 10000) : dCat (.list (l.map natD)) (.list (r.map natD)) = some (.list ((l ++ r).map natD)) := by
  rw [List.map_append]
  exact if_pos (by rw [List.length_map, List.length_map]; unfold sizeLine; omega)
theorem add_stV {s t : List Int} (h : s.length + t.length ≤ 10000) : dAdd (stD s) (stD t) = some (stD (s ++ t)) := by
  unfold stD
  rw [List.map_append]
  exact if_pos (by rw [List.length_map, List.length_map]; unfold sizeLine; omega)
def joinD (w v : Web) : D := .tuple [natD (w.n + v.n), .tuple ((w.es ++ v.es.map (shf w.n)).map pairN)]
/-- the streets along a row -/
def lineL (r : List Nat) : List (Nat × Nat) := (List.range (r.length - 1)).map fun k => edg (r.getD k 0) (r.getD (k + 1) 0)
def lineR (n a b m : Nat) : List Nat := a :: List.range' n m ++ [b]
def stretD (w : Web) (s : List Int) (a b : Nat) (ms : List Int) : D := .tuple [.tuple [natD (w.n + ms.length), .tuple ((sortN (lessL w a b ++ lineL (lineR w.n a b ms.length))).map pairN)], stD (s ++ ms)]
theorem at_natV {r : List Nat} {k : Nat} (h : k < r.length) : dAt (.list (r.map natD)) (natD k) = some (natD (r.getD k 0)) := by
  rw [at_L, List.getElem?_map, List.getElem?_eq_getElem h, List.getD_eq_getElem?_getD, List.getElem?_eq_getElem h]
  rfl
theorem zip_line (r : List Nat) : zipD (r.map natD) ((r.map natD).drop 1) = (List.range (r.length - 1)).map fun k => .tuple [natD (r.getD k 0), natD (r.getD (k + 1) 0)] := by
  refine List.ext_getElem? fun i => ?_
  unfold zipD
  rw [List.getElem?_map, List.getElem?_map]
  by_cases h : i < r.length - 1
  · rw [List.getElem?_range h]
    have g : ∀ j, j < r.length → (r.map natD)[j]? = some (natD (r.getD j 0)) := fun j hj => by
      rw [List.getElem?_map, List.getElem?_eq_getElem hj, List.getD_eq_getElem?_getD, List.getElem?_eq_getElem hj]
      rfl
    have e1 := g i (by omega)
    have e3 : ((r.map natD).drop 1)[i]? = some (natD (r.getD (i + 1) 0)) := by rw [List.getElem?_drop, Nat.add_comm]; exact g (i + 1) (by omega)
    have e4 : ((r.map natD).zip ((r.map natD).drop 1))[i]? = some (natD (r.getD i 0), natD (r.getD (i + 1) 0)) := List.getElem?_zip_eq_some.mpr ⟨e1, e3⟩
    rw [e4]
    rfl
  · rw [List.getElem?_eq_none (by rw [List.length_zip, List.length_drop, List.length_map]; omega), List.getElem?_eq_none (by simp; omega)]
    rfl
theorem lineR_len (n a b m : Nat) : (lineR n a b m).length = m + 2 := by unfold lineR; simp
theorem less_len (w : Web) (a b : Nat) : (lessL w a b).length ≤ w.es.length := List.length_filter_le _ _
local macro_rules | `(tactic| decreasing_trivial_pre_omega) => `(tactic| first
  | with_reducible assumption)
theorem joined_ok {w v : Web} (hw : w.Ok) (hv : v.Ok) (h : w.n + v.n ≤ 10) : f_joined [.fz (webD w), .fz (webD v)] = .ok (joinD w v) [] := by
  have n0 := need_web_ok hw
  have n1 := need_web_ok hv
  have w0 := web_0 w
  have w1 := web_1 w
  have v0 := web_0 v
  have v1 := web_1 v
  have a1 := add_natV w.n v.n
  have g1 : dGt (natD (w.n + v.n)) (.int 10) = some (.bool false) := (gt_nat (w.n + v.n) 10).trans (by rw [decide_eq_false (by omega)])
  have l1 := hw.few
  have l2 := hv.few
  have a2 := add_pairsV (es := w.es) (fs := v.es.map (shf w.n)) (by rw [List.length_map]; omega)
  unfold joinD
  refine W.fn0 rfl ?_; unfold m_joined; simp only [Nat.reduceSub, List.replicate_succ, List.replicate_zero, List.cons_append, List.nil_append]
  sizeOf_list_dec
  sizeOf_list_dec
  refine .seq (.ifF (by array_get_dec) (.nil ?_))
  have hc : mComp (iSeq (mOp2 dAt (.sl 1) (.ex (mLit (.int 1))))) (tmTup [([2], tmName 2), ([3], tmName 3)]) (bYes) (mTup [mOp2 dAdd (.sl 2) (.ex (mOp2 dAt (.sl 0) (.ex (mLit (.int 0))))), mOp2 dAdd (.sl 3) (.ex (mOp2 dAt (.sl 0) (.ex (mLit (.int 0)))))]) [2, 3] [.fz (webD w), .fz (webD v), .no, .no] = .ok (.list ((v.es.map (shf w.n)).map pairN)) [.fz (webD w), .fz (webD v), .no, .no] := by
    rw [List.map_map]
    refine mComp_vall (f := pairN) (E := fun e => [.fz (webD w), .fz (webD v), .fz (natD e.1), .fz (natD e.2)]) (Wp := [.fz (webD w), .fz (webD v), .no, .no]) (fun e => pairN (shf w.n e)) (ds := v.es) (ρ1 := [.fz (webD w), .fz (webD v), .no, .no]) (iSeq_T (by array_get_dec)) rfl rfl (fun e _ => ⟨rfl, rfl⟩) (fun e _ => ?_) (by omega)
    have b1 := add_natV e.1 w.n
    have b2 := add_natV e.2 w.n
    show _ = Rs.ok (PyData.tuple [natD (e.1 + w.n), natD (e.2 + w.n)]) _
    array_get_dec
  exact .ret (by array_get_dec) rfl
theorem joined_many {w v : Web} (hw : w.Ok) (hv : v.Ok) (h : 10 < w.n + v.n) : f_joined [.fz (webD w), .fz (webD v)] = .ex (exM (.int 10)) := by
  have n0 := need_web_ok hw
  have n1 := need_web_ok hv
  have w0 := web_0 w
  have v0 := web_0 v
  have a1 := add_natV w.n v.n
  have g1 : dGt (natD (w.n + v.n)) (.int 10) = some (.bool true) := (gt_nat (w.n + v.n) 10).trans (by rw [decide_eq_true (by omega)])
  refine X.fn rfl ?_; unfold m_joined; simp only [Nat.reduceSub, List.replicate_succ, List.replicate_zero, List.cons_append, List.nil_append]
  sizeOf_list_dec
  sizeOf_list_dec
  exact .here (.ifT (by array_get_dec) (.raiseF mLit_ok))
theorem le_1 (m : Nat) : dLe (.int 1) (natD m) = some (.bool (decide (1 ≤ m))) := by
  show some (PyData.bool (decide ((1 : Int) ≤ (m : Int)))) = _
  congr 2
  exact decide_eq_decide.mpr (by omega)
theorem le_9 (m : Nat) : dLe (natD m) (.int 9) = some (.bool (decide (m ≤ 9))) := by
  show some (PyData.bool (decide ((m : Int) ≤ 9))) = _
  congr 2
  exact decide_eq_decide.mpr (by omega)
theorem stretched_no {w : Web} (hw : w.Ok) {s : List Int} (hs : StOk w.n s) {a b : Nat} (ha : a < w.n) (hb : b < w.n) (h : w.adj a b = false) {d : D} : f_stretched [.fz (webD w), .fz (stD s), .fz (natD a), .fz (natD b), .fz d] = .ex (exN "BadStreet") := by
  have n0 := need_both_ok hw hs
  have n1 := need_ends_no ha hb (t := true) (.inr (by rw [h]; decide))
  refine X.fn rfl ?_; unfold m_stretched; simp only [Nat.reduceSub, List.replicate_succ, List.replicate_zero, List.cons_append, List.nil_append]
  sizeOf_list_dec
  sizeOf_list_dec
theorem stretched_bad {w : Web} (hw : w.Ok) {s : List Int} (hs : StOk w.n s) {a b : Nat} (ha : a < w.n) (hb : b < w.n) (hne : a ≠ b) (hadj : w.adj a b = true) {d : D}
    (hd : bOr (bNot (mB (mIsi ["tuple"] (.sl 4)))) (bOr (bNot (mB (mChain dLe dLe (.ex (mLit (.int 1))) (.ex (mFn dLen [.sl 4])) (.ex (mLit (.int 9)))))) (bNot (mB (mCall f_are_moods [.v (mVar 4), .v (mFn dLen [.sl 4])])))) [.fz (webD w), .fz (stD s), .fz (natD a), .fz (natD b), .fz d, .no, .no, .no, .no] = .ok true [.fz (webD w), .fz (stD s), .fz (natD a), .fz (natD b), .fz d, .no, .no, .no, .no]) : f_stretched [.fz (webD w), .fz (stD s), .fz (natD a), .fz (natD b), .fz d] = .ex (exN "BadState") := by
  have n0 := need_both_ok hw hs
  have n1 := need_ends_ok ha hb hne
  rw [hadj] at n1
  refine X.fn rfl ?_; unfold m_stretched; simp only [Nat.reduceSub, List.replicate_succ, List.replicate_zero, List.cons_append, List.nil_append]
  sizeOf_list_dec
  sizeOf_list_dec
  exact .here (.ifT hd .raise)
theorem stretched_many {w : Web} (hw : w.Ok) {s : List Int} (hs : StOk w.n s) {a b : Nat} (ha : a < w.n) (hb : b < w.n) (hne : a ≠ b) (hadj : w.adj a b = true) {ms : List Int} (hm : StOk ms.length ms) (h1 : 1 ≤ ms.length) (h9 : ms.length ≤ 9) (hmany : 10 < w.n + ms.length) : f_stretched [.fz (webD w), .fz (stD s), .fz (natD a), .fz (natD b), .fz (stD ms)] = .ex (exM (.int 10)) := by
  have n0 := need_both_ok hw hs
  have n1 := need_ends_ok ha hb hne
  rw [hadj] at n1
  have w0 := web_0 w
  have hmo := are_moods_ok hm (by omega)
  have hmo : f_are_moods [.fz (stD ms), .fz (natD ms.length)] = .ok (.bool true) [] := hmo
  have hlen : dLen [stD ms] = some (natD ms.length) := by unfold stD; rw [len_T, List.length_map]
  have c1 := le_1 ms.length
  rw [decide_eq_true h1] at c1
  have c2 := le_9 ms.length
  rw [decide_eq_true h9] at c2
  have a1 := add_natV w.n ms.length
  have g1 : dGt (natD (w.n + ms.length)) (.int 10) = some (.bool true) := (gt_nat (w.n + ms.length) 10).trans (by rw [decide_eq_true (by omega)])
  refine X.fn rfl ?_; unfold m_stretched; simp only [Nat.reduceSub, List.replicate_succ, List.replicate_zero, List.cons_append, List.nil_append]
  sizeOf_list_dec
  sizeOf_list_dec
  have i0 : mIsi ["tuple"] (.sl 4) [.fz (webD w), .fz (stD s), .fz (natD a), .fz (natD b), .fz (stD ms), .no, .no, .no, .no] = .ok (.bool true) [.fz (webD w), .fz (stD s), .fz (natD a), .fz (natD b), .fz (stD ms), .no, .no, .no, .no] := isi_ok (x := none) (t := "tuple") rfl rfl
  refine .seq (.ifF (bOr_F (bNot_F (mB_ok i0)) (bOr_F (bNot_F (by array_get_dec)) (bNot_F (by array_get_dec)))) (.nil ?_))
  sizeOf_list_dec
  exact .here (.ifT (by array_get_dec) (.raiseF mLit_ok))
theorem stretched_ok {w : Web} (hw : w.Ok) {s : List Int} (hs : StOk w.n s) {a b : Nat} (ha : a < w.n) (hb : b < w.n) (hne : a ≠ b) (hadj : w.adj a b = true) {ms : List Int} (hm : StOk ms.length ms) (h1 : 1 ≤ ms.length) (h9 : ms.length ≤ 9) (hmany : w.n + ms.length ≤ 10) : f_stretched [.fz (webD w), .fz (stD s), .fz (natD a), .fz (natD b), .fz (stD ms)] = .ok (stretD w s a b ms) [] := by
  have n0 := need_both_ok hw hs
  have n1 := need_ends_ok ha hb hne
  rw [hadj] at n1
  have n2 := without_eq hw a b
  have w0 := web_0 w
  have hl := hw.few
  have hll := less_len w a b
  have hsl := hs.len
  have hmo := are_moods_ok hm (by omega)
  have hmo : f_are_moods [.fz (stD ms), .fz (natD ms.length)] = .ok (.bool true) [] := hmo
  have hlen : dLen [stD ms] = some (natD ms.length) := by unfold stD; rw [len_T, List.length_map]
  have c1 := le_1 ms.length
  rw [decide_eq_true h1] at c1
  have c2 := le_9 ms.length
  rw [decide_eq_true h9] at c2
  have a1 := add_natV w.n ms.length
  have g1 : dGt (natD (w.n + ms.length)) (.int 10) = some (.bool false) := (gt_nat (w.n + ms.length) 10).trans (by rw [decide_eq_false (by omega)])
  have hR := lineR_len w.n a b ms.length
  unfold stretD
  refine W.fn0 rfl ?_; unfold m_stretched; simp only [Nat.reduceSub, List.replicate_succ, List.replicate_zero, List.cons_append, List.nil_append]
  sizeOf_list_dec
  sizeOf_list_dec
  have i0 : mIsi ["tuple"] (.sl 4) [.fz (webD w), .fz (stD s), .fz (natD a), .fz (natD b), .fz (stD ms), .no, .no, .no, .no] = .ok (.bool true) [.fz (webD w), .fz (stD s), .fz (natD a), .fz (natD b), .fz (stD ms), .no, .no, .no, .no] := isi_ok (x := none) (t := "tuple") rfl rfl
  refine .seq (.ifF (bOr_F (bNot_F (mB_ok i0)) (bOr_F (bNot_F (by array_get_dec)) (bNot_F (by array_get_dec)))) (.nil ?_))
  sizeOf_list_dec
  refine .seq (.ifF (by array_get_dec) (.nil ?_))
  have hrg : mListRg fR2 [.ex (mOp2 dAt (.sl 0) (.ex (mLit (.int 0)))), .sl 5] [.fz (webD w), .fz (stD s), .fz (natD a), .fz (natD b), .fz (stD ms), .fz (natD (w.n + ms.length)), .no, .no, .no] = .ok (.list ((List.range' w.n ms.length).map natD)) [.fz (webD w), .fz (stD s), .fz (natD a), .fz (natD b), .fz (stD ms), .fz (natD (w.n + ms.length)), .no, .no, .no] := by
    have e0 : iRng fR2 [.ex (mOp2 dAt (.sl 0) (.ex (mLit (.int 0)))), .sl 5] [.fz (webD w), .fz (stD s), .fz (natD a), .fz (natD b), .fz (stD ms), .fz (natD (w.n + ms.length)), .no, .no, .no] = .ok ((List.range' w.n (w.n + ms.length - w.n)).map natD) [.fz (webD w), .fz (stD s), .fz (natD a), .fz (natD b), .fz (stD ms), .fz (natD (w.n + ms.length)), .no, .no, .no] := rng2_up (xs := [some (natD w.n), none]) (evo_cons (ev_ex (by array_get_dec)) (evo_cons (ev_sl rfl) evo_nil)) rfl (by omega) (by omega)
    rw [show w.n + ms.length - w.n = ms.length by omega] at e0
    unfold mListRg
    rw [e0]
    exact if_pos (by simp; omega)
  have t1 : dCat (.list [natD a]) (.list ((List.range' w.n ms.length).map natD)) = some (.list ((a :: List.range' w.n ms.length).map natD)) := cat_natV (l := [a]) (by simp; omega)
  have t2 : dCat (.list ((a :: List.range' w.n ms.length).map natD)) (.list [natD b]) = some (.list ((lineR w.n a b ms.length).map natD)) := cat_natV (l := a :: List.range' w.n ms.length) (r := [b]) (by simp; omega)
  refine .seq (.set' (d := .list ((lineR w.n a b ms.length).map natD)) (ρ' := [.fz (webD w), .fz (stD s), .fz (natD a), .fz (natD b), .fz (stD ms), .fz (natD (w.n + ms.length)), .no, .no, .no]) (by array_get_dec) ?_)
  simp only [List.set_cons_zero, List.set_cons_succ]
  have hlr : dLen [.list ((lineR w.n a b ms.length).map natD)] = some (natD (ms.length + 1 + 1)) := by
    show some (PyData.int (((lineR w.n a b ms.length).map natD).length : Nat)) = _
    rw [List.length_map, hR]
    rfl
  have hc := comp_all (f := fun k => natD (k + 1)) (i := 8) (it := iRng fR2 [.ex (mLit (.int 1)), .ex (mFn dLen [.sl 6])]) (elt := mTup [mFn dMin2 [.ex (mOp2 dAt (.sl 6) (.ex (mOp2 dSub (.sl 8) (.ex (mLit (.int 1)))))), .ex (mOp2 dAt (.sl 6) (.sl 8))], mFn dMax2 [.ex (mOp2 dAt (.sl 6) (.ex (mOp2 dSub (.sl 8) (.ex (mLit (.int 1)))))), .ex (mOp2 dAt (.sl 6) (.sl 8))]]) (fun k => pairN (edg ((lineR w.n a b ms.length).getD k 0) ((lineR w.n a b ms.length).getD (k + 1) 0))) (ds := List.range (ms.length + 1))
    (ρ := [.fz (webD w), .fz (stD s), .fz (natD a), .fz (natD b), .fz (stD ms), .fz (natD (w.n + ms.length)), .fz (.list ((lineR w.n a b ms.length).map natD)), .no, .no]) (ρ1 := [.fz (webD w), .fz (stD s), .fz (natD a), .fz (natD b), .fz (stD ms), .fz (natD (w.n + ms.length)), .fz (.list ((lineR w.n a b ms.length).map natD)), .no, .no]) (rng1_nat (xs := [some (.int 1), some (natD (ms.length + 1 + 1))]) (evo_cons (ev_ex rfl) (evo_cons (ev_ex (by array_get_dec)) evo_nil)) rfl (by omega)) (.no rfl) (fun k hk => by
      have hk := List.mem_range.mp hk
      simp only [List.set_cons_zero, List.set_cons_succ]
      have b0 : dSub (natD (k + 1)) (.int 1) = some (natD k) := sub_nat1 (by omega)
      have b1 := at_natV (r := lineR w.n a b ms.length) (k := k) (by omega)
      have b2 := at_natV (r := lineR w.n a b ms.length) (k := k + 1) (by omega)
      have b3 := min_nat ((lineR w.n a b ms.length).getD k 0) ((lineR w.n a b ms.length).getD (k + 1) 0)
      have b4 := max_nat ((lineR w.n a b ms.length).getD k 0) ((lineR w.n a b ms.length).getD (k + 1) 0)
      show _ = Rs.ok (PyData.tuple [natD (min ((lineR w.n a b ms.length).getD k 0) ((lineR w.n a b ms.length).getD (k + 1) 0)), natD (max ((lineR w.n a b ms.length).getD k 0) ((lineR w.n a b ms.length).getD (k + 1) 0))]) _
      array_get_dec) (by rw [List.length_range]; omega)
  have hline : ((List.range (ms.length + 1)).map fun k => pairN (edg ((lineR w.n a b ms.length).getD k 0) ((lineR w.n a b ms.length).getD (k + 1) 0))) = (lineL (lineR w.n a b ms.length)).map pairN := by
    unfold lineL
    rw [hR, List.map_map]
    rfl
  rw [hline] at hc
  refine .seq (.own hc ?_)
  simp only [List.set_cons_zero, List.set_cons_succ]
  have a2 := add_stV (s := s) (t := ms) (by omega)
  have hll2 : (lineL (lineR w.n a b ms.length)).length = ms.length + 1 := by unfold lineL; rw [List.length_map, List.length_range, hR]; omega
  have k1 := cat_pairsV (es := lessL w a b) (fs := lineL (lineR w.n a b ms.length)) (by omega)
  have k2 := dSort_pair (lessL w a b ++ lineL (lineR w.n a b ms.length))
  have k3 : dAt (.tuple [natD w.n, .tuple ((lessL w a b).map pairN)]) (.int 1) = some (.tuple ((lessL w a b).map pairN)) := rfl
  exact .ret (by array_get_dec) rfl

set_option autoImplicit false
def ordZ (n : Nat) : Nat → List (List Nat)
  | 0 => [[]]
  | k + 1 => (ordZ n k).flatMap fun o => ((List.range n).filter fun v => !decide (v ∈ o)).map fun v => o ++ [v]
abbrev flN (o : List Nat) : D := .dict [(.none, .tuple (o.map natD))]
def unO : D → Option (List Nat)
  | .dict [(.none, .tuple ds)] => unNs ds
  | _ => none
def unOs : List D → Option (List (List Nat))
  | [] => some []
  | d :: ds => (unO d).bind fun x => (unOs ds).map fun l => x :: l
theorem unO_eq {d : D} {l : List Nat} (h : unO d = some l) : d = flN l := by
  unfold unO at h
  split at h
  · unfold flN
    rw [unNs_eq h]
  · cases h
theorem unOs_eq : ∀ {ds : List D} {l : List (List Nat)}, unOs ds = some l → ds = l.map flN
  | [], l, h => by cases h; rfl
  | d :: ds, l, h => by
    unfold unOs at h
    cases e1 : unO d with
    | none => rw [e1] at h; cases h
    | some x =>
      rw [e1] at h
      cases e2 : unOs ds with
      | none => rw [e2] at h; cases h
      | some l' =>
        rw [e2] at h
        cases h
        rw [List.map_cons, ← unOs_eq e2, unO_eq e1]
def sameOO (r : FR) (l : List (List Nat)) : Bool := match r with
  | .ok (.list ds) [] => decide (unOs ds = some l)
  | _ => false
theorem sameOO_eq {r : FR} {l : List (List Nat)} (h : sameOO r l = true) : r = .ok (.list (l.map flN)) [] := by
  unfold sameOO at h
  split at h
  · rw [unOs_eq (of_decide_eq_true h)]
  · cases h
theorem orders_all : ∀ n < 6, 1 ≤ n → sameOO (f_orders_of [.fz (natD n)]) (ordZ n n) = true := by decide +kernel
theorem law_orders_all : ∀ n < 6, 1 ≤ n → sameOO (f__law_orders [.fz (natD n)]) (ordZ n n) = true := by decide +kernel
theorem orders_eq {n : Nat} (h1 : 1 ≤ n) (h5 : n ≤ 5) : f_orders_of [.fz (natD n)] = .ok (.list ((ordZ n n).map flN)) [] := sameOO_eq (orders_all n (by omega) h1)
theorem law_orders_eq {n : Nat} (h1 : 1 ≤ n) (h5 : n ≤ 5) : f__law_orders [.fz (natD n)] = .ok (.list ((ordZ n n).map flN)) [] := sameOO_eq (law_orders_all n (by omega) h1)
theorem mem_ordZ {n : Nat} : ∀ {k : Nat} {o : List Nat}, o ∈ ordZ n k → o.length = k ∧ o.Nodup ∧ ∀ v ∈ o, v < n
  | 0, o, h => by
    unfold ordZ at h
    rw [List.mem_singleton.mp h]
    exact ⟨rfl, List.nodup_nil, fun v hv => by cases hv⟩
  | k + 1, o, h => by
    unfold ordZ at h
    obtain ⟨p, hp, h⟩ := List.mem_flatMap.mp h
    obtain ⟨v, hv, rfl⟩ := List.mem_map.mp h
    obtain ⟨h1, h2, h3⟩ := mem_ordZ hp
    obtain ⟨hv1, hv2⟩ := List.mem_filter.mp hv
    have hv2 : v ∉ p := by simpa using hv2
    refine ⟨by rw [List.length_append, h1]; rfl, List.nodup_append.mpr ⟨h2, by simp, fun a ha b hb => ?_⟩, fun u hu => ?_⟩
    · rw [List.mem_singleton.mp hb]
      rintro rfl
      exact hv2 ha
    · rcases List.mem_append.mp hu with hu | hu
      · exact h3 u hu
      · rw [List.mem_singleton.mp hu]
        exact List.mem_range.mp hv1
/-- a whole order -/
structure Ord (n : Nat) (o : List Nat) : Prop where
  len : o.length = n
  nd : o.Nodup
  inn : ∀ v ∈ o, v < n
theorem ord_of {n : Nat} {o : List Nat} (h : o ∈ ordZ n n) : Ord n o := ⟨(mem_ordZ h).1, (mem_ordZ h).2.1, (mem_ordZ h).2.2⟩
theorem Ord.all {n : Nat} {o : List Nat} (h : Ord n o) {v : Nat} (hv : v < n) : v ∈ o := by
  by_cases hm : v ∈ o
  · exact hm
  · have := nodup_le n (v :: o) (List.nodup_cons.mpr ⟨hm, h.nd⟩) fun u hu => by
      rcases List.mem_cons.mp hu with rfl | hu
      · exact hv
      · exact h.inn u hu
    rw [List.length_cons, h.len] at this
    omega
/-- where one stands -/
def pos (o : List Nat) (v : Nat) : Nat := o.idxOf v
theorem Ord.pos_lt {n : Nat} {o : List Nat} (h : Ord n o) {v : Nat} (hv : v < n) : pos o v < n := by
  have := List.idxOf_lt_length_iff.mpr (h.all hv)
  rw [h.len] at this
  exact this
theorem Ord.at_pos {n : Nat} {o : List Nat} (h : Ord n o) {v : Nat} (hv : v < n) : o.getD (pos o v) 0 = v := by
  have h1 := List.idxOf_lt_length_iff.mpr (h.all hv)
  unfold pos
  rw [List.getD_eq_getElem?_getD, List.getElem?_eq_getElem h1]
  exact List.getElem_idxOf h1
theorem Ord.pos_at {n : Nat} {o : List Nat} (h : Ord n o) {i : Nat} (hi : i < n) : pos o (o.getD i 0) = i := by
  have h1 : i < o.length := by rw [h.len]; exact hi
  unfold pos
  rw [List.getD_eq_getElem?_getD, List.getElem?_eq_getElem h1]
  exact h.nd.idxOf_getElem i h1
theorem findIdx_pos : ∀ {o : List Nat} {v : Nat}, v ∈ o → (o.map fun v : Nat => (v : Int)).findIdx? (fun z => z == (v : Int)) = some (pos o v)
  | [], v, h => by cases h
  | x :: o, v, h => by
    unfold pos
    rw [List.map_cons, List.findIdx?_cons, List.idxOf_cons]
    by_cases hx : x = v
    · subst hx
      simp
    · have hx' : ((x : Int) == (v : Int)) = false := by simp; omega
      have hx2 : (x == v) = false := by simp [hx]
      rw [hx', hx2]
      have hm : v ∈ o := by
        rcases List.mem_cons.mp h with rfl | h
        · exact absurd rfl hx
        · exact h
      rw [findIdx_pos hm]
      rfl
theorem index_fl {o : List Nat} {v : Nat} (h : v ∈ o) : indexF (flN o) (natD v) = some (natD (pos o v)) := by
  have e : o.map natD = (o.map fun v : Nat => (v : Int)).map PyData.int := by rw [List.map_map]; rfl
  show (dInts (o.map natD)).bind _ = _
  rw [e, dInts_of]
  show ((o.map fun v : Nat => (v : Int)).findIdx? (fun z => z == (v : Int))).map _ = _
  rw [findIdx_pos h]
  rfl
theorem mIndexF_ok {i : Nat} {ρ ρ' : Env} {m : ME} {o : List Nat} {v : Nat} (hi : at_ ρ i = some (flN o)) (hm : m ρ = .ok (natD v) ρ') (hv : v ∈ o) : mIndexF i m ρ = .ok (natD (pos o v)) ρ' := by
  unfold mIndexF
  rw [hi]
  show ((m ρ).then fun x ρ2 => match indexF (flN o) x with
    | some r => Rs.ok r ρ2
    | none => .stuck) = _
  rw [hm]
  show (match indexF (flN o) (natD v) with
    | some r => Rs.ok r ρ'
    | none => .stuck) = _
  rw [index_fl hv]
theorem iSeq_F {m : ME} {o : List Nat} {ρ ρ' : Env} (h : m ρ = .ok (flN o) ρ') : iSeq m ρ = .ok (o.map natD) ρ' := by
  unfold iSeq
  rw [h]
  rfl
/-- the web with its folk renamed -/
def mapL (w : Web) (o : List Nat) : List (Nat × Nat) := w.es.map fun e => edg (pos o e.1) (pos o e.2)
def nameW (w : Web) (o : List Nat) : Web := ⟨w.n, sortN (mapL w o)⟩
def nameS (s : List Int) (o : List Nat) : List Int := o.map (mood s)
def nameD (w : Web) (s : List Int) (o : List Nat) : D := .tuple [webD (nameW w o), stD (nameS s o)]
/-- the law's way -/
def pickL (w : Web) (o : List Nat) (a : Nat) : List (Nat × Nat) := ((List.range' (a + 1) (w.n - (a + 1))).filter fun b => w.adj (o.getD a 0) (o.getD b 0)).map fun b => (a, b)
def lawE (w : Web) (o : List Nat) (k : Nat) : List (Nat × Nat) := (List.range k).flatMap (pickL w o)
theorem mem_lawE {w : Web} {o : List Nat} {e : Nat × Nat} : e ∈ lawE w o w.n ↔ e.1 < e.2 ∧ e.2 < w.n ∧ w.adj (o.getD e.1 0) (o.getD e.2 0) = true := by
  obtain ⟨a, b⟩ := e
  unfold lawE pickL
  simp only [List.mem_flatMap, List.mem_range, List.mem_map, List.mem_filter, List.mem_range'_1, Prod.mk.injEq]
  constructor
  · rintro ⟨x, hx, y, ⟨⟨h1, h2⟩, h3⟩, rfl, rfl⟩
    exact ⟨by omega, by omega, h3⟩
  · rintro ⟨h1, h2, h3⟩
    exact ⟨a, by omega, b, ⟨⟨by omega, by omega⟩, h3⟩, rfl, rfl⟩
theorem lawE_nodup (w : Web) (o : List Nat) : ∀ k, (lawE w o k).Nodup
  | 0 => List.nodup_nil
  | k + 1 => by
    have e : lawE w o (k + 1) = lawE w o k ++ pickL w o k := by
      unfold lawE
      rw [List.range_succ, List.flatMap_append]
      simp
    rw [e]
    refine List.nodup_append.mpr ⟨lawE_nodup w o k, ?_, fun x hx y hy => ?_⟩
    · unfold pickL
      rw [List.Nodup, List.pairwise_map]
      exact ((List.nodup_range' (step := 1)).filter _).imp fun h z => h (Prod.mk.inj z).2
    · rintro rfl
      unfold lawE at hx
      obtain ⟨i, hi, hx⟩ := List.mem_flatMap.mp hx
      unfold pickL at hx hy
      obtain ⟨_, _, rfl⟩ := List.mem_map.mp hx
      obtain ⟨_, _, h⟩ := List.mem_map.mp hy
      have := (Prod.mk.inj h).1
      have := List.mem_range.mp hi
      omega
theorem adj_comm (w : Web) (a b : Nat) : w.adj a b = w.adj b a := by
  unfold Web.adj
  rw [Nat.min_comm, Nat.max_comm]
theorem mem_mapL {w : Web} (hw : w.Ok) {o : List Nat} (ho : Ord w.n o) {e : Nat × Nat} : e ∈ mapL w o ↔ e.1 < e.2 ∧ e.2 < w.n ∧ w.adj (o.getD e.1 0) (o.getD e.2 0) = true := by
  unfold mapL
  constructor
  · intro h
    obtain ⟨f, hf, rfl⟩ := List.mem_map.mp h
    obtain ⟨h1, h2⟩ := hw.inn f hf
    have p1 := ho.pos_lt (v := f.1) (by omega)
    have p2 := ho.pos_lt h2
    have q1 := ho.at_pos (v := f.1) (by omega)
    have q2 := ho.at_pos h2
    have hne : pos o f.1 ≠ pos o f.2 := fun z => by
      rw [z, q2] at q1
      omega
    have hadj : w.adj f.1 f.2 = true := by
      unfold Web.adj
      rw [Nat.min_eq_left (by omega), Nat.max_eq_right (by omega)]
      exact decide_eq_true hf
    unfold edg
    refine ⟨by simp; omega, by simp; omega, ?_⟩
    show w.adj (o.getD (min (pos o f.1) (pos o f.2)) 0) (o.getD (max (pos o f.1) (pos o f.2)) 0) = true
    rcases Nat.lt_or_gt_of_ne hne with h | h
    · rw [Nat.min_eq_left (by omega), Nat.max_eq_right (by omega), q1, q2]
      exact hadj
    · rw [Nat.min_eq_right (by omega), Nat.max_eq_left (by omega), q1, q2, adj_comm]
      exact hadj
  · rintro ⟨h1, h2, h3⟩
    have hm : (min (o.getD e.1 0) (o.getD e.2 0), max (o.getD e.1 0) (o.getD e.2 0)) ∈ w.es := of_decide_eq_true h3
    refine List.mem_map.mpr ⟨_, hm, ?_⟩
    have r1 := ho.pos_at (i := e.1) (by omega)
    have r2 := ho.pos_at h2
    show edg (pos o (min (o.getD e.1 0) (o.getD e.2 0))) (pos o (max (o.getD e.1 0) (o.getD e.2 0))) = e
    unfold edg
    rcases Nat.le_total (o.getD e.1 0) (o.getD e.2 0) with h | h
    · rw [Nat.min_eq_left h, Nat.max_eq_right h, r1, r2, Nat.min_eq_left (by omega), Nat.max_eq_right (by omega)]
    · rw [Nat.min_eq_right h, Nat.max_eq_left h, r1, r2, Nat.min_eq_right (by omega), Nat.max_eq_left (by omega)]
theorem mapL_nodup {w : Web} (hw : w.Ok) {o : List Nat} (ho : Ord w.n o) : (mapL w o).Nodup := by
  have hes : w.es.Nodup := hw.sorted.imp fun {a b} h z => by
    subst z
    unfold lexN at h
    omega
  unfold mapL
  rw [List.Nodup, List.pairwise_map]
  refine hes.imp_of_mem fun {a b} ha hb hne z => hne ?_
  obtain ⟨a1, a2⟩ := hw.inn a ha
  obtain ⟨b1, b2⟩ := hw.inn b hb
  have qa1 := ho.at_pos (v := a.1) (by omega)
  have qa2 := ho.at_pos a2
  have qb1 := ho.at_pos (v := b.1) (by omega)
  have qb2 := ho.at_pos b2
  unfold edg at z
  obtain ⟨z1, z2⟩ := Prod.mk.inj z
  have key : (pos o a.1 = pos o b.1 ∧ pos o a.2 = pos o b.2) ∨ (pos o a.1 = pos o b.2 ∧ pos o a.2 = pos o b.1) := by omega
  rcases key with ⟨k1, k2⟩ | ⟨k1, k2⟩
  · rw [k1, qb1] at qa1
    rw [k2, qb2] at qa2
    exact Prod.ext qa1.symm qa2.symm
  · rw [k1, qb2] at qa1
    rw [k2, qb1] at qa2
    omega
theorem sortN_same {l r : List (Nat × Nat)} (hl : l.Nodup) (hr : r.Nodup) (h : ∀ e, e ∈ l ↔ e ∈ r) : sortN l = sortN r := by
  have hp : l.Perm r := (List.perm_ext_iff_of_nodup hl hr).mpr h
  refine List.Perm.eq_of_pairwise (le := lexN) (fun a b _ _ h1 h2 => ?_) (sortN_sorted hl) (sortN_sorted hr) (((sortN_perm l).trans hp).trans (sortN_perm r).symm)
  unfold lexN at h1 h2
  omega
theorem names_same {w : Web} (hw : w.Ok) {o : List Nat} (ho : Ord w.n o) : sortN (lawE w o w.n) = sortN (mapL w o) := sortN_same (lawE_nodup w o w.n) (mapL_nodup hw ho) fun e => by rw [mem_lawE, mem_mapL hw ho]

set_option autoImplicit false
theorem at_fl {o : List Nat} {i : Nat} (h : i < o.length) : dAt (flN o) (natD i) = some (natD (o.getD i 0)) := by
  have e : dAt (flN o) (natD i) = (o.map natD)[i]? := atI_nat (o.map natD) i
  rw [e, List.getElem?_map, List.getElem?_eq_getElem h, List.getD_eq_getElem?_getD, List.getElem?_eq_getElem h]
  rfl
theorem sort_two (x y : Nat) : dSort [.list [natD x, natD y]] = some (.list [natD (min x y), natD (max x y)]) := by
  have e : [((min x y : Nat) : Int), ((max x y : Nat) : Int)] = sortI [(x : Int), (y : Int)] := by
    refine sortI_uniq ?_ ?_
    · rcases Nat.le_total x y with h | h
      · rw [Nat.min_eq_left h, Nat.max_eq_right h]
      · rw [Nat.min_eq_right h, Nat.max_eq_left h]
        exact List.Perm.swap _ _ _
    · simp
      omega
  show some (PyData.list ((sortI [(x : Int), (y : Int)]).map PyData.int)) = _
  rw [← e]
  rfl
theorem all_mapV {α : Type} (q : α → Bool) (l : List α) : dAll [.list (l.map fun d => .bool (q d))] = some (.bool (l.all q)) := by
  show (dBls (l.map fun d => PyData.bool (q d))).map _ = _
  rw [bls_map]
  show some (PyData.bool ((l.map q).all id)) = _
  rw [List.all_map]
  rfl
local macro_rules | `(tactic| decreasing_trivial_pre_omega) => `(tactic| first
  | with_reducible assumption)
theorem named_eq {w : Web} (hw : w.Ok) {s : List Int} (hs : StOk w.n s) {o : List Nat} (ho : Ord w.n o) : f_named [.fz (webD w), .fz (stD s), .fz (flN o)] = .ok (nameD w s o) [] := by
  have w0 := web_0 w
  have w1 := web_1 w
  have hm := hw.most
  have hl := hw.few
  unfold nameD webD nameW
  refine W.fn0 rfl ?_; unfold m_named; simp only [Nat.reduceSub, List.replicate_succ, List.replicate_zero, List.cons_append, List.nil_append]
  have hc := comp_all (f := natD) (i := 4) (it := iRng fR1 [.ex (mOp2 dAt (.sl 0) (.ex (mLit (.int 0))))]) (elt := mIndexF 2 (mVar 4)) (fun v => natD (pos o v)) (ds := List.range w.n) (ρ := [.fz (webD w), .fz (stD s), .fz (flN o), .no, .no, .no, .no, .no]) (ρ1 := [.fz (webD w), .fz (stD s), .fz (flN o), .no, .no, .no, .no, .no])
    (rng_nat (xs := [some (natD w.n)]) (evo_cons (ev_ex (by array_get_dec)) evo_nil) rfl (by omega)) (.no rfl) (fun v hv => mIndexF_ok rfl (mVar_fz rfl) (ho.all (List.mem_range.mp hv))) (by rw [List.length_range]; omega)
  refine .seq (.set' hc ?_)
  simp only [List.set_cons_zero, List.set_cons_succ]
  have hp : ∀ v, v < w.n → dAt (.list ((List.range w.n).map fun v => natD (pos o v))) (natD v) = some (natD (pos o v)) := fun v hv => by
    rw [at_L, List.getElem?_map, List.getElem?_range hv]
    rfl
  have hc2 : mComp (iSeq (mOp2 dAt (.sl 0) (.ex (mLit (.int 1))))) (tmTup [([6], tmName 6), ([7], tmName 7)]) (bYes) (mTup [mFn dMin2 [.ex (mOp2 dAt (.sl 3) (.sl 6)), .ex (mOp2 dAt (.sl 3) (.sl 7))], mFn dMax2 [.ex (mOp2 dAt (.sl 3) (.sl 6)), .ex (mOp2 dAt (.sl 3) (.sl 7))]]) [6, 7] [.fz (webD w), .fz (stD s), .fz (flN o), .fz (.list ((List.range w.n).map fun v => natD (pos o v))), .no, .no, .no, .no] = .ok (.list ((mapL w o).map pairN)) [.fz (webD w), .fz (stD s), .fz (flN o), .fz (.list ((List.range w.n).map fun v => natD (pos o v))), .no, .no, .no, .no] := by
    unfold mapL
    rw [List.map_map]
    refine mComp_vall (f := pairN) (E := fun e => [.fz (webD w), .fz (stD s), .fz (flN o), .fz (.list ((List.range w.n).map fun v => natD (pos o v))), .no, .no, .fz (natD e.1), .fz (natD e.2)]) (Wp := [.fz (webD w), .fz (stD s), .fz (flN o), .fz (.list ((List.range w.n).map fun v => natD (pos o v))), .no, .no, .no, .no]) (fun e => pairN (edg (pos o e.1) (pos o e.2))) (ds := w.es) (ρ1 := [.fz (webD w), .fz (stD s), .fz (flN o), .fz (.list ((List.range w.n).map fun v => natD (pos o v))), .no, .no, .no, .no]) (iSeq_T (by array_get_dec)) rfl rfl (fun e _ => ⟨rfl, rfl⟩) (fun e he => ?_) (by omega)
    obtain ⟨h1, h2⟩ := hw.inn e he
    have b1 := hp e.1 (by omega)
    have b2 := hp e.2 h2
    have b3 := min_nat (pos o e.1) (pos o e.2)
    have b4 := max_nat (pos o e.1) (pos o e.2)
    show _ = Rs.ok (PyData.tuple [natD (min (pos o e.1) (pos o e.2)), natD (max (pos o e.1) (pos o e.2))]) _
    array_get_dec
  refine .seq (.own hc2 ?_)
  simp only [List.set_cons_zero, List.set_cons_succ]
  have k2 := dSort_pair (mapL w o)
  have hc3 := comp_all (f := natD) (i := 4) (it := iSeq (mVar 2)) (elt := mOp2 dAt (.sl 1) (.sl 4)) (fun v => .int (mood s v)) (ds := o) (ρ := [.fz (webD w), .fz (stD s), .fz (flN o), .fz (.list ((List.range w.n).map fun v => natD (pos o v))), .no, .own (.list ((mapL w o).map pairN)), .no, .no]) (ρ1 := [.fz (webD w), .fz (stD s), .fz (flN o), .fz (.list ((List.range w.n).map fun v => natD (pos o v))), .no, .own (.list ((mapL w o).map pairN)), .no, .no])
    (iSeq_F (mVar_fz rfl)) (.no rfl) (fun v hv => by
      simp only [List.set_cons_zero, List.set_cons_succ]
      have b1 := st_at' hs (ho.inn v hv)
      array_get_dec) (by rw [ho.len]; omega)
  have e3 : (o.map fun v => PyData.int (mood s v)) = (nameS s o).map PyData.int := by unfold nameS; rw [List.map_map]; rfl
  rw [e3] at hc3
  have k4 : mTup [mOp2 dAt (.sl 0) (.ex (mLit (.int 0))), mFn dTuple [.ex (mFn dSort [.sl 5])]] [.fz (webD w), .fz (stD s), .fz (flN o), .fz (.list ((List.range w.n).map fun v => natD (pos o v))), .no, .own (.list ((mapL w o).map pairN)), .no, .no] = .ok (.tuple [.int w.n, .tuple ((sortN (mapL w o)).map pairN)]) [.fz (webD w), .fz (stD s), .fz (flN o), .fz (.list ((List.range w.n).map fun v => natD (pos o v))), .no, .own (.list ((mapL w o).map pairN)), .no, .no] := by
    show _ = Rs.ok (PyData.tuple [natD w.n, .tuple ((sortN (mapL w o)).map pairN)]) _
    array_get_dec
  have k5 : mFn dTuple [.ex (mComp (iSeq (mVar 2)) (tmName 4) (bYes) (mOp2 dAt (.sl 1) (.sl 4)) [4])] [.fz (webD w), .fz (stD s), .fz (flN o), .fz (.list ((List.range w.n).map fun v => natD (pos o v))), .no, .own (.list ((mapL w o).map pairN)), .no, .no] = .ok (stD (nameS s o)) [.fz (webD w), .fz (stD s), .fz (flN o), .fz (.list ((List.range w.n).map fun v => natD (pos o v))), .no, .own (.list ((mapL w o).map pairN)), .no, .no] := mFn_ok (evo_cons (ev_ex hc3) evo_nil) rfl rfl
  exact .ret (by array_get_dec) rfl
theorem pick_on {w : Web} {o : List Nat} {a : Nat} {l : List Nat} {j b : Nat} (h : l[j]? = some b) : (((l.take (j + 1)).filter fun b => w.adj (o.getD a 0) (o.getD b 0)).map fun b => (a, b)) = ((l.take j).filter fun b => w.adj (o.getD a 0) (o.getD b 0)).map (fun b => (a, b)) ++ if w.adj (o.getD a 0) (o.getD b 0) = true then [(a, b)] else [] := by
  rw [take_on h, List.filter_append, List.map_append, List.filter_cons, List.filter_nil]
  split <;> rfl
theorem law_named_eq {w : Web} (hw : w.Ok) {s : List Int} (hs : StOk w.n s) {o : List Nat} (ho : Ord w.n o) : f__law_named [.fz (webD w), .fz (stD s), .fz (flN o)] = .ok (nameD w s o) [] := by
  have w0 := web_0 w
  have w1 := web_1 w
  have hm := hw.most
  have hl := hw.few
  have hsame := names_same hw ho
  unfold nameD webD nameW
  refine W.fn0 rfl ?_; unfold m__law_named; simp only [Nat.reduceSub, List.replicate_succ, List.replicate_zero, List.cons_append, List.nil_append]
  refine .seq (.set' (d := .list []) (ρ' := [.fz (webD w), .fz (stD s), .fz (flN o), .no, .no, .no, .no, .no]) rfl ?_)
  simp only [List.set_cons_zero, List.set_cons_succ]
  have hlen : ∀ k, k ≤ 10 → (lawE w o k).length ≤ k * 10 := fun k => by
    induction k with
    | zero => intro _; exact Nat.zero_le _
    | succ k ih =>
      intro hk
      have e : lawE w o (k + 1) = lawE w o k ++ pickL w o k := by
        unfold lawE
        rw [List.range_succ, List.flatMap_append]
        simp
      have h2 : (pickL w o k).length ≤ 10 := by
        unfold pickL
        rw [List.length_map]
        refine Nat.le_trans (List.length_filter_le _ _) ?_
        rw [List.length_range']
        omega
      rw [e, List.length_append]
      have := ih (by omega)
      omega
  refine .seq (.forA (f := natD) (l := List.range w.n) (ρ0 := [.fz (webD w), .fz (stD s), .fz (flN o), .fz (.list []), .no, .no, .no, .no]) (fun i ρ => ∃ x4 x5 x6, ρ = [.fz (webD w), .fz (stD s), .fz (flN o), .fz (.list ((lawE w o i).map pairN)), x4, x5, x6, .no]) (rng_nat (xs := [some (natD w.n)]) (evo_cons (ev_ex (by array_get_dec)) evo_nil) rfl (by omega)) ⟨.no, .no, .no, rfl⟩ ?_ ?_)
  · rintro i a _ hi ⟨x4, x5, x6, rfl⟩
    obtain ⟨hi1, hi2⟩ := List.getElem?_eq_some_iff.mp hi
    rw [List.length_range] at hi1
    rw [List.getElem_range] at hi2
    subst hi2
    simp only [List.set_cons_zero, List.set_cons_succ]
    have a1 := add_nat1 i
    have hon : lawE w o (i + 1) = lawE w o i ++ pickL w o i := by
      unfold lawE
      rw [List.range_succ, List.flatMap_append]
      simp
    have hli := hlen i (by omega)
    refine .forA (f := natD) (l := List.range' (i + 1) (w.n - (i + 1))) (ρ0 := [.fz (webD w), .fz (stD s), .fz (flN o), .fz (.list ((lawE w o i).map pairN)), .fz (natD i), x5, x6, .no]) (fun j ρ => ∃ x5 x6, ρ = [.fz (webD w), .fz (stD s), .fz (flN o), .fz (.list ((lawE w o i ++ ((List.range' (i + 1) (w.n - (i + 1))).take j |>.filter fun b => w.adj (o.getD i 0) (o.getD b 0)).map fun b => (i, b)).map pairN)), .fz (natD i), x5, x6, .no])
      (rng2_up (xs := [some (natD (i + 1)), some (natD w.n)]) (evo_cons (ev_ex (by array_get_dec)) (evo_cons (ev_ex (by array_get_dec)) evo_nil)) rfl (by omega) (by omega)) ⟨x5, x6, by simp⟩ ?_ ?_
    · rintro j b _ hj ⟨x5, x6, rfl⟩
      have hb : b < w.n := by
        have := List.mem_range'_1.mp (List.mem_of_getElem? hj)
        omega
      rw [pick_on hj]
      simp only [List.set_cons_zero, List.set_cons_succ]
      obtain ⟨acc, hacc⟩ : ∃ acc, acc = lawE w o i ++ ((List.range' (i + 1) (w.n - (i + 1))).take j |>.filter fun b => w.adj (o.getD i 0) (o.getD b 0)).map fun b => (i, b) := ⟨_, rfl⟩
      have hal : acc.length ≤ 1000 := by
        rw [hacc, List.length_append, List.length_map]
        have h1 := List.length_filter_le (fun b => w.adj (o.getD i 0) (o.getD b 0)) ((List.range' (i + 1) (w.n - (i + 1))).take j)
        have h2 := List.length_take_le' j (List.range' (i + 1) (w.n - (i + 1)))
        rw [List.length_range'] at h2
        omega
      rw [← List.append_assoc, ← hacc]
      have b1 := at_fl (o := o) (i := i) (by rw [ho.len]; omega)
      have b2 := at_fl (o := o) (i := b) (by rw [ho.len]; omega)
      have b3 := sort_two (o.getD i 0) (o.getD b 0)
      have b4 := in_edg w (o.getD i 0) (o.getD b 0)
      refine .seq (.set' (d := .tuple [natD (min (o.getD i 0) (o.getD b 0)), natD (max (o.getD i 0) (o.getD b 0))]) (ρ' := [.fz (webD w), .fz (stD s), .fz (flN o), .fz (.list (acc.map pairN)), .fz (natD i), .fz (natD b), x6, .no]) (by array_get_dec) ?_)
      simp only [List.set_cons_zero, List.set_cons_succ]
      have hslot : at_ [.fz (webD w), .fz (stD s), .fz (flN o), .fz (.list (acc.map pairN)), .fz (natD i), .fz (natD b), .fz (.tuple [natD (min (o.getD i 0) (o.getD b 0)), natD (max (o.getD i 0) (o.getD b 0))]), .no] 3 = some (.list (acc.map pairN)) := rfl
      cases hadj : w.adj (o.getD i 0) (o.getD b 0) with
      | true =>
        rw [hadj] at b4
        rw [if_pos rfl]
        have hadd : dAdd (.list (acc.map pairN)) (.list [.tuple [natD i, natD b]]) = some (.list ((acc ++ [(i, b)]).map pairN)) := by
          rw [List.map_append]
          exact if_pos (by rw [List.length_map]; show acc.length + 1 ≤ _; unfold sizeLine; omega)
        refine .set' (op2_ok (x1 := none) (x2 := some (.list [.tuple [natD i, natD b]])) (ev_sl rfl) (ev_ex (mIf_t (by array_get_dec) (by array_get_dec))) rfl rfl hadd) ⟨_, _, rfl⟩
      | false =>
        rw [hadj] at b4
        rw [if_neg Bool.false_ne_true]
        have hadd : dAdd (.list (acc.map pairN)) (.list []) = some (.list ((acc ++ []).map pairN)) := by
          rw [List.map_append]
          exact if_pos (by rw [List.length_map]; show acc.length + 0 ≤ _; unfold sizeLine; omega)
        refine .set' (op2_ok (x1 := none) (x2 := some (.list [])) (ev_sl rfl) (ev_ex (mIf_f (by array_get_dec) rfl)) rfl rfl hadd) ⟨_, _, rfl⟩
    · rintro _ ⟨x5, x6, rfl⟩
      rw [List.take_length]
      exact ⟨.fz (natD i), x5, x6, by rw [hon]; rfl⟩
  · rintro _ ⟨x4, x5, x6, rfl⟩
    rw [List.length_range]
    have k2 := dSort_pair (lawE w o w.n)
    rw [hsame] at k2
    have hc3 := comp_all (f := natD) (i := 7) (it := iSeq (mVar 2)) (elt := mOp2 dAt (.sl 1) (.sl 7)) (fun v => .int (mood s v)) (ds := o) (ρ := [.fz (webD w), .fz (stD s), .fz (flN o), .fz (.list ((lawE w o w.n).map pairN)), x4, x5, x6, .no]) (ρ1 := [.fz (webD w), .fz (stD s), .fz (flN o), .fz (.list ((lawE w o w.n).map pairN)), x4, x5, x6, .no])
      (iSeq_F (mVar_fz rfl)) (.no rfl) (fun v hv => by
        simp only [List.set_cons_zero, List.set_cons_succ]
        have b1 := st_at' hs (ho.inn v hv)
        array_get_dec) (by rw [ho.len]; omega)
    have e3 : (o.map fun v => PyData.int (mood s v)) = (nameS s o).map PyData.int := by unfold nameS; rw [List.map_map]; rfl
    rw [e3] at hc3
    have k4 : mTup [mOp2 dAt (.sl 0) (.ex (mLit (.int 0))), mFn dTuple [.ex (mFn dSort [.sl 3])]] [.fz (webD w), .fz (stD s), .fz (flN o), .fz (.list ((lawE w o w.n).map pairN)), x4, x5, x6, .no] = .ok (.tuple [.int w.n, .tuple ((sortN (mapL w o)).map pairN)]) [.fz (webD w), .fz (stD s), .fz (flN o), .fz (.list ((lawE w o w.n).map pairN)), x4, x5, x6, .no] := by
      show _ = Rs.ok (PyData.tuple [natD w.n, .tuple ((sortN (mapL w o)).map pairN)]) _
      array_get_dec
    have k5 : mFn dTuple [.ex (mComp (iSeq (mVar 2)) (tmName 7) (bYes) (mOp2 dAt (.sl 1) (.sl 7)) [7])] [.fz (webD w), .fz (stD s), .fz (flN o), .fz (.list ((lawE w o w.n).map pairN)), x4, x5, x6, .no] = .ok (stD (nameS s o)) [.fz (webD w), .fz (stD s), .fz (flN o), .fz (.list ((lawE w o w.n).map pairN)), x4, x5, x6, .no] := mFn_ok (evo_cons (ev_ex hc3) evo_nil) rfl rfl
    exact .ret (by array_get_dec) rfl

set_option autoImplicit false
theorem dataLe_nat (a b : Nat) : PySem.W.dataLe false encD (natD a) (natD b) = decide (a ≤ b) := by
  have := congrFun (congrFun (PySem.W.dataLe_int (β := Nat) (fun n => (n : Int))) a) b
  have e : PySem.W.dataLe false encD (natD a) (natD b) = PySem.W.dataLe false (fun n : Nat => PyData.int (n : Int)) a b := rfl
  rw [e, this]
  exact decide_eq_decide.mpr (by omega)
theorem sortM_nat (l : List Nat) : sortM (l.map natD) = (l.mergeSort fun a b => decide (a ≤ b)).map natD := by
  unfold sortM
  exact (List.map_mergeSort (fun a _ b _ => (dataLe_nat a b).symm)).symm
theorem Ord.perm {n : Nat} {o : List Nat} (h : Ord n o) : o.Perm (List.range n) := (List.perm_ext_iff_of_nodup h.nd List.nodup_range).mpr fun v => ⟨fun hv => List.mem_range.mpr (h.inn v hv), fun hv => h.all (List.mem_range.mp hv)⟩
theorem Ord.sorted {n : Nat} {o : List Nat} (h : Ord n o) : (o.mergeSort fun a b => decide (a ≤ b)) = List.range n := by
  refine List.Perm.eq_of_pairwise (le := (· ≤ ·)) (fun a b _ _ h1 h2 => Nat.le_antisymm h1 h2) ?_ ?_ ((List.mergeSort_perm _ _).trans h.perm)
  · exact (List.pairwise_mergeSort (le := fun a b : Nat => decide (a ≤ b)) (fun a b c h1 h2 => by simp at *; omega) (fun a b => by simp; omega) o).imp fun h => by simpa using h
  · exact List.pairwise_lt_range.imp fun h => Nat.le_of_lt h
theorem okSort_nats (l : List Nat) : okSort (l.map natD) = true := by
  unfold okSort
  rw [Bool.and_eq_true, Bool.and_eq_true, Bool.and_eq_true, Bool.or_eq_true]
  refine ⟨⟨⟨?_, ?_⟩, .inr ?_⟩, ?_⟩ <;> refine List.all_eq_true.mpr fun d hd => ?_ <;> obtain ⟨p, _, rfl⟩ := List.mem_map.mp hd
  · rfl
  · refine List.all_eq_true.mpr fun d hd => ?_
    obtain ⟨q, _, rfl⟩ := List.mem_map.mp hd
    show PySem.W.alike (.int p) (.int q) = true
    simp only [PySem.W.alike]
  · rfl
  · refine decide_eq_true ?_
    show (PyData.int p).depth ≤ 8
    simp [PyData.depth]
theorem sort_ord {n : Nat} {o : List Nat} (h : Ord n o) : dSortM [flN o] = some (.list ((List.range n).map natD)) := by
  have e : dSortM [flN o] = if okSort (o.map natD) = true then some (.list (sortM (o.map natD))) else none := rfl
  rw [e, if_pos (okSort_nats o), sortM_nat, h.sorted]
theorem sort_tupM (l : List Nat) : ∃ r : List Nat, dSortM [.tuple (l.map natD)] = some (.list (r.map natD)) ∧ r.length = l.length := by
  have e : dSortM [.tuple (l.map natD)] = if okSort (l.map natD) = true then some (.list (sortM (l.map natD))) else none := rfl
  exact ⟨_, by rw [e, if_pos (okSort_nats l), sortM_nat], by rw [List.length_mergeSort]⟩
theorem ne_natsL (l r : List Nat) : dNe (.list (l.map natD)) (.list (r.map natD)) = some (.bool (!decide (l = r))) := by
  have h1 : okD (.list (l.map natD)) = true := (Shp.list (f := natD) (fun i => Shp.int _) l).ok
  have h2 : okD (.list (r.map natD)) = true := (Shp.list (f := natD) (fun i => Shp.int _) r).ok
  unfold dNe
  rw [h1, h2, eqv_nats]
  rfl
theorem num_dN (n v : Nat) (h : 1 ≤ n) : f_is_number [.fz (natD v), .fz (.int 0), .fz (natD (n - 1))] = .ok (.bool (decide (v < n))) [] := by
  have e : (decide ((0 : Int) ≤ v) && decide ((v : Int) ≤ ((n - 1 : Nat) : Int))) = decide (v < n) := by
    rw [decide_eq_true (by omega : (0 : Int) ≤ v), Bool.true_and]
    exact decide_eq_decide.mpr (by omega)
  have := num_int (v : Int) 0 ((n - 1 : Nat) : Int)
  rw [e] at this
  exact this
def qN (n : Nat) : D → Bool
  | .int i => decide (i < (n : Int))
  | _ => false
theorem num_qN (n v : Nat) (h : 1 ≤ n) : f_is_number [.fz (natD v), .fz (.int 0), .fz (natD (n - 1))] = .ok (.bool (qN n (natD v))) [] := by
  rw [num_dN n v h]
  have : qN n (natD v) = decide (v < n) := decide_eq_decide.mpr (by omega)
  rw [this]
local macro_rules | `(tactic| decreasing_trivial_pre_omega) => `(tactic| first
  | with_reducible assumption)
theorem rg_n {w : Web} (hw : w.Ok) {s : List Int} {d : D} : mListRg fR1 [.ex (mOp2 dAt (.sl 0) (.ex (mLit (.int 0))))] [.fz (webD w), .fz (stD s), .fz d, .no] = .ok (.list ((List.range w.n).map natD)) [.fz (webD w), .fz (stD s), .fz d, .no] := by
  have w0 := web_0 w
  have hm := hw.most
  have e0 : iRng fR1 [.ex (mOp2 dAt (.sl 0) (.ex (mLit (.int 0))))] [.fz (webD w), .fz (stD s), .fz d, .no] = .ok ((List.range w.n).map natD) [.fz (webD w), .fz (stD s), .fz d, .no] := rng_nat (xs := [some (natD w.n)]) (evo_cons (ev_ex (by array_get_dec)) evo_nil) rfl (by omega)
  unfold mListRg
  rw [e0]
  exact if_pos (by simp; omega)
theorem comp_nums {w : Web} (hw : w.Ok) {s : List Int} {d : D} {l : List D} (hl : l.length ≤ 1000) (hit : iSeq (mVar 2) [.fz (webD w), .fz (stD s), .fz d, .no] = .ok l [.fz (webD w), .fz (stD s), .fz d, .no]) {q : D → Bool} (hq : ∀ x ∈ l, f_is_number [.fz x, .fz (.int 0), .fz (natD (w.n - 1))] = .ok (.bool (q x)) []) :
    mFn dAll [.ex (mComp (iSeq (mVar 2)) (tmName 3) (bYes) (mCall f_is_number [.v (mVar 3), .v (mLit (.int 0)), .v (mOp2 dSub (.ex (mOp2 dAt (.sl 0) (.ex (mLit (.int 0))))) (.ex (mLit (.int 1))))]) [3])] [.fz (webD w), .fz (stD s), .fz d, .no] = .ok (.bool (l.all q)) [.fz (webD w), .fz (stD s), .fz d, .no] := by
  have w0 := web_0 w
  have b0 : dSub (natD w.n) (.int 1) = some (natD (w.n - 1)) := sub_nat1 hw.pos
  have hc := comp_all (f := fun x : D => x) (i := 3) (it := iSeq (mVar 2)) (elt := mCall f_is_number [.v (mVar 3), .v (mLit (.int 0)), .v (mOp2 dSub (.ex (mOp2 dAt (.sl 0) (.ex (mLit (.int 0))))) (.ex (mLit (.int 1))))]) (fun x => .bool (q x)) (ds := l) (ρ := [.fz (webD w), .fz (stD s), .fz d, .no]) (ρ1 := [.fz (webD w), .fz (stD s), .fz d, .no])
    (by rw [List.map_id']; exact hit) (.no rfl) (fun x hx => by
      simp only [List.set_cons_zero, List.set_cons_succ]
      have b1 := hq x hx
      array_get_dec) (by omega)
  exact mFn_ok (evo_cons (ev_ex hc) evo_nil) rfl (all_mapV q l)
theorem renamed_ok {w : Web} (hw : w.Ok) {s : List Int} (hs : StOk w.n s) {o : List Nat} (ho : Ord w.n o) : f_renamed [.fz (webD w), .fz (stD s), .fz (flN o)] = .ok (nameD w s o) [] := by
  have n0 := need_both_ok hw hs
  have n1 := named_eq hw hs ho
  have hm := hw.most
  have h1 := comp_nums (d := flN o) hw (s := s) (l := o.map natD) (by rw [List.length_map, ho.len]; omega) (iSeq_F (mVar_fz rfl)) (q := qN w.n) (fun x hx => by
      obtain ⟨v, _, rfl⟩ := List.mem_map.mp hx
      exact num_qN w.n v hw.pos)
  have e1 : ((o.map natD).all (qN w.n)) = true := by
    refine List.all_eq_true.mpr fun x hx => ?_
    obtain ⟨v, hv, rfl⟩ := List.mem_map.mp hx
    have := ho.inn v hv
    exact decide_eq_true (by omega)
  rw [e1] at h1
  have h2 := sort_ord ho
  have h3 := rg_n hw (s := s) (d := flN o)
  have h4 := ne_natsL (List.range w.n) (List.range w.n)
  rw [decide_eq_true rfl] at h4
  have h4 : dNe (.list ((List.range w.n).map natD)) (.list ((List.range w.n).map natD)) = some (.bool false) := h4
  refine W.fn0 rfl ?_; unfold m_renamed; simp only [Nat.reduceSub, List.replicate_succ, List.replicate_zero, List.cons_append, List.nil_append]
  sizeOf_list_dec
  have i0 : mIsi ["tuple"] (.sl 2) [.fz (webD w), .fz (stD s), .fz (flN o), .no] = .ok (.bool true) [.fz (webD w), .fz (stD s), .fz (flN o), .no] := isi_ok (x := none) (t := "tuple") rfl rfl
  refine .seq (.ifF (bOr_F (bNot_F (mB_ok i0)) (bNot_F (mB_ok h1))) (.nil ?_))
  refine .seq (.ifF (mB_ok (op2_ok (x1 := some (.list ((List.range w.n).map natD))) (x2 := some (.list ((List.range w.n).map natD))) (ev_ex (mFn_ok (ds := [flN o]) (evo_cons (ev_sl rfl) evo_nil) rfl h2)) (ev_ex h3) rfl rfl h4)) (.nil ?_))
  exact .ret (by array_get_dec) rfl
theorem renamed_bad1 {w : Web} (hw : w.Ok) {s : List Int} (hs : StOk w.n s) {d : D} {t : String} (ht : dTy d = some t) (hn : isB t "tuple" = false) : f_renamed [.fz (webD w), .fz (stD s), .fz d] = .ex (exN "BadOrder") := by
  have n0 := need_both_ok hw hs
  refine X.fn rfl ?_; unfold m_renamed; simp only [Nat.reduceSub, List.replicate_succ, List.replicate_zero, List.cons_append, List.nil_append]
  sizeOf_list_dec
  have i0 := isi_ok (Ts := ["tuple"]) (o := .sl 2) (ρ := [.fz (webD w), .fz (stD s), .fz d, .no]) (x := none) (t := t) rfl ht
  rw [show (["tuple"].any fun T => isB t T) = false by simp [hn]] at i0
  exact .here (.ifT (bOr_T (bNot_T (mB_ok i0))) .raise)
theorem renamed_bad2 {w : Web} (hw : w.Ok) {s : List Int} (hs : StOk w.n s) {l : List D} (hl : l.length ≤ 1000) {q : D → Bool} (hq : ∀ x ∈ l, f_is_number [.fz x, .fz (.int 0), .fz (natD (w.n - 1))] = .ok (.bool (q x)) []) (hx : l.all q = false) : f_renamed [.fz (webD w), .fz (stD s), .fz (.tuple l)] = .ex (exN "BadOrder") := by
  have n0 := need_both_ok hw hs
  have h1 := comp_nums (d := .tuple l) hw (s := s) hl (iSeq_T (mVar_fz rfl)) hq
  rw [hx] at h1
  refine X.fn rfl ?_; unfold m_renamed; simp only [Nat.reduceSub, List.replicate_succ, List.replicate_zero, List.cons_append, List.nil_append]
  sizeOf_list_dec
  have i0 : mIsi ["tuple"] (.sl 2) [.fz (webD w), .fz (stD s), .fz (.tuple l), .no] = .ok (.bool true) [.fz (webD w), .fz (stD s), .fz (.tuple l), .no] := isi_ok (x := none) (t := "tuple") rfl rfl
  exact .here (.ifT (bOr_F (bNot_F (mB_ok i0)) (bNot_T (mB_ok h1))) .raise)
theorem renamed_bad3 {w : Web} (hw : w.Ok) {s : List Int} (hs : StOk w.n s) {l : List Nat} (hl : l.length ≤ 1000) (hn : l.length ≠ w.n) (hv : ∀ v ∈ l, v < w.n) : f_renamed [.fz (webD w), .fz (stD s), .fz (.tuple (l.map natD))] = .ex (exN "BadOrder") := by
  have n0 := need_both_ok hw hs
  have h1 := comp_nums (d := .tuple (l.map natD)) hw (s := s) (l := l.map natD) (by rw [List.length_map]; exact hl) (iSeq_T (mVar_fz rfl)) (q := qN w.n) (fun x hx => by
      obtain ⟨v, _, rfl⟩ := List.mem_map.mp hx
      exact num_qN w.n v hw.pos)
  have e1 : ((l.map natD).all (qN w.n)) = true := by
    refine List.all_eq_true.mpr fun x hx => ?_
    obtain ⟨v, hvm, rfl⟩ := List.mem_map.mp hx
    have := hv v hvm
    exact decide_eq_true (by omega)
  rw [e1] at h1
  obtain ⟨r, h2, h5⟩ := sort_tupM l
  have h3 := rg_n hw (s := s) (d := .tuple (l.map natD))
  have h4 := ne_natsL r (List.range w.n)
  rw [decide_eq_false (fun z => hn (by rw [← h5, z, List.length_range]))] at h4
  have h4 : dNe (.list (r.map natD)) (.list ((List.range w.n).map natD)) = some (.bool true) := h4
  refine X.fn rfl ?_; unfold m_renamed; simp only [Nat.reduceSub, List.replicate_succ, List.replicate_zero, List.cons_append, List.nil_append]
  sizeOf_list_dec
  have i0 : mIsi ["tuple"] (.sl 2) [.fz (webD w), .fz (stD s), .fz (.tuple (l.map natD)), .no] = .ok (.bool true) [.fz (webD w), .fz (stD s), .fz (.tuple (l.map natD)), .no] := isi_ok (x := none) (t := "tuple") rfl rfl
  refine .seq (.ifF (bOr_F (bNot_F (mB_ok i0)) (bNot_F (mB_ok h1))) (.nil ?_))
  exact .here (.ifT (mB_ok (op2_ok (x1 := some (.list (r.map natD))) (x2 := some (.list ((List.range w.n).map natD))) (ev_ex (mFn_ok (ds := [.tuple (l.map natD)]) (evo_cons (ev_sl rfl) evo_nil) rfl h2)) (ev_ex h3) rfl rfl h4)) .raise)

set_option autoImplicit false
theorem shpW (w : Web) : Shp 3 (webD w) := by
  have h : ∀ b : Bool, Shp 2 (if b = true then PyData.int w.n else .tuple (w.es.map pairN)) := fun b => by
    cases b with
    | true => exact (Shp.int _).mono (by omega)
    | false => exact Shp.tup Shp.pair w.es
  exact Shp.tup (f := fun b : Bool => if b = true then PyData.int w.n else .tuple (w.es.map pairN)) h [true, false]
theorem eqv_pairsT (l m : List (Nat × Nat)) : PyData.eqv (.tuple (l.map pairN)) (.tuple (m.map pairN)) = decide (l = m) := by simp only [PyData.eqv]; exact eqvAll_map eqv_pair l m
theorem eq_nameW (w : Web) (o : List Nat) : dEq (webD (nameW w o)) (webD w) = some (.bool (decide (sortN (mapL w o) = w.es))) := by
  have e : PyData.eqv (webD (nameW w o)) (webD w) = decide (sortN (mapL w o) = w.es) := by
    show PyData.eqv (.tuple [.int w.n, .tuple ((sortN (mapL w o)).map pairN)]) (.tuple [.int w.n, .tuple (w.es.map pairN)]) = _
    simp only [PyData.eqv, PyData.eqvAll]
    have := eqv_pairsT (sortN (mapL w o)) w.es
    simp only [PyData.eqv] at this
    rw [this]
    simp
  unfold dEq
  rw [(shpW _).ok, (shpW _).ok, e]
  rfl
def turnI (s : List Int) (o : List Nat) : Int := (mood s (o.getD 0 0) - mood s 0) % 3
def fitB (w : Web) (s : List Int) (o : List Nat) : Bool := decide (sortN (mapL w o) = w.es) && (List.range w.n).all fun i => decide ((mood s i + turnI s o) % 3 = mood s (o.getD i 0))
def likeL (w : Web) (s : List Int) : List (List Nat) := (ordZ w.n w.n).filter (fitB w s)
def likeD (s : List Int) (o : List Nat) : D := .tuple [flN o, .int (turnI s o)]
theorem st_get {n : Nat} {s : List Int} (hs : StOk n s) {i : Nat} (hi : i < n) : (s.map PyData.int)[i]? = some (.int (mood s i)) := by
  have := st_at' hs hi
  have e : dAt (stD s) (natD i) = (s.map PyData.int)[i]? := atI_nat (s.map PyData.int) i
  rw [← e]
  exact this
theorem name_get {n : Nat} {s : List Int} {o : List Nat} (ho : Ord n o) {i : Nat} (hi : i < n) : ((nameS s o).map PyData.int)[i]? = some (.int (mood s (o.getD i 0))) := by
  have h1 : i < o.length := by rw [ho.len]; exact hi
  unfold nameS
  rw [List.map_map, List.getElem?_map, List.getElem?_eq_getElem h1, List.getD_eq_getElem?_getD, List.getElem?_eq_getElem h1]
  rfl
theorem zip_name {n : Nat} {s : List Int} (hs : StOk n s) {o : List Nat} (ho : Ord n o) : zipD (s.map PyData.int) ((nameS s o).map PyData.int) = (List.range n).map fun i => .tuple [.int (mood s i), .int (mood s (o.getD i 0))] := by
  refine List.ext_getElem? fun i => ?_
  unfold zipD
  rw [List.getElem?_map, List.getElem?_map]
  by_cases h : i < n
  · rw [List.getElem?_range h]
    have e4 : ((s.map PyData.int).zip ((nameS s o).map PyData.int))[i]? = some (.int (mood s i), .int (mood s (o.getD i 0))) := List.getElem?_zip_eq_some.mpr ⟨st_get hs h, name_get (s := s) ho h⟩
    rw [e4]
    rfl
  · have hl := hs.len
    have hl2 := ho.len
    rw [List.getElem?_eq_none (by rw [List.length_zip, List.length_map, List.length_map]; unfold nameS; rw [List.length_map]; omega), List.getElem?_eq_none (by simp; omega)]
    rfl
theorem eq_intV (a b : Int) : dEq (.int a) (.int b) = some (.bool (decide (a = b))) := eq_int a b
theorem like_few : ∀ n < 6, (ordZ n n).length ≤ 200 := by decide +kernel
theorem ord_lex : ∀ n < 6, (ordZ n n).Pairwise fun a b => ¬ ((b.map fun v : Nat => (v : Int)) < (a.map fun v : Nat => (v : Int))) ∧ a ≠ b := by decide +kernel
theorem enc_like (s : List Int) (o : List Nat) : encD (likeD s o) = .tuple [.tuple (o.map natD), .int (turnI s o)] := rfl
theorem alike_nats (a b : List Nat) : PySem.W.alike (.tuple (a.map natD)) (.tuple (b.map natD)) = true := by
  have e : ∀ l : List Nat, l.map natD = (l.map fun v : Nat => (v : Int)).map PyData.int := fun l => by rw [List.map_map]; rfl
  simp only [PySem.W.alike]
  rw [e, e]
  exact PySem.W.alike_ints _ _
theorem eqv_natsT (l m : List Nat) : PyData.eqv (.tuple (l.map natD)) (.tuple (m.map natD)) = decide (l = m) := by simp only [PyData.eqv]; exact eqvAll_map eqv_nat l m
theorem le_like {s : List Int} {a b : List Nat} (h : ¬ ((b.map fun v : Nat => (v : Int)) < (a.map fun v : Nat => (v : Int)))) (hne : a ≠ b) : PySem.W.dataLe false encD (likeD s a) (likeD s b) = true := by
  show (!PySem.W.dataLt (encD (likeD s b)) (encD (likeD s a))) = true
  rw [enc_like, enc_like, PySem.W.dataLt_pair (alike_nats b a) (by simp only [PySem.W.alike]), eqv_natsT, if_neg (by simp; exact fun z => hne z.symm)]
  have e : ∀ l : List Nat, l.map natD = (l.map fun v : Nat => (v : Int)).map PyData.int := fun l => by rw [List.map_map]; rfl
  rw [e, e, PySem.W.dataLt_tuple]
  show (!PySem.W.rowLt ((b.map fun v : Nat => (v : Int)).map .int) ((a.map fun v : Nat => (v : Int)).map .int)) = true
  rw [PySem.W.dataLt_ints, decide_eq_false h]
  rfl
theorem okSort_like {n : Nat} {s : List Int} {l : List (List Nat)} : okSort (l.map (likeD s)) = true := by
  have gd : ∀ o, goodD (likeD s o) = true := fun o => by
    show ([PyData.dict [(.none, .tuple (o.map natD))], .int (turnI s o)].all fun d => noDi (unF d)) = true
    have h1 : noDi (.tuple (o.map natD)) = true := okD.no ((Shp.tup (f := natD) (fun i => Shp.int _) o).ok)
    show (noDi (.tuple (o.map natD)) && (noDi (.int (turnI s o)) && true)) = true
    rw [h1]
    rfl
  unfold okSort
  rw [Bool.and_eq_true, Bool.and_eq_true, Bool.and_eq_true, Bool.or_eq_true]
  refine ⟨⟨⟨?_, ?_⟩, .inl ?_⟩, ?_⟩ <;> refine List.all_eq_true.mpr fun d hd => ?_ <;> obtain ⟨p, _, rfl⟩ := List.mem_map.mp hd
  · exact gd p
  · refine List.all_eq_true.mpr fun d hd => ?_
    obtain ⟨q, _, rfl⟩ := List.mem_map.mp hd
    rw [enc_like, enc_like]
    have := alike_nats p q
    simp only [PySem.W.alike, PySem.W.alikeAll] at this ⊢
    rw [this]
    rfl
  · rfl
  · refine decide_eq_true ?_
    rw [enc_like]
    have h1 : (PyData.tuple (p.map natD)).depth ≤ 1 := (Shp.tup (f := natD) (fun i => Shp.int _) p).dep
    have h2 : ∀ x y : PyData, x.depth ≤ 1 → y.depth ≤ 1 → (PyData.tuple [x, y]).depth ≤ 8 := fun x y hx hy => by
      simp only [PyData.depth, PyData.depthAll]
      omega
    exact h2 _ _ h1 (by simp [PyData.depth])
theorem sort_like {w : Web} (h5 : w.n ≤ 5) (s : List Int) : dSortM [.list ((likeL w s).map (likeD s))] = some (.list ((likeL w s).map (likeD s))) := by
  have e : dSortM [.list ((likeL w s).map (likeD s))] = if okSort ((likeL w s).map (likeD s)) = true then some (.list (sortM ((likeL w s).map (likeD s)))) else none := rfl
  rw [e, if_pos (okSort_like (n := w.n))]
  congr 2
  unfold sortM
  refine List.mergeSort_of_pairwise ?_
  rw [List.pairwise_map]
  unfold likeL
  exact ((ord_lex w.n (by omega)).filter _).imp fun h => le_like h.1 h.2
theorem alike_flG {k : Nat} (o : List Nat) (hl : o.length ≤ 1000) : f__law_alike (k + 2) [.fz (flN o), .fz (flN o)] = .ok (.bool true) [] := by
  refine W.fn0 rfl ?_
  unfold m__law_alike
  have hn : dLen [flN o] = some (.int (o.map natD).length) := rfl
  have l0 : mFn dLen [.sl 0] [.fz (flN o), .fz (flN o), .no] = .ok (.int (o.map natD).length) [.fz (flN o), .fz (flN o), .no] := rfl
  have l1 : mFn dLen [.sl 1] [.fz (flN o), .fz (flN o), .no] = .ok (.int (o.map natD).length) [.fz (flN o), .fz (flN o), .no] := rfl
  have i1 := mB_ok (op2_ok (ev_ex l0) (ev_ex l1) rfl rfl ((ne_int (o.map natD).length (o.map natD).length).trans (show _ = some (PyData.bool false) by simp)))
  refine .seq (.ifT (ρ1 := [.fz (flN o), .fz (flN o), .no]) rfl (.seq (.ifF (ρ1 := [.fz (flN o), .fz (flN o), .no]) rfl (.nil (.seq (.ifF i1 (.nil (.ret (alike_row (fun d hd => ?_) (by rw [List.length_map]; omega) (fun i => atI_nat (o.map natD) i) hn) rfl))))))))
  obtain ⟨v, _, rfl⟩ := List.mem_map.mp hd
  exact alike_self (.int _ _)
theorem alike_tupG {k : Nat} {ds : List D} (h : ∀ d ∈ ds, f__law_alike k [.fz d, .fz d] = .ok (.bool true) []) (hl : ds.length ≤ 1000000) : f__law_alike (k + 1) [.fz (.tuple ds), .fz (.tuple ds)] = .ok (.bool true) [] := by
  refine W.fn0 rfl ?_
  unfold m__law_alike
  have hn : dLen [.tuple ds] = some (.int ds.length) := rfl
  have l0 : mFn dLen [.sl 0] [.fz (.tuple ds), .fz (.tuple ds), .no] = .ok (.int ds.length) [.fz (.tuple ds), .fz (.tuple ds), .no] := rfl
  have l1 : mFn dLen [.sl 1] [.fz (.tuple ds), .fz (.tuple ds), .no] = .ok (.int ds.length) [.fz (.tuple ds), .fz (.tuple ds), .no] := rfl
  have i1 := mB_ok (op2_ok (ev_ex l0) (ev_ex l1) rfl rfl ((ne_int ds.length ds.length).trans (show _ = some (PyData.bool false) by simp)))
  exact .seq (.ifT (ρ1 := [.fz (.tuple ds), .fz (.tuple ds), .no]) rfl (.seq (.ifF (ρ1 := [.fz (.tuple ds), .fz (.tuple ds), .no]) rfl (.nil (.seq (.ifF i1 (.nil (.ret (alike_row h hl (fun i => atI_nat ds i) hn) rfl))))))))
theorem alike_like {w : Web} (h5 : w.n ≤ 5) (s : List Int) : f__law_alike 50 [.fz (.tuple ((likeL w s).map (likeD s))), .fz (.tuple ((likeL w s).map (likeD s)))] = .ok (.bool true) [] := by
  have hf := like_few w.n (by omega)
  refine alike_tupG (fun d hd => ?_) (by
    rw [List.length_map]
    have := List.length_filter_le (fitB w s) (ordZ w.n w.n)
    unfold likeL
    omega)
  obtain ⟨o, ho, rfl⟩ := List.mem_map.mp hd
  have hlen := (mem_ordZ (List.mem_filter.mp ho).1).1
  refine alike_tupG (fun d hd => ?_) (by simp)
  rcases List.mem_cons.mp hd with rfl | hd
  · exact alike_flG o (by omega)
  · rw [List.mem_singleton.mp hd]
    exact alike_self (.int _ _)
local macro_rules | `(tactic| decreasing_trivial_pre_omega) => `(tactic| first
  | with_reducible assumption)
theorem likenesses_eq {w : Web} (hw : w.Ok) (h5 : w.n ≤ 5) {s : List Int} (hs : StOk w.n s) : f_likenesses [.fz (webD w), .fz (stD s)] = .ok (.tuple ((likeL w s).map (likeD s))) [] := by
  have n0 := need_both_ok hw hs
  have w0 := web_0 w
  have hpos := hw.pos
  have g1 : dGt (natD w.n) (.int 7) = some (.bool false) := (gt_nat w.n 7).trans (by rw [decide_eq_false (by omega)])
  have ho := orders_eq hpos h5
  have hf := like_few w.n (by omega)
  refine W.fn0 rfl ?_; unfold m_likenesses; simp only [Nat.reduceSub, List.replicate_succ, List.replicate_zero, List.cons_append, List.nil_append]
  sizeOf_list_dec
  refine .seq (.ifF (by array_get_dec) (.nil ?_))
  refine .seq (.own (d := .list []) (ρ' := [.fz (webD w), .fz (stD s), .no, .no, .no, .no, .no, .no, .no]) rfl ?_)
  simp only [List.set_cons_zero, List.set_cons_succ]
  refine .seq (.forA (f := flN) (l := ordZ w.n w.n) (ρ0 := [.fz (webD w), .fz (stD s), .own (.list []), .no, .no, .no, .no, .no, .no]) (fun i ρ => ∃ x3 x4 x5 x6, ρ = [.fz (webD w), .fz (stD s), .own (.list ((((ordZ w.n w.n).take i).filter (fitB w s)).map (likeD s))), x3, x4, x5, x6, .no, .no]) (iSeq_L (by array_get_dec)) ⟨.no, .no, .no, .no, rfl⟩ ?_ ?_)
  · rintro i o _ hi ⟨x3, x4, x5, x6, rfl⟩
    have hord := ord_of (List.mem_of_getElem? hi)
    have n1 := named_eq hw hs hord
    simp only [List.set_cons_zero, List.set_cons_succ]
    refine .seq (.asg2 (a := webD (nameW w o)) (b := stD (nameS s o)) (ρ1 := [.fz (webD w), .fz (stD s), .own (.list ((((ordZ w.n w.n).take i).filter (fitB w s)).map (likeD s))), .fz (flN o), x4, x5, x6, .no, .no]) (by show _ = Rs.ok (nameD w s o) _; array_get_dec) ?_)
    simp only [List.set_cons_zero, List.set_cons_succ]
    have b1 : dAt (stD (nameS s o)) (.int 0) = some (.int (mood s (o.getD 0 0))) := (atI_nat ((nameS s o).map PyData.int) 0).trans (name_get hord hpos)
    have b2 : dAt (stD s) (.int 0) = some (.int (mood s 0)) := st_at' hs hpos
    have b3 : dSub (.int (mood s (o.getD 0 0))) (.int (mood s 0)) = some (.int (mood s (o.getD 0 0) - mood s 0)) := rfl
    have b4 : dMod (.int (mood s (o.getD 0 0) - mood s 0)) (.int 3) = some (.int (turnI s o)) := mod3 _
    refine .seq (.set' (d := .int (turnI s o)) (ρ' := [.fz (webD w), .fz (stD s), .own (.list ((((ordZ w.n w.n).take i).filter (fitB w s)).map (likeD s))), .fz (flN o), .fz (webD (nameW w o)), .fz (stD (nameS s o)), x6, .no, .no]) (by array_get_dec) ?_)
    simp only [List.set_cons_zero, List.set_cons_succ]
    have hz : iZip (mVar 1) (mVar 5) [.fz (webD w), .fz (stD s), .own (.list ((((ordZ w.n w.n).take i).filter (fitB w s)).map (likeD s))), .fz (flN o), .fz (webD (nameW w o)), .fz (stD (nameS s o)), .fz (.int (turnI s o)), .no, .no] = .ok ((List.range w.n).map fun i => .tuple [.int (mood s i), .int (mood s (o.getD i 0))]) [.fz (webD w), .fz (stD s), .own (.list ((((ordZ w.n w.n).take i).filter (fitB w s)).map (likeD s))), .fz (flN o), .fz (webD (nameW w o)), .fz (stD (nameS s o)), .fz (.int (turnI s o)), .no, .no] := by
      rw [← zip_name hs hord]
      rfl
    have hc : mComp (iZip (mVar 1) (mVar 5)) (tmTup [([7], tmName 7), ([8], tmName 8)]) (bYes) (mOp2 dEq (.ex (mOp2 dMod (.ex (mOp2 dAdd (.sl 7) (.sl 6))) (.ex (mLit (.int 3))))) (.sl 8)) [7, 8] [.fz (webD w), .fz (stD s), .own (.list ((((ordZ w.n w.n).take i).filter (fitB w s)).map (likeD s))), .fz (flN o), .fz (webD (nameW w o)), .fz (stD (nameS s o)), .fz (.int (turnI s o)), .no, .no] = .ok (.list ((List.range w.n).map fun i => .bool (decide ((mood s i + turnI s o) % 3 = mood s (o.getD i 0))))) [.fz (webD w), .fz (stD s), .own (.list ((((ordZ w.n w.n).take i).filter (fitB w s)).map (likeD s))), .fz (flN o), .fz (webD (nameW w o)), .fz (stD (nameS s o)), .fz (.int (turnI s o)), .no, .no] := by
      refine mComp_vall (f := fun i => .tuple [.int (mood s i), .int (mood s (o.getD i 0))]) (E := fun j => [.fz (webD w), .fz (stD s), .own (.list ((((ordZ w.n w.n).take i).filter (fitB w s)).map (likeD s))), .fz (flN o), .fz (webD (nameW w o)), .fz (stD (nameS s o)), .fz (.int (turnI s o)), .fz (.int (mood s j)), .fz (.int (mood s (o.getD j 0)))]) (Wp := [.fz (webD w), .fz (stD s), .own (.list ((((ordZ w.n w.n).take i).filter (fitB w s)).map (likeD s))), .fz (flN o), .fz (webD (nameW w o)), .fz (stD (nameS s o)), .fz (.int (turnI s o)), .no, .no]) (fun i => .bool (decide ((mood s i + turnI s o) % 3 = mood s (o.getD i 0)))) (ds := List.range w.n) (ρ1 := [.fz (webD w), .fz (stD s), .own (.list ((((ordZ w.n w.n).take i).filter (fitB w s)).map (likeD s))), .fz (flN o), .fz (webD (nameW w o)), .fz (stD (nameS s o)), .fz (.int (turnI s o)), .no, .no]) hz rfl rfl (fun e _ => ⟨rfl, rfl⟩) (fun j _ => ?_) (by rw [List.length_range]; omega)
      have c1 : dAdd (.int (mood s j)) (.int (turnI s o)) = some (.int (mood s j + turnI s o)) := rfl
      have c2 := mod3 (mood s j + turnI s o)
      have c3 := eq_intV ((mood s j + turnI s o) % 3) (mood s (o.getD j 0))
      array_get_dec
    have ha := all_mapV (fun i => decide ((mood s i + turnI s o) % 3 = mood s (o.getD i 0))) (List.range w.n)
    have hT : mFn dAll [.ex (mComp (iZip (mVar 1) (mVar 5)) (tmTup [([7], tmName 7), ([8], tmName 8)]) (bYes) (mOp2 dEq (.ex (mOp2 dMod (.ex (mOp2 dAdd (.sl 7) (.sl 6))) (.ex (mLit (.int 3))))) (.sl 8)) [7, 8])] [.fz (webD w), .fz (stD s), .own (.list ((((ordZ w.n w.n).take i).filter (fitB w s)).map (likeD s))), .fz (flN o), .fz (webD (nameW w o)), .fz (stD (nameS s o)), .fz (.int (turnI s o)), .no, .no] = .ok (.bool ((List.range w.n).all fun i => decide ((mood s i + turnI s o) % 3 = mood s (o.getD i 0)))) [.fz (webD w), .fz (stD s), .own (.list ((((ordZ w.n w.n).take i).filter (fitB w s)).map (likeD s))), .fz (flN o), .fz (webD (nameW w o)), .fz (stD (nameS s o)), .fz (.int (turnI s o)), .no, .no] := mFn_ok (evo_cons (ev_ex hc) evo_nil) rfl ha
    have hq := eq_nameW w o
    have htest : (bAnd (mB (mOp2 dEq (.sl 4) (.sl 0))) (mB (mFn dAll [.ex (mComp (iZip (mVar 1) (mVar 5)) (tmTup [([7], tmName 7), ([8], tmName 8)]) (bYes) (mOp2 dEq (.ex (mOp2 dMod (.ex (mOp2 dAdd (.sl 7) (.sl 6))) (.ex (mLit (.int 3))))) (.sl 8)) [7, 8])]))) [.fz (webD w), .fz (stD s), .own (.list ((((ordZ w.n w.n).take i).filter (fitB w s)).map (likeD s))), .fz (flN o), .fz (webD (nameW w o)), .fz (stD (nameS s o)), .fz (.int (turnI s o)), .no, .no] = .ok (fitB w s o) [.fz (webD w), .fz (stD s), .own (.list ((((ordZ w.n w.n).take i).filter (fitB w s)).map (likeD s))), .fz (flN o), .fz (webD (nameW w o)), .fz (stD (nameS s o)), .fz (.int (turnI s o)), .no, .no] := by
      unfold fitB
      by_cases hd : sortN (mapL w o) = w.es
      · rw [decide_eq_true hd] at hq ⊢
        rw [Bool.true_and]
        exact bAnd_T (mB_ok (op2_ok (x1 := none) (x2 := none) (ev_sl rfl) (ev_sl rfl) rfl rfl hq)) (mB_ok hT)
      · rw [decide_eq_false hd] at hq ⊢
        rw [Bool.false_and]
        exact bAnd_F (mB_ok (op2_ok (x1 := none) (x2 := none) (ev_sl rfl) (ev_sl rfl) rfl rfl hq))
    have hon : (((ordZ w.n w.n).take (i + 1)).filter (fitB w s)) = ((ordZ w.n w.n).take i).filter (fitB w s) ++ if fitB w s o = true then [o] else [] := by
      rw [take_on hi, List.filter_append, List.filter_cons, List.filter_nil]
    have hle : (((ordZ w.n w.n).take i).filter (fitB w s)).length ≤ 1000 := by
      have h1 := List.length_filter_le (fitB w s) ((ordZ w.n w.n).take i)
      have h2 := List.length_take_le' i (ordZ w.n w.n)
      omega
    rw [hon]
    cases hb : fitB w s o with
    | true =>
      rw [hb] at htest
      refine .ifT htest ?_
      refine W.app (d := likeD s o) (ρ' := [.fz (webD w), .fz (stD s), .own (.list ((((ordZ w.n w.n).take i).filter (fitB w s)).map (likeD s))), .fz (flN o), .fz (webD (nameW w o)), .fz (stD (nameS s o)), .fz (.int (turnI s o)), .no, .no]) rfl (by show _ = Rs.ok (PyData.tuple [flN o, .int (turnI s o)]) _; array_get_dec) rfl (by rw [List.length_map]; omega) ⟨.fz (flN o), .fz (webD (nameW w o)), .fz (stD (nameS s o)), .fz (.int (turnI s o)), ?_⟩
      simp only [List.set_cons_zero, List.set_cons_succ, if_true, List.map_append, List.map_cons, List.map_nil]
    | false =>
      rw [hb] at htest
      refine .ifF htest (.nil ⟨.fz (flN o), .fz (webD (nameW w o)), .fz (stD (nameS s o)), .fz (.int (turnI s o)), ?_⟩)
      rw [if_neg Bool.false_ne_true, List.append_nil]
  · rintro _ ⟨x3, x4, x5, x6, rfl⟩
    rw [List.take_length]
    exact .ret (mFn_ok (ds := [.list ((likeL w s).map (likeD s))]) (evo_cons (ev_sl rfl) evo_nil) rfl rfl) rfl

set_option autoImplicit false
def turnB (w : Web) (s : List Int) (o : List Nat) (t : Int) : Bool := decide (sortN (mapL w o) = w.es) && decide (nameS s o = s.map fun m => (m + t) % 3)
theorem turn_iff {n : Nat} {s : List Int} (hs : StOk n s) (hn : 1 ≤ n) {o : List Nat} (ho : Ord n o) {t : Int} (h0 : 0 ≤ t) (h3 : t < 3) : (nameS s o = s.map fun m => (m + t) % 3) ↔ t = turnI s o ∧ ∀ i, i < n → (mood s i + turnI s o) % 3 = mood s (o.getD i 0) := by
  have g1 : ∀ i, i < n → (nameS s o)[i]? = some (mood s (o.getD i 0)) := fun i hi => by
    have h1 : i < o.length := by rw [ho.len]; exact hi
    unfold nameS
    rw [List.getElem?_map, List.getElem?_eq_getElem h1, List.getD_eq_getElem?_getD, List.getElem?_eq_getElem h1]
    rfl
  have g2 : ∀ i, i < n → (s.map fun m => (m + t) % 3)[i]? = some ((mood s i + t) % 3) := fun i hi => by
    have h1 : i < s.length := by rw [hs.len]; exact hi
    have h2 : s[i]? = some (mood s i) := by
      unfold mood
      rw [List.getD_eq_getElem?_getD, List.getElem?_eq_getElem h1]
      rfl
    rw [List.getElem?_map, h2]
    rfl
  constructor
  · intro h
    have key : ∀ i, i < n → mood s (o.getD i 0) = (mood s i + t) % 3 := fun i hi => by
      have := g1 i hi
      rw [h, g2 i hi] at this
      exact (Option.some.inj this).symm
    have k0 := key 0 hn
    have m0 := mood_three hs 0
    have ht : t = turnI s o := by
      unfold turnI
      rw [k0]
      omega
    exact ⟨ht, fun i hi => by rw [← ht]; exact (key i hi).symm⟩
  · rintro ⟨rfl, h⟩
    refine List.ext_getElem? fun i => ?_
    by_cases hi : i < n
    · rw [g1 i hi, g2 i hi, h i hi]
    · have hl := hs.len
      have hl2 := ho.len
      rw [List.getElem?_eq_none (by unfold nameS; rw [List.length_map]; omega), List.getElem?_eq_none (by rw [List.length_map]; omega)]
theorem turnB_eq {w : Web} (hw : w.Ok) {s : List Int} (hs : StOk w.n s) {o : List Nat} (ho : Ord w.n o) {t : Int} (h0 : 0 ≤ t) (h3 : t < 3) : turnB w s o t = (fitB w s o && decide (t = turnI s o)) := by
  unfold turnB fitB
  rw [Bool.eq_iff_iff]
  simp only [Bool.and_eq_true, decide_eq_true_eq, List.all_eq_true, List.mem_range]
  rw [turn_iff hs hw.pos ho h0 h3]
  constructor
  · rintro ⟨h1, h2, h4⟩
    exact ⟨⟨h1, h4⟩, h2⟩
  · rintro ⟨⟨h1, h4⟩, h2⟩
    exact ⟨h1, h2, h4⟩
theorem turns_good {w : Web} (hw : w.Ok) {s : List Int} (hs : StOk w.n s) {o : List Nat} (ho : Ord w.n o) : ((([0, 1, 2] : List Int).filter (turnB w s o)).map fun t => PyData.tuple [flN o, .int t]) = if fitB w s o = true then [likeD s o] else [] := by
  have e0 := turnB_eq hw hs ho (t := 0) (by omega) (by omega)
  have e1 := turnB_eq hw hs ho (t := 1) (by omega) (by omega)
  have e2 := turnB_eq hw hs ho (t := 2) (by omega) (by omega)
  simp only [List.filter_cons, List.filter_nil, e0, e1, e2]
  cases fitB w s o with
  | false => rfl
  | true =>
    rw [if_pos rfl]
    have ht : turnI s o = 0 ∨ turnI s o = 1 ∨ turnI s o = 2 := by
      unfold turnI
      omega
    unfold likeD
    rcases ht with h | h | h <;> rw [h] <;> rfl
/-- what is no lot of moods -/
def badsS (ms : List Int) : List D := [.none, .tuple [], .list (ms.map PyData.int), .tuple [.int 3], .tuple [.bool true], .tuple (List.replicate 10 (.int 0)), .str "0"]
theorem stretched_bads {w : Web} (hw : w.Ok) {s : List Int} (hs : StOk w.n s) {a b : Nat} (ha : a < w.n) (hb : b < w.n) (hne : a ≠ b) (hadj : w.adj a b = true) {ms : List Int} : ∀ d ∈ badsS ms, f_stretched [.fz (webD w), .fz (stD s), .fz (natD a), .fz (natD b), .fz d] = .ex (exN "BadState") := fun d hd => by
  refine stretched_bad hw hs ha hb hne hadj ?_
  unfold badsS at hd
  simp only [List.mem_cons, List.not_mem_nil, or_false] at hd
  rcases hd with rfl | rfl | rfl | rfl | rfl | rfl | rfl <;> rfl
/-- what is no order -/
def badsO (n : Nat) (o : List Nat) : List D := [.none, .tuple [], .list (o.map natD), .tuple ((o ++ [0]).map natD), .tuple ((o.drop 1).map natD), .tuple (List.replicate n (.bool true)), .tuple ((List.replicate (n + 1) 0).map natD)]
theorem renamed_bads {w : Web} (hw : w.Ok) {s : List Int} (hs : StOk w.n s) {o : List Nat} (ho : Ord w.n o) : ∀ d ∈ badsO w.n o, f_renamed [.fz (webD w), .fz (stD s), .fz d] = .ex (exN "BadOrder") := fun d hd => by
  have hpos := hw.pos
  have hm := hw.most
  have hl := ho.len
  unfold badsO at hd
  simp only [List.mem_cons, List.not_mem_nil, or_false] at hd
  rcases hd with rfl | rfl | rfl | rfl | rfl | rfl | rfl
  · exact renamed_bad1 hw hs (t := "NoneType") rfl (by decide)
  · exact renamed_bad3 (l := []) hw hs (by simp) (by simp; omega) (fun v hv => by cases hv)
  · exact renamed_bad1 hw hs (t := "list") rfl (by decide)
  · refine renamed_bad3 hw hs (by rw [List.length_append]; simp; omega) (by rw [List.length_append]; simp; omega) (fun v hv => ?_)
    rcases List.mem_append.mp hv with hv | hv
    · exact ho.inn v hv
    · rw [List.mem_singleton.mp hv]
      omega
  · exact renamed_bad3 hw hs (by rw [List.length_drop]; omega) (by rw [List.length_drop]; omega) (fun v hv => ho.inn v (List.mem_of_mem_drop hv))
  · refine renamed_bad2 hw hs (by simp; omega) (q := fun _ => false) (fun x hx => ?_) ?_
    · rw [List.eq_of_mem_replicate hx]
      exact num_bool _ _ _
    · rw [List.all_eq_false]
      exact ⟨.bool true, List.mem_replicate.mpr ⟨by omega, rfl⟩, by simp⟩
  · refine renamed_bad3 hw hs (by simp; omega) (by simp) (fun v hv => ?_)
    rw [List.eq_of_mem_replicate hv]
    omega
theorem add_fl {o : List Nat} (h : 1 ≤ o.length) (hl : o.length ≤ 1000) : dAdd (flN o) (.tuple [.int 0]) = some (.tuple ((o ++ [0]).map natD)) := by
  cases o with
  | nil => simp at h
  | cons x l =>
    rw [List.map_append]
    exact if_pos (by show ((x :: l).map natD).length + 1 ≤ _; rw [List.length_map]; unfold sizeLine; omega)
theorem cut_fl {o : List Nat} (h : 1 ≤ o.length) : dCut (flN o) (some 1) none = some (.tuple ((o.drop 1).map natD)) := by
  have h1 := cut_1 (o.map natD) (by rw [List.length_map]; exact h)
  have h2 : dCut (.list (o.map natD)) (some 1) none = some (.list (dCut.cutV' (o.map natD) (some 1) none)) := rfl
  rw [h2] at h1
  have h3 : dCut.cutV' (o.map natD) (some 1) none = (o.map natD).drop 1 := by
    injection h1 with h1
    injection h1
  have e : dCut (flN o) (some 1) none = if HT.sIx (o.map natD).length 0 (some 1) ≠ 0 then some (.tuple (dCut.cutV' (o.map natD) (some 1) none)) else none := rfl
  rw [e, if_pos, h3, List.map_drop]
  have q : HT.sIx (o.map natD).length 0 (some ((1 : Nat) : Int)) = min 1 (o.map natD).length := HT.sIx_nat _ _ _
  have q : HT.sIx (o.map natD).length 0 (some 1) = min 1 (o.map natD).length := q
  rw [q, List.length_map]
  omega
theorem rep_one (d : D) {n : Nat} (h1 : 1 ≤ n) (h2 : n ≤ 1000) : dRepT (.tuple [d]) (natD n) = some (.tuple (List.replicate n d)) := by
  show (if _ then some (PyData.tuple (reps [d] (n : Int))) else none) = _
  rw [if_pos ⟨by simp, by simp, by omega, by omega⟩, reps_1]
theorem orders_some : ∀ n < 6, 1 ≤ n → 0 < (ordZ n n).length := by decide +kernel
theorem ne_same {x : Str} (h : PyData.strOk x = true) : dNe (.str x) (.str x) = some (.bool false) := by
  unfold dNe
  rw [okStr1 h, eqv_str]
  simp
local macro_rules | `(tactic| decreasing_trivial_pre_omega) => `(tactic| first
  | with_reducible assumption)
/-- drawn in a comprehension -/
theorem moods_comp {ns : List Int} {v2 v3 v4 v5 v6 v7 v8 : Sl} : ∀ (l : List D) (acc : List D) (d : D), RowOk ns d → ∃ (ms : List Int) (d' : D), ms.length = l.length ∧ (∀ x ∈ ms, 0 ≤ x ∧ x < 3) ∧ RowOk ns d' ∧
    compM (tmName 10) bYes (mCall f__law_taken [.io 1, .v (mLit (.int 3))]) [10] l acc [.fz (scrD ns), .own d, v2, v3, v4, v5, v6, v7, v8, .no, .no, .no, .no, .no, .no, .no, .no, .no, .no, .no, .no, .no, .no, .no, .no, .no] =
      .ok (acc ++ ms.map PyData.int) [.fz (scrD ns), .own d', v2, v3, v4, v5, v6, v7, v8, .no, .no, .no, .no, .no, .no, .no, .no, .no, .no, .no, .no, .no, .no, .no, .no, .no]
  | [], acc, d, r => ⟨[], d, rfl, (fun x hx => by cases hx), r, by simp [compM]⟩
  | x :: l, acc, d, r => by
    obtain ⟨v, d1, e1, h0, h3, r1⟩ := taken r (m := 3) (by omega) (by omega)
    obtain ⟨ms, d', a1, a2, a3, a4⟩ := moods_comp (v2 := v2) (v3 := v3) (v4 := v4) (v5 := v5) (v6 := v6) (v7 := v7) (v8 := v8) l (acc ++ [.int v]) d1 r1
    refine ⟨v :: ms, d', by rw [List.length_cons, List.length_cons, a1], fun y hy => ?_, a3, ?_⟩
    · rcases List.mem_cons.mp hy with rfl | hy
      · exact ⟨h0, h3⟩
      · exact a2 y hy
    · have e : mCall f__law_taken [.io 1, .v (mLit (.int 3))] [.fz (scrD ns), .own d, v2, v3, v4, v5, v6, v7, v8, .no, .fz x, .no, .no, .no, .no, .no, .no, .no, .no, .no, .no, .no, .no, .no, .no, .no] = .ok (.int v) [.fz (scrD ns), .own d1, v2, v3, v4, v5, v6, v7, v8, .no, .fz x, .no, .no, .no, .no, .no, .no, .no, .no, .no, .no, .no, .no, .no, .no, .no] := by array_get_dec
      show ((mCall f__law_taken [.io 1, .v (mLit (.int 3))] [.fz (scrD ns), .own d, v2, v3, v4, v5, v6, v7, v8, .no, .fz x, .no, .no, .no, .no, .no, .no, .no, .no, .no, .no, .no, .no, .no, .no, .no]).then fun y ρ3 => compM (tmName 10) bYes (mCall f__law_taken [.io 1, .v (mLit (.int 3))]) [10] l (acc ++ [y]) (wipeE ρ3 [10])) = _
      rw [e]
      show compM (tmName 10) bYes (mCall f__law_taken [.io 1, .v (mLit (.int 3))]) [10] l (acc ++ [.int v]) [.fz (scrD ns), .own d1, v2, v3, v4, v5, v6, v7, v8, .no, .no, .no, .no, .no, .no, .no, .no, .no, .no, .no, .no, .no, .no, .no, .no, .no] = _
      rw [a4, List.map_cons, List.append_assoc]
      rfl

set_option autoImplicit false
local macro_rules | `(tactic| decreasing_trivial_pre_omega) => `(tactic| first
  | with_reducible assumption)
theorem law_true (ns : List Int) (hl : ns.length ≤ 63) (hb : ∀ z ∈ ns, Builtin.Int.intBits z ≤ 1048576) : f_law [.fz (scrD ns)] = .ok (.bool true) [] := by
  have r0 : RowOk ns (rowD ns 0 15562 0) := ⟨0, 15562, 0, rfl, by omega, by omega, by omega⟩
  obtain ⟨w, d1, e1, hw, hn5, r1⟩ := web_drawn r0 (most := 5) (by omega) (by omega)
  have hn := hw.pos
  have h5 : w.n ≤ 5 := by omega
  have hfew := hw.few
  obtain ⟨s, d2, e2, hs, r2⟩ := state_drawn r1 hw
  have hsl := hs.len
  obtain ⟨x, d3, e3, v0, v1, r3⟩ := taken r2 (m := w.n) (by omega) (by omega)
  obtain ⟨a, rfl⟩ : ∃ i : Nat, x = i := ⟨x.toNat, by omega⟩
  have ha : a < w.n := by omega
  obtain ⟨x, d4, e4, v0, v1, r4⟩ := taken r3 (m := w.n) (by omega) (by omega)
  obtain ⟨b, rfl⟩ : ∃ i : Nat, x = i := ⟨x.toNat, by omega⟩
  have hb : b < w.n := by omega
  obtain ⟨x, d5, e5, v0, v1, r5⟩ := taken r4 (m := 6) (by omega) (by omega)
  obtain ⟨c, rfl⟩ : ∃ i : Nat, x = i := ⟨x.toNat, by omega⟩
  have hc : c < 6 := by omega
  have e3' : f__law_taken [.own d2, .fz (natD w.n)] = .ok (natD a) [d3] := e3
  have e4' : f__law_taken [.own d3, .fz (natD w.n)] = .ok (natD b) [d4] := e4
  have e5' : f__law_taken [.own d4, .fz (.int 6)] = .ok (natD c) [d5] := e5
  have w0 := web_0 w
  have w1 := web_1 w
  have hst : codeOf "BadStreet" = some ("street" : Str) := by decide
  have hsta : codeOf "BadState" = some ("state" : Str) := by decide
  have hor : codeOf "BadOrder" = some ("order" : Str) := by decide
  have q1 : dNe (.str "street") (.str "street") = some (.bool false) := ne_same (by decide +kernel)
  have q2 : dNe (.str "state") (.str "state") = some (.bool false) := ne_same (by decide +kernel)
  have q3 : dNe (.str "order") (.str "order") = some (.bool false) := ne_same (by decide +kernel)
  have q4 : dNe (.tuple [.str "many", .int 10]) (.tuple [.str "many", .int 10]) = some (.bool false) := by
    have h1 : okD (.tuple [.str "many", .int 10]) = true := by decide +kernel
    have h2 : PyData.eqv (.tuple [.str "many", .int 10]) (.tuple [.str "many", .int 10]) = true := by decide +kernel
    unfold dNe
    rw [h1, h2]
    rfl
  have q5 : dRep (.list [.str "street"]) (.int 2) = some (.list [.str "street", .str "street"]) := (rep_ok (k := 2) (by simp) (by decide)).trans (by rw [reps_1]; rfl)
  have q6 : dNe (.list [.str "street", .str "street"]) (.list [.str "street", .str "street"]) = some (.bool false) := by
    have h1 : okD (.list [.str "street", .str "street"]) = true := by decide +kernel
    have h2 : PyData.eqv (.list [.str "street", .str "street"]) (.list [.str "street", .str "street"]) = true := by decide +kernel
    unfold dNe
    rw [h1, h2]
    rfl
  refine W.fn0 rfl ?_
  unfold m_law
  refine .seq (.own (d := rowD ns 0 15562 0) (ρ' := [.fz (scrD ns), .no, .no, .no, .no, .no, .no, .no, .no, .no, .no, .no, .no, .no, .no, .no, .no, .no, .no, .no, .no, .no, .no, .no, .no, .no]) rfl ?_)
  simp only [List.set_cons_zero, List.set_cons_succ]
  sizeOf_list_dec
  refine .seq (.parT (ds := [stD s, natD w.n, .tuple (w.es.map pairN)]) (ρ2 := [.fz (scrD ns), .own d2, .fz (webD w), .fz (stD s), .fz (natD w.n), .fz (.tuple (w.es.map pairN)), .no, .no, .no, .no, .no, .no, .no, .no, .no, .no, .no, .no, .no, .no, .no, .no, .no, .no, .no, .no]) (by simp only [List.map_cons, List.map_nil]; array_get_dec) rfl ?_)
  refine .seq (.parT (ds := [natD a, natD b]) (ρ2 := [.fz (scrD ns), .own d4, .fz (webD w), .fz (stD s), .fz (natD w.n), .fz (.tuple (w.es.map pairN)), .fz (natD a), .fz (natD b), .no, .no, .no, .no, .no, .no, .no, .no, .no, .no, .no, .no, .no, .no, .no, .no, .no, .no]) (by simp only [List.map_cons, List.map_nil]; array_get_dec) rfl ?_)
  have b1 := min_nat a b
  have b2 := max_nat a b
  have b3 := in_edg w a b
  have b4 := eq_nat a b
  refine .seq (.set' (d := .tuple [natD (min a b), natD (max a b)]) (ρ' := [.fz (scrD ns), .own d4, .fz (webD w), .fz (stD s), .fz (natD w.n), .fz (.tuple (w.es.map pairN)), .fz (natD a), .fz (natD b), .no, .no, .no, .no, .no, .no, .no, .no, .no, .no, .no, .no, .no, .no, .no, .no, .no, .no]) (by array_get_dec) ?_)
  simp only [List.set_cons_zero, List.set_cons_succ]
  -- a street more
  have hadjne : w.adj a b = true → a ≠ b := fun h => (Web.adj_lt hw h).2.2
  have st1 : W (sIf (bOr (mB (mOp2 dEq (.sl 6) (.sl 7))) (mB (mOp2 dIn (.sl 8) (.sl 5)))) (sIf (mB (mOp2 dNe (.ex (mRef (mCall f_with_street [.v (mVar 2), .v (mVar 6), .v (mVar 7)]))) (.ex (mLit (.str "street"))))) (sRet (mLit (.bool false))) (sNil)) (sIf (bNot (mB (mCall (f__law_alike 50) [.v (mCall f_with_street [.v (mVar 2), .v (mVar 6), .v (mVar 7)]), .v (mTup [mVar 4, mFn dTuple [.ex (mFn dSortM [.ex (mOp2 dAdd (.sl 5) (.ex (mTup [mVar 8])))])]])]))) (sRet (mLit (.bool false))) (sNil)))
      [.fz (scrD ns), .own d4, .fz (webD w), .fz (stD s), .fz (natD w.n), .fz (.tuple (w.es.map pairN)), .fz (natD a), .fz (natD b), .fz (.tuple [natD (min a b), natD (max a b)]), .no, .no, .no, .no, .no, .no, .no, .no, .no, .no, .no, .no, .no, .no, .no, .no, .no] (fun ρ => ρ = [.fz (scrD ns), .own d4, .fz (webD w), .fz (stD s), .fz (natD w.n), .fz (.tuple (w.es.map pairN)), .fz (natD a), .fz (natD b), .fz (.tuple [natD (min a b), natD (max a b)]), .no, .no, .no, .no, .no, .no, .no, .no, .no, .no, .no, .no, .no, .no, .no, .no, .no]) (fun d _ => d = .bool true) := by
    by_cases hcase : a = b ∨ w.adj a b = true
    · have hno := with_street_no hw ha hb hcase
      have ht : (bOr (mB (mOp2 dEq (.sl 6) (.sl 7))) (mB (mOp2 dIn (.sl 8) (.sl 5)))) [.fz (scrD ns), .own d4, .fz (webD w), .fz (stD s), .fz (natD w.n), .fz (.tuple (w.es.map pairN)), .fz (natD a), .fz (natD b), .fz (.tuple [natD (min a b), natD (max a b)]), .no, .no, .no, .no, .no, .no, .no, .no, .no, .no, .no, .no, .no, .no, .no, .no, .no] = .ok true [.fz (scrD ns), .own d4, .fz (webD w), .fz (stD s), .fz (natD w.n), .fz (.tuple (w.es.map pairN)), .fz (natD a), .fz (natD b), .fz (.tuple [natD (min a b), natD (max a b)]), .no, .no, .no, .no, .no, .no, .no, .no, .no, .no, .no, .no, .no, .no, .no, .no, .no] := by
        by_cases hab : a = b
        · rw [decide_eq_true hab] at b4
          exact bOr_T (by array_get_dec)
        · rw [decide_eq_false hab] at b4
          rw [hcase.resolve_left hab] at b3
          exact bOr_F (by array_get_dec) (by array_get_dec)
      refine .ifT ht ?_
      have hr : mRef (mCall f_with_street [.v (mVar 2), .v (mVar 6), .v (mVar 7)]) [.fz (scrD ns), .own d4, .fz (webD w), .fz (stD s), .fz (natD w.n), .fz (.tuple (w.es.map pairN)), .fz (natD a), .fz (natD b), .fz (.tuple [natD (min a b), natD (max a b)]), .no, .no, .no, .no, .no, .no, .no, .no, .no, .no, .no, .no, .no, .no, .no, .no, .no] = .ok (.str "street") [.fz (scrD ns), .own d4, .fz (webD w), .fz (stD s), .fz (natD w.n), .fz (.tuple (w.es.map pairN)), .fz (natD a), .fz (natD b), .fz (.tuple [natD (min a b), natD (max a b)]), .no, .no, .no, .no, .no, .no, .no, .no, .no, .no, .no, .no, .no, .no, .no, .no, .no] := mRef_ex (mCall_ex rfl (ρ1 := [.fz (scrD ns), .own d4, .fz (webD w), .fz (stD s), .fz (natD w.n), .fz (.tuple (w.es.map pairN)), .fz (natD a), .fz (natD b), .fz (.tuple [natD (min a b), natD (max a b)]), .no, .no, .no, .no, .no, .no, .no, .no, .no, .no, .no, .no, .no, .no, .no, .no, .no]) (xs := [some (webD w), some (natD a), some (natD b)]) (ss := [.fz (webD w), .fz (natD a), .fz (natD b)]) rfl rfl hno) hst
      exact .ifF (mB_ok (op2_ok (x1 := some (.str "street")) (x2 := some (.str "street")) (ev_ex hr) (ev_ex rfl) rfl rfl q1)) (.nil rfl)
    · have hab : a ≠ b := fun z => hcase (.inl z)
      have hadj : w.adj a b = false := by
        cases z : w.adj a b with
        | false => rfl
        | true => exact absurd (.inr z) hcase
      have hok := with_street_ok hw ha hb hab hadj
      rw [decide_eq_false hab] at b4
      rw [hadj] at b3
      refine .ifF (bOr_F (by array_get_dec) (by array_get_dec)) ?_
      have h3 := add_pair (es := w.es) (by omega) (edg a b)
      have h3 : dAdd (.tuple (w.es.map pairN)) (.tuple [.tuple [natD (min a b), natD (max a b)]]) = some (.tuple ((w.es ++ [edg a b]).map pairN)) := h3
      have h4 := sortM_ok (w.es ++ [edg a b])
      have hal := alike_self (alk_with w hw a b 46)
      have hdue : mTup [mVar 4, mFn dTuple [.ex (mFn dSortM [.ex (mOp2 dAdd (.sl 5) (.ex (mTup [mVar 8])))])]] [.fz (scrD ns), .own d4, .fz (webD w), .fz (stD s), .fz (natD w.n), .fz (.tuple (w.es.map pairN)), .fz (natD a), .fz (natD b), .fz (.tuple [natD (min a b), natD (max a b)]), .no, .no, .no, .no, .no, .no, .no, .no, .no, .no, .no, .no, .no, .no, .no, .no, .no] = .ok (withD w a b) [.fz (scrD ns), .own d4, .fz (webD w), .fz (stD s), .fz (natD w.n), .fz (.tuple (w.es.map pairN)), .fz (natD a), .fz (natD b), .fz (.tuple [natD (min a b), natD (max a b)]), .no, .no, .no, .no, .no, .no, .no, .no, .no, .no, .no, .no, .no, .no, .no, .no, .no] := by
        unfold withD
        array_get_dec
      exact .ifF (bNot_F (by array_get_dec)) (.nil rfl)
  refine .seq (W.imp st1 (fun ρ h => ?_) (fun _ _ h => h))
  subst h
  -- the moods of the new ones
  obtain ⟨ms, d6, l1, l2, r6, hcm⟩ := moods_comp (ns := ns) (v2 := .fz (webD w)) (v3 := .fz (stD s)) (v4 := .fz (natD w.n)) (v5 := .fz (.tuple (w.es.map pairN))) (v6 := .fz (natD a)) (v7 := .fz (natD b)) (v8 := .fz (.tuple [natD (min a b), natD (max a b)])) ((List.range (1 + c)).map natD) [] d5 r5
  rw [List.length_map, List.length_range] at l1
  have hms : StOk ms.length ms := ⟨rfl, l2⟩
  have hmoods : mComp (iRng fR1 [.ex (mOp2 dAdd (.ex (mLit (.int 1))) (.ex (mCall f__law_taken [.io 1, .v (mLit (.int 6))])))]) (tmName 10) (bYes) (mCall f__law_taken [.io 1, .v (mLit (.int 3))]) [10] [.fz (scrD ns), .own d4, .fz (webD w), .fz (stD s), .fz (natD w.n), .fz (.tuple (w.es.map pairN)), .fz (natD a), .fz (natD b), .fz (.tuple [natD (min a b), natD (max a b)]), .no, .no, .no, .no, .no, .no, .no, .no, .no, .no, .no, .no, .no, .no, .no, .no, .no] = .ok (.list (ms.map PyData.int)) [.fz (scrD ns), .own d6, .fz (webD w), .fz (stD s), .fz (natD w.n), .fz (.tuple (w.es.map pairN)), .fz (natD a), .fz (natD b), .fz (.tuple [natD (min a b), natD (max a b)]), .no, .no, .no, .no, .no, .no, .no, .no, .no, .no, .no, .no, .no, .no, .no, .no, .no] := by
    have ad : dAdd (.int 1) (natD c) = some (natD (1 + c)) := add_natV 1 c
    have hit : iRng fR1 [.ex (mOp2 dAdd (.ex (mLit (.int 1))) (.ex (mCall f__law_taken [.io 1, .v (mLit (.int 6))])))] [.fz (scrD ns), .own d4, .fz (webD w), .fz (stD s), .fz (natD w.n), .fz (.tuple (w.es.map pairN)), .fz (natD a), .fz (natD b), .fz (.tuple [natD (min a b), natD (max a b)]), .no, .no, .no, .no, .no, .no, .no, .no, .no, .no, .no, .no, .no, .no, .no, .no, .no] = .ok ((List.range (1 + c)).map natD) [.fz (scrD ns), .own d5, .fz (webD w), .fz (stD s), .fz (natD w.n), .fz (.tuple (w.es.map pairN)), .fz (natD a), .fz (natD b), .fz (.tuple [natD (min a b), natD (max a b)]), .no, .no, .no, .no, .no, .no, .no, .no, .no, .no, .no, .no, .no, .no, .no, .no, .no] := rng_nat (xs := [some (natD (1 + c))]) (evo_cons (ev_ex (by array_get_dec)) evo_nil) rfl (by omega)
    unfold mComp
    rw [hit]
    show (if ((List.range (1 + c)).map natD).length ≤ sizeLine then (match compM (tmName 10) bYes (mCall f__law_taken [.io 1, .v (mLit (.int 3))]) [10] ((List.range (1 + c)).map natD) [] [.fz (scrD ns), .own d5, .fz (webD w), .fz (stD s), .fz (natD w.n), .fz (.tuple (w.es.map pairN)), .fz (natD a), .fz (natD b), .fz (.tuple [natD (min a b), natD (max a b)]), .no, .no, .no, .no, .no, .no, .no, .no, .no, .no, .no, .no, .no, .no, .no, .no, .no] with
      | .ok ys ρ2 => Rs.ok (PyData.list ys) (unwipe [.fz (scrD ns), .own d5, .fz (webD w), .fz (stD s), .fz (natD w.n), .fz (.tuple (w.es.map pairN)), .fz (natD a), .fz (natD b), .fz (.tuple [natD (min a b), natD (max a b)]), .no, .no, .no, .no, .no, .no, .no, .no, .no, .no, .no, .no, .no, .no, .no, .no, .no] ρ2 [10])
      | _ => .stuck) else .stuck) = _
    rw [if_pos (by rw [List.length_map, List.length_range]; unfold sizeLine; omega), hcm]
    rfl
  refine .seq (.set' (d := stD ms) (ρ' := [.fz (scrD ns), .own d6, .fz (webD w), .fz (stD s), .fz (natD w.n), .fz (.tuple (w.es.map pairN)), .fz (natD a), .fz (natD b), .fz (.tuple [natD (min a b), natD (max a b)]), .no, .no, .no, .no, .no, .no, .no, .no, .no, .no, .no, .no, .no, .no, .no, .no, .no]) (mFn_ok (ds := [.list (ms.map PyData.int)]) (evo_cons (ev_ex hmoods) evo_nil) rfl rfl) ?_)
  simp only [List.set_cons_zero, List.set_cons_succ]
  have hless : mComp (iSeq (mVar 5)) (tmName 12) (mB (mOp2 dNe (.sl 12) (.sl 8))) (mVar 12) [12] [.fz (scrD ns), .own d6, .fz (webD w), .fz (stD s), .fz (natD w.n), .fz (.tuple (w.es.map pairN)), .fz (natD a), .fz (natD b), .fz (.tuple [natD (min a b), natD (max a b)]), .fz (stD ms), .no, .no, .no, .no, .no, .no, .no, .no, .no, .no, .no, .no, .no, .no, .no, .no] = .ok (.list ((lessL w a b).map pairN)) [.fz (scrD ns), .own d6, .fz (webD w), .fz (stD s), .fz (natD w.n), .fz (.tuple (w.es.map pairN)), .fz (natD a), .fz (natD b), .fz (.tuple [natD (min a b), natD (max a b)]), .fz (stD ms), .no, .no, .no, .no, .no, .no, .no, .no, .no, .no, .no, .no, .no, .no, .no, .no] := by
    unfold lessL
    refine mComp_of (f := pairN) (i := 12) (fun e => !decide (e = edg a b)) pairN (ds := w.es) (ρ1 := [.fz (scrD ns), .own d6, .fz (webD w), .fz (stD s), .fz (natD w.n), .fz (.tuple (w.es.map pairN)), .fz (natD a), .fz (natD b), .fz (.tuple [natD (min a b), natD (max a b)]), .fz (stD ms), .no, .no, .no, .no, .no, .no, .no, .no, .no, .no, .no, .no, .no, .no, .no, .no]) (iSeq_T (by array_get_dec)) (.no rfl) (fun e _ => ?_) (fun e _ _ => ?_) (by omega)
    · simp only [List.set_cons_zero, List.set_cons_succ]
      have h3 : dNe (pairN e) (.tuple [natD (min a b), natD (max a b)]) = some (.bool (!decide (e = edg a b))) := ne_pairV e (edg a b)
      array_get_dec
    · simp only [List.set_cons_zero, List.set_cons_succ]
      array_get_dec
  refine .seq (.set' (d := .tuple ((lessL w a b).map pairN)) (ρ' := [.fz (scrD ns), .own d6, .fz (webD w), .fz (stD s), .fz (natD w.n), .fz (.tuple (w.es.map pairN)), .fz (natD a), .fz (natD b), .fz (.tuple [natD (min a b), natD (max a b)]), .fz (stD ms), .no, .no, .no, .no, .no, .no, .no, .no, .no, .no, .no, .no, .no, .no, .no, .no]) (mFn_ok (ds := [.list ((lessL w a b).map pairN)]) (evo_cons (ev_ex hless) evo_nil) rfl rfl) ?_)
  simp only [List.set_cons_zero, List.set_cons_succ]
  have hll := less_len w a b
  have hll2 : (lineL (lineR w.n a b ms.length)).length = ms.length + 1 := by
    have hR := lineR_len w.n a b ms.length
    unfold lineL
    rw [List.length_map, List.length_range, hR]
    omega
  have b5 : dNotIn (.tuple [natD (min a b), natD (max a b)]) (.tuple (w.es.map pairN)) = some (.bool (!w.adj a b)) := notin_edg w a b
  refine .seq (W.imp (N := fun ρ => ∃ x13 x14 x15 x18, (∀ d, x18 ≠ .own d) ∧ ρ = [.fz (scrD ns), .own d6, .fz (webD w), .fz (stD s), .fz (natD w.n), .fz (.tuple (w.es.map pairN)), .fz (natD a), .fz (natD b), .fz (.tuple [natD (min a b), natD (max a b)]), .fz (stD ms), .no, .fz (.tuple ((lessL w a b).map pairN)), .no, x13, x14, x15, .no, .no, x18, .no, .no, .no, .no, .no, .no, .no]) ?_ ?_ (fun _ _ h => h))
  · cases hadj : w.adj a b with
    | false =>
      rw [hadj] at b5
      have b5 : dNotIn (.tuple [natD (min a b), natD (max a b)]) (.tuple (w.es.map pairN)) = some (.bool true) := b5
      refine .ifT (by array_get_dec) ?_
      have hr1 : mRef (mCall f_without_street [.v (mVar 2), .v (mVar 6), .v (mVar 7)]) [.fz (scrD ns), .own d6, .fz (webD w), .fz (stD s), .fz (natD w.n), .fz (.tuple (w.es.map pairN)), .fz (natD a), .fz (natD b), .fz (.tuple [natD (min a b), natD (max a b)]), .fz (stD ms), .no, .fz (.tuple ((lessL w a b).map pairN)), .no, .no, .no, .no, .no, .no, .no, .no, .no, .no, .no, .no, .no, .no] = .ok (.str "street") [.fz (scrD ns), .own d6, .fz (webD w), .fz (stD s), .fz (natD w.n), .fz (.tuple (w.es.map pairN)), .fz (natD a), .fz (natD b), .fz (.tuple [natD (min a b), natD (max a b)]), .fz (stD ms), .no, .fz (.tuple ((lessL w a b).map pairN)), .no, .no, .no, .no, .no, .no, .no, .no, .no, .no, .no, .no, .no, .no] := mRef_ex (mCall_ex rfl (ρ1 := [.fz (scrD ns), .own d6, .fz (webD w), .fz (stD s), .fz (natD w.n), .fz (.tuple (w.es.map pairN)), .fz (natD a), .fz (natD b), .fz (.tuple [natD (min a b), natD (max a b)]), .fz (stD ms), .no, .fz (.tuple ((lessL w a b).map pairN)), .no, .no, .no, .no, .no, .no, .no, .no, .no, .no, .no, .no, .no, .no]) (xs := [some (webD w), some (natD a), some (natD b)]) (ss := [.fz (webD w), .fz (natD a), .fz (natD b)]) rfl rfl (without_street_no hw ha hb hadj)) hst
      have hr2 : mRef (mCall f_stretched [.v (mVar 2), .v (mVar 3), .v (mVar 6), .v (mVar 7), .v (mVar 9)]) [.fz (scrD ns), .own d6, .fz (webD w), .fz (stD s), .fz (natD w.n), .fz (.tuple (w.es.map pairN)), .fz (natD a), .fz (natD b), .fz (.tuple [natD (min a b), natD (max a b)]), .fz (stD ms), .no, .fz (.tuple ((lessL w a b).map pairN)), .no, .no, .no, .no, .no, .no, .no, .no, .no, .no, .no, .no, .no, .no] = .ok (.str "street") [.fz (scrD ns), .own d6, .fz (webD w), .fz (stD s), .fz (natD w.n), .fz (.tuple (w.es.map pairN)), .fz (natD a), .fz (natD b), .fz (.tuple [natD (min a b), natD (max a b)]), .fz (stD ms), .no, .fz (.tuple ((lessL w a b).map pairN)), .no, .no, .no, .no, .no, .no, .no, .no, .no, .no, .no, .no, .no, .no] := mRef_ex (mCall_ex rfl (ρ1 := [.fz (scrD ns), .own d6, .fz (webD w), .fz (stD s), .fz (natD w.n), .fz (.tuple (w.es.map pairN)), .fz (natD a), .fz (natD b), .fz (.tuple [natD (min a b), natD (max a b)]), .fz (stD ms), .no, .fz (.tuple ((lessL w a b).map pairN)), .no, .no, .no, .no, .no, .no, .no, .no, .no, .no, .no, .no, .no, .no]) (xs := [some (webD w), some (stD s), some (natD a), some (natD b), some (stD ms)]) (ss := [.fz (webD w), .fz (stD s), .fz (natD a), .fz (natD b), .fz (stD ms)]) rfl rfl (stretched_no hw hs ha hb hadj)) hst
      have hL : mLst [mRef (mCall f_without_street [.v (mVar 2), .v (mVar 6), .v (mVar 7)]), mRef (mCall f_stretched [.v (mVar 2), .v (mVar 3), .v (mVar 6), .v (mVar 7), .v (mVar 9)])] [.fz (scrD ns), .own d6, .fz (webD w), .fz (stD s), .fz (natD w.n), .fz (.tuple (w.es.map pairN)), .fz (natD a), .fz (natD b), .fz (.tuple [natD (min a b), natD (max a b)]), .fz (stD ms), .no, .fz (.tuple ((lessL w a b).map pairN)), .no, .no, .no, .no, .no, .no, .no, .no, .no, .no, .no, .no, .no, .no] = .ok (.list [.str "street", .str "street"]) [.fz (scrD ns), .own d6, .fz (webD w), .fz (stD s), .fz (natD w.n), .fz (.tuple (w.es.map pairN)), .fz (natD a), .fz (natD b), .fz (.tuple [natD (min a b), natD (max a b)]), .fz (stD ms), .no, .fz (.tuple ((lessL w a b).map pairN)), .no, .no, .no, .no, .no, .no, .no, .no, .no, .no, .no, .no, .no, .no] := by array_get_dec
      exact .ifF (mB_ok (op2_ok (x1 := some (.list [.str "street", .str "street"])) (x2 := some (.list [.str "street", .str "street"])) (ev_ex hL) (ev_ex (by array_get_dec)) rfl rfl q6)) (.nil ⟨.no, .no, .no, .no, (fun _ z => by cases z), rfl⟩)
    | true =>
      have hne := hadjne hadj
      rw [hadj] at b5
      have b5 : dNotIn (.tuple [natD (min a b), natD (max a b)]) (.tuple (w.es.map pairN)) = some (.bool false) := b5
      refine .ifF (by array_get_dec) ?_
      have n1 := without_street_ok hw ha hb hne hadj
      have hal1 := alike_self (alk_pairs (es := lessL w a b) (by omega) w.n 46)
      refine .seq (.ifF (bNot_F (by array_get_dec)) (.nil ?_))
      -- the row of the new ones
      have hlen : dLen [stD ms] = some (natD ms.length) := by unfold stD; rw [len_T, List.length_map]
      have a1 := add_natV w.n ms.length
      have hR := lineR_len w.n a b ms.length
      have hrg : mListRg fR2 [.sl 4, .ex (mOp2 dAdd (.sl 4) (.ex (mFn dLen [.sl 9])))] [.fz (scrD ns), .own d6, .fz (webD w), .fz (stD s), .fz (natD w.n), .fz (.tuple (w.es.map pairN)), .fz (natD a), .fz (natD b), .fz (.tuple [natD (min a b), natD (max a b)]), .fz (stD ms), .no, .fz (.tuple ((lessL w a b).map pairN)), .no, .no, .no, .no, .no, .no, .no, .no, .no, .no, .no, .no, .no, .no] = .ok (.list ((List.range' w.n ms.length).map natD)) [.fz (scrD ns), .own d6, .fz (webD w), .fz (stD s), .fz (natD w.n), .fz (.tuple (w.es.map pairN)), .fz (natD a), .fz (natD b), .fz (.tuple [natD (min a b), natD (max a b)]), .fz (stD ms), .no, .fz (.tuple ((lessL w a b).map pairN)), .no, .no, .no, .no, .no, .no, .no, .no, .no, .no, .no, .no, .no, .no] := by
        have e0 : iRng fR2 [.sl 4, .ex (mOp2 dAdd (.sl 4) (.ex (mFn dLen [.sl 9])))] [.fz (scrD ns), .own d6, .fz (webD w), .fz (stD s), .fz (natD w.n), .fz (.tuple (w.es.map pairN)), .fz (natD a), .fz (natD b), .fz (.tuple [natD (min a b), natD (max a b)]), .fz (stD ms), .no, .fz (.tuple ((lessL w a b).map pairN)), .no, .no, .no, .no, .no, .no, .no, .no, .no, .no, .no, .no, .no, .no] = .ok ((List.range' w.n (w.n + ms.length - w.n)).map natD) [.fz (scrD ns), .own d6, .fz (webD w), .fz (stD s), .fz (natD w.n), .fz (.tuple (w.es.map pairN)), .fz (natD a), .fz (natD b), .fz (.tuple [natD (min a b), natD (max a b)]), .fz (stD ms), .no, .fz (.tuple ((lessL w a b).map pairN)), .no, .no, .no, .no, .no, .no, .no, .no, .no, .no, .no, .no, .no, .no] := rng2_up (xs := [none, some (natD (w.n + ms.length))]) (evo_cons (ev_sl rfl) (evo_cons (ev_ex (by array_get_dec)) evo_nil)) rfl (by omega) (by omega)
        rw [show w.n + ms.length - w.n = ms.length by omega] at e0
        unfold mListRg
        rw [e0]
        exact if_pos (by simp; omega)
      have t1 : dCat (.list [natD a]) (.list ((List.range' w.n ms.length).map natD)) = some (.list ((a :: List.range' w.n ms.length).map natD)) := cat_natV (l := [a]) (by simp; omega)
      have t2 : dCat (.list ((a :: List.range' w.n ms.length).map natD)) (.list [natD b]) = some (.list ((lineR w.n a b ms.length).map natD)) := cat_natV (l := a :: List.range' w.n ms.length) (r := [b]) (by simp; omega)
      refine .seq (.par (ds := [natD (w.n + ms.length), .list ((lineR w.n a b ms.length).map natD)]) (ρ1 := [.fz (scrD ns), .own d6, .fz (webD w), .fz (stD s), .fz (natD w.n), .fz (.tuple (w.es.map pairN)), .fz (natD a), .fz (natD b), .fz (.tuple [natD (min a b), natD (max a b)]), .fz (stD ms), .no, .fz (.tuple ((lessL w a b).map pairN)), .no, .no, .no, .no, .no, .no, .no, .no, .no, .no, .no, .no, .no, .no]) (by simp only [List.map_cons, List.map_nil]; array_get_dec) ?_)
      simp only [setP, List.set_cons_zero, List.set_cons_succ, List.map_cons, List.map_nil, Bool.false_eq_true, if_false, if_true]
      have hcut : mCut (.sl 14) (some (mLit (.int 1))) (none) [.fz (scrD ns), .own d6, .fz (webD w), .fz (stD s), .fz (natD w.n), .fz (.tuple (w.es.map pairN)), .fz (natD a), .fz (natD b), .fz (.tuple [natD (min a b), natD (max a b)]), .fz (stD ms), .no, .fz (.tuple ((lessL w a b).map pairN)), .no, .fz (natD (w.n + ms.length)), .fz (.list ((lineR w.n a b ms.length).map natD)), .no, .no, .no, .no, .no, .no, .no, .no, .no, .no, .no] = .ok (.list (((lineR w.n a b ms.length).map natD).drop 1)) [.fz (scrD ns), .own d6, .fz (webD w), .fz (stD s), .fz (natD w.n), .fz (.tuple (w.es.map pairN)), .fz (natD a), .fz (natD b), .fz (.tuple [natD (min a b), natD (max a b)]), .fz (stD ms), .no, .fz (.tuple ((lessL w a b).map pairN)), .no, .fz (natD (w.n + ms.length)), .fz (.list ((lineR w.n a b ms.length).map natD)), .no, .no, .no, .no, .no, .no, .no, .no, .no, .no, .no] := cut_list (by rw [List.length_map, hR]; omega) rfl
      have hz : iZip (mVar 14) (mCut (.sl 14) (some (mLit (.int 1))) (none)) [.fz (scrD ns), .own d6, .fz (webD w), .fz (stD s), .fz (natD w.n), .fz (.tuple (w.es.map pairN)), .fz (natD a), .fz (natD b), .fz (.tuple [natD (min a b), natD (max a b)]), .fz (stD ms), .no, .fz (.tuple ((lessL w a b).map pairN)), .no, .fz (natD (w.n + ms.length)), .fz (.list ((lineR w.n a b ms.length).map natD)), .no, .no, .no, .no, .no, .no, .no, .no, .no, .no, .no] = .ok ((List.range (ms.length + 1)).map fun k => .tuple [natD ((lineR w.n a b ms.length).getD k 0), natD ((lineR w.n a b ms.length).getD (k + 1) 0)]) [.fz (scrD ns), .own d6, .fz (webD w), .fz (stD s), .fz (natD w.n), .fz (.tuple (w.es.map pairN)), .fz (natD a), .fz (natD b), .fz (.tuple [natD (min a b), natD (max a b)]), .fz (stD ms), .no, .fz (.tuple ((lessL w a b).map pairN)), .no, .fz (natD (w.n + ms.length)), .fz (.list ((lineR w.n a b ms.length).map natD)), .no, .no, .no, .no, .no, .no, .no, .no, .no, .no, .no] := by
        unfold iZip
        rw [evm_cons (m := mVar 14) (d := .list ((lineR w.n a b ms.length).map natD)) (ρ1 := [.fz (scrD ns), .own d6, .fz (webD w), .fz (stD s), .fz (natD w.n), .fz (.tuple (w.es.map pairN)), .fz (natD a), .fz (natD b), .fz (.tuple [natD (min a b), natD (max a b)]), .fz (stD ms), .no, .fz (.tuple ((lessL w a b).map pairN)), .no, .fz (natD (w.n + ms.length)), .fz (.list ((lineR w.n a b ms.length).map natD)), .no, .no, .no, .no, .no, .no, .no, .no, .no, .no, .no]) rfl (evm_cons hcut rfl)]
        show Rs.ok (zipD ((lineR w.n a b ms.length).map natD) (((lineR w.n a b ms.length).map natD).drop 1)) _ = _
        rw [zip_line, hR]
        rfl
      have hmore : mComp (iZip (mVar 14) (mCut (.sl 14) (some (mLit (.int 1))) (none))) (tmTup [([16], tmName 16), ([17], tmName 17)]) (bYes) (mTup [mFn dMin2 [.sl 16, .sl 17], mFn dMax2 [.sl 16, .sl 17]]) [16, 17] [.fz (scrD ns), .own d6, .fz (webD w), .fz (stD s), .fz (natD w.n), .fz (.tuple (w.es.map pairN)), .fz (natD a), .fz (natD b), .fz (.tuple [natD (min a b), natD (max a b)]), .fz (stD ms), .no, .fz (.tuple ((lessL w a b).map pairN)), .no, .fz (natD (w.n + ms.length)), .fz (.list ((lineR w.n a b ms.length).map natD)), .no, .no, .no, .no, .no, .no, .no, .no, .no, .no, .no] = .ok (.list ((lineL (lineR w.n a b ms.length)).map pairN)) [.fz (scrD ns), .own d6, .fz (webD w), .fz (stD s), .fz (natD w.n), .fz (.tuple (w.es.map pairN)), .fz (natD a), .fz (natD b), .fz (.tuple [natD (min a b), natD (max a b)]), .fz (stD ms), .no, .fz (.tuple ((lessL w a b).map pairN)), .no, .fz (natD (w.n + ms.length)), .fz (.list ((lineR w.n a b ms.length).map natD)), .no, .no, .no, .no, .no, .no, .no, .no, .no, .no, .no] := by
        have e0 : (lineL (lineR w.n a b ms.length)).map pairN = (List.range (ms.length + 1)).map fun k => pairN (edg ((lineR w.n a b ms.length).getD k 0) ((lineR w.n a b ms.length).getD (k + 1) 0)) := by
          unfold lineL
          rw [hR, List.map_map]
          rfl
        rw [e0]
        refine mComp_vall (f := fun k => .tuple [natD ((lineR w.n a b ms.length).getD k 0), natD ((lineR w.n a b ms.length).getD (k + 1) 0)]) (E := fun k => [.fz (scrD ns), .own d6, .fz (webD w), .fz (stD s), .fz (natD w.n), .fz (.tuple (w.es.map pairN)), .fz (natD a), .fz (natD b), .fz (.tuple [natD (min a b), natD (max a b)]), .fz (stD ms), .no, .fz (.tuple ((lessL w a b).map pairN)), .no, .fz (natD (w.n + ms.length)), .fz (.list ((lineR w.n a b ms.length).map natD)), .no, .fz (natD ((lineR w.n a b ms.length).getD k 0)), .fz (natD ((lineR w.n a b ms.length).getD (k + 1) 0)), .no, .no, .no, .no, .no, .no, .no, .no]) (Wp := [.fz (scrD ns), .own d6, .fz (webD w), .fz (stD s), .fz (natD w.n), .fz (.tuple (w.es.map pairN)), .fz (natD a), .fz (natD b), .fz (.tuple [natD (min a b), natD (max a b)]), .fz (stD ms), .no, .fz (.tuple ((lessL w a b).map pairN)), .no, .fz (natD (w.n + ms.length)), .fz (.list ((lineR w.n a b ms.length).map natD)), .no, .no, .no, .no, .no, .no, .no, .no, .no, .no, .no]) (fun k => pairN (edg ((lineR w.n a b ms.length).getD k 0) ((lineR w.n a b ms.length).getD (k + 1) 0))) (ds := List.range (ms.length + 1)) (ρ1 := [.fz (scrD ns), .own d6, .fz (webD w), .fz (stD s), .fz (natD w.n), .fz (.tuple (w.es.map pairN)), .fz (natD a), .fz (natD b), .fz (.tuple [natD (min a b), natD (max a b)]), .fz (stD ms), .no, .fz (.tuple ((lessL w a b).map pairN)), .no, .fz (natD (w.n + ms.length)), .fz (.list ((lineR w.n a b ms.length).map natD)), .no, .no, .no, .no, .no, .no, .no, .no, .no, .no, .no]) hz rfl rfl (fun e _ => ⟨rfl, rfl⟩) (fun k _ => ?_) (by rw [List.length_range]; omega)
        have c3 := min_nat ((lineR w.n a b ms.length).getD k 0) ((lineR w.n a b ms.length).getD (k + 1) 0)
        have c4 := max_nat ((lineR w.n a b ms.length).getD k 0) ((lineR w.n a b ms.length).getD (k + 1) 0)
        show _ = Rs.ok (PyData.tuple [natD (min ((lineR w.n a b ms.length).getD k 0) ((lineR w.n a b ms.length).getD (k + 1) 0)), natD (max ((lineR w.n a b ms.length).getD k 0) ((lineR w.n a b ms.length).getD (k + 1) 0))]) _
        array_get_dec
      refine .seq (.own hmore ?_)
      simp only [List.set_cons_zero, List.set_cons_succ]
      have hmany : W (sIf (mB (mOp2 dGt (.sl 13) (.ex (mLit (.int 10))))) (sIf (mB (mOp2 dNe (.ex (mRef (mCall f_stretched [.v (mVar 2), .v (mVar 3), .v (mVar 6), .v (mVar 7), .v (mVar 9)]))) (.ex (mTup [mLit (.str "many"), mLit (.int 10)])))) (sRet (mLit (.bool false))) (sNil)) (sIf (bNot (mB (mCall (f__law_alike 50) [.v (mCall f_stretched [.v (mVar 2), .v (mVar 3), .v (mVar 6), .v (mVar 7), .v (mVar 9)]), .v (mTup [mTup [mVar 13, mFn dTuple [.ex (mFn dSort [.ex (mOp2 dCat (.ex (mFn dList [.sl 11])) (.sl 15))])]], mOp2 dAdd (.sl 3) (.sl 9)])]))) (sRet (mLit (.bool false))) (sNil)))
          [.fz (scrD ns), .own d6, .fz (webD w), .fz (stD s), .fz (natD w.n), .fz (.tuple (w.es.map pairN)), .fz (natD a), .fz (natD b), .fz (.tuple [natD (min a b), natD (max a b)]), .fz (stD ms), .no, .fz (.tuple ((lessL w a b).map pairN)), .no, .fz (natD (w.n + ms.length)), .fz (.list ((lineR w.n a b ms.length).map natD)), .own (.list ((lineL (lineR w.n a b ms.length)).map pairN)), .no, .no, .no, .no, .no, .no, .no, .no, .no, .no] (fun ρ => ρ = [.fz (scrD ns), .own d6, .fz (webD w), .fz (stD s), .fz (natD w.n), .fz (.tuple (w.es.map pairN)), .fz (natD a), .fz (natD b), .fz (.tuple [natD (min a b), natD (max a b)]), .fz (stD ms), .no, .fz (.tuple ((lessL w a b).map pairN)), .no, .fz (natD (w.n + ms.length)), .fz (.list ((lineR w.n a b ms.length).map natD)), .own (.list ((lineL (lineR w.n a b ms.length)).map pairN)), .no, .no, .no, .no, .no, .no, .no, .no, .no, .no]) (fun d _ => d = .bool true) := by
        by_cases hten : 10 < w.n + ms.length
        · have g1 : dGt (natD (w.n + ms.length)) (.int 10) = some (.bool true) := (gt_nat (w.n + ms.length) 10).trans (by rw [decide_eq_true hten])
          refine .ifT (by array_get_dec) ?_
          have hr : mRef (mCall f_stretched [.v (mVar 2), .v (mVar 3), .v (mVar 6), .v (mVar 7), .v (mVar 9)]) [.fz (scrD ns), .own d6, .fz (webD w), .fz (stD s), .fz (natD w.n), .fz (.tuple (w.es.map pairN)), .fz (natD a), .fz (natD b), .fz (.tuple [natD (min a b), natD (max a b)]), .fz (stD ms), .no, .fz (.tuple ((lessL w a b).map pairN)), .no, .fz (natD (w.n + ms.length)), .fz (.list ((lineR w.n a b ms.length).map natD)), .own (.list ((lineL (lineR w.n a b ms.length)).map pairN)), .no, .no, .no, .no, .no, .no, .no, .no, .no, .no] = .ok (.tuple [.str "many", .int 10]) [.fz (scrD ns), .own d6, .fz (webD w), .fz (stD s), .fz (natD w.n), .fz (.tuple (w.es.map pairN)), .fz (natD a), .fz (natD b), .fz (.tuple [natD (min a b), natD (max a b)]), .fz (stD ms), .no, .fz (.tuple ((lessL w a b).map pairN)), .no, .fz (natD (w.n + ms.length)), .fz (.list ((lineR w.n a b ms.length).map natD)), .own (.list ((lineL (lineR w.n a b ms.length)).map pairN)), .no, .no, .no, .no, .no, .no, .no, .no, .no, .no] := mRef_many (mCall_ex rfl (ρ1 := [.fz (scrD ns), .own d6, .fz (webD w), .fz (stD s), .fz (natD w.n), .fz (.tuple (w.es.map pairN)), .fz (natD a), .fz (natD b), .fz (.tuple [natD (min a b), natD (max a b)]), .fz (stD ms), .no, .fz (.tuple ((lessL w a b).map pairN)), .no, .fz (natD (w.n + ms.length)), .fz (.list ((lineR w.n a b ms.length).map natD)), .own (.list ((lineL (lineR w.n a b ms.length)).map pairN)), .no, .no, .no, .no, .no, .no, .no, .no, .no, .no]) (xs := [some (webD w), some (stD s), some (natD a), some (natD b), some (stD ms)]) (ss := [.fz (webD w), .fz (stD s), .fz (natD a), .fz (natD b), .fz (stD ms)]) rfl rfl (stretched_many hw hs ha hb hne hadj hms (by omega) (by omega) hten))
          exact .ifF (mB_ok (op2_ok (x1 := some (.tuple [.str "many", .int 10])) (x2 := some (.tuple [.str "many", .int 10])) (ev_ex hr) (ev_ex (by array_get_dec)) rfl rfl q4)) (.nil rfl)
        · have g1 : dGt (natD (w.n + ms.length)) (.int 10) = some (.bool false) := (gt_nat (w.n + ms.length) 10).trans (by rw [decide_eq_false hten])
          refine .ifF (by array_get_dec) ?_
          have hok := stretched_ok hw hs ha hb hne hadj hms (by omega) (by omega) (by omega)
          have k1 := cat_pairsV (es := lessL w a b) (fs := lineL (lineR w.n a b ms.length)) (by omega)
          have k2 := dSort_pair (lessL w a b ++ lineL (lineR w.n a b ms.length))
          have k3 := add_stV (s := s) (t := ms) (by omega)
          have hdue : mTup [mTup [mVar 13, mFn dTuple [.ex (mFn dSort [.ex (mOp2 dCat (.ex (mFn dList [.sl 11])) (.sl 15))])]], mOp2 dAdd (.sl 3) (.sl 9)] [.fz (scrD ns), .own d6, .fz (webD w), .fz (stD s), .fz (natD w.n), .fz (.tuple (w.es.map pairN)), .fz (natD a), .fz (natD b), .fz (.tuple [natD (min a b), natD (max a b)]), .fz (stD ms), .no, .fz (.tuple ((lessL w a b).map pairN)), .no, .fz (natD (w.n + ms.length)), .fz (.list ((lineR w.n a b ms.length).map natD)), .own (.list ((lineL (lineR w.n a b ms.length)).map pairN)), .no, .no, .no, .no, .no, .no, .no, .no, .no, .no] = .ok (stretD w s a b ms) [.fz (scrD ns), .own d6, .fz (webD w), .fz (stD s), .fz (natD w.n), .fz (.tuple (w.es.map pairN)), .fz (natD a), .fz (natD b), .fz (.tuple [natD (min a b), natD (max a b)]), .fz (stD ms), .no, .fz (.tuple ((lessL w a b).map pairN)), .no, .fz (natD (w.n + ms.length)), .fz (.list ((lineR w.n a b ms.length).map natD)), .own (.list ((lineL (lineR w.n a b ms.length)).map pairN)), .no, .no, .no, .no, .no, .no, .no, .no, .no, .no] := by
            unfold stretD
            array_get_dec
          have hal : f__law_alike 50 [.fz (stretD w s a b ms), .fz (stretD w s a b ms)] = .ok (.bool true) [] := by
            refine alike_self (.tup (fun d hd => ?_) (by simp))
            rcases List.mem_cons.mp hd with rfl | hd
            · exact alk_pairs (by rw [(sortN_perm _).length_eq, List.length_append]; omega) (w.n + ms.length) 45
            · rw [List.mem_singleton.mp hd]
              exact alk_st (by rw [List.length_append]; omega) 47
          exact .ifF (bNot_F (by array_get_dec)) (.nil rfl)
      refine .seq (W.imp hmany (fun ρ h => ?_) (fun _ _ h => h))
      subst h
      have hrep : dRepT (.tuple [.int 0]) (.int 10) = some (.tuple (List.replicate 10 (.int 0))) := rep_one (.int 0) (n := 10) (by omega) (by omega)
      have hlst : dList [stD ms] = some (.list (ms.map PyData.int)) := rfl
      have hbads : iSeq (mLst [mLit .none, mTup [], mFn dList [.sl 9], mTup [mLit (.int 3)], mTup [mLit (.bool true)], mOp2 dRepT (.ex (mTup [mLit (.int 0)])) (.ex (mLit (.int 10))), mLit (.str "0")]) [.fz (scrD ns), .own d6, .fz (webD w), .fz (stD s), .fz (natD w.n), .fz (.tuple (w.es.map pairN)), .fz (natD a), .fz (natD b), .fz (.tuple [natD (min a b), natD (max a b)]), .fz (stD ms), .no, .fz (.tuple ((lessL w a b).map pairN)), .no, .fz (natD (w.n + ms.length)), .fz (.list ((lineR w.n a b ms.length).map natD)), .own (.list ((lineL (lineR w.n a b ms.length)).map pairN)), .no, .no, .no, .no, .no, .no, .no, .no, .no, .no] = .ok (badsS ms) [.fz (scrD ns), .own d6, .fz (webD w), .fz (stD s), .fz (natD w.n), .fz (.tuple (w.es.map pairN)), .fz (natD a), .fz (natD b), .fz (.tuple [natD (min a b), natD (max a b)]), .fz (stD ms), .no, .fz (.tuple ((lessL w a b).map pairN)), .no, .fz (natD (w.n + ms.length)), .fz (.list ((lineR w.n a b ms.length).map natD)), .own (.list ((lineL (lineR w.n a b ms.length)).map pairN)), .no, .no, .no, .no, .no, .no, .no, .no, .no, .no] := by
        unfold badsS
        refine iSeq_L ?_
        array_get_dec
      refine .forQ (l := badsS ms) (ρ0 := [.fz (scrD ns), .own d6, .fz (webD w), .fz (stD s), .fz (natD w.n), .fz (.tuple (w.es.map pairN)), .fz (natD a), .fz (natD b), .fz (.tuple [natD (min a b), natD (max a b)]), .fz (stD ms), .no, .fz (.tuple ((lessL w a b).map pairN)), .no, .fz (natD (w.n + ms.length)), .fz (.list ((lineR w.n a b ms.length).map natD)), .own (.list ((lineL (lineR w.n a b ms.length)).map pairN)), .no, .no, .no, .no, .no, .no, .no, .no, .no, .no]) hbads (.no rfl) (fun d hd => ?_) (fun x18 hx18 => ⟨_, _, _, x18, hx18, rfl⟩)
      simp only [List.set_cons_zero, List.set_cons_succ]
      have hr : mRef (mCall f_stretched [.v (mVar 2), .v (mVar 3), .v (mVar 6), .v (mVar 7), .v (mVar 18)]) [.fz (scrD ns), .own d6, .fz (webD w), .fz (stD s), .fz (natD w.n), .fz (.tuple (w.es.map pairN)), .fz (natD a), .fz (natD b), .fz (.tuple [natD (min a b), natD (max a b)]), .fz (stD ms), .no, .fz (.tuple ((lessL w a b).map pairN)), .no, .fz (natD (w.n + ms.length)), .fz (.list ((lineR w.n a b ms.length).map natD)), .own (.list ((lineL (lineR w.n a b ms.length)).map pairN)), .no, .no, .fz d, .no, .no, .no, .no, .no, .no, .no] = .ok (.str "state") [.fz (scrD ns), .own d6, .fz (webD w), .fz (stD s), .fz (natD w.n), .fz (.tuple (w.es.map pairN)), .fz (natD a), .fz (natD b), .fz (.tuple [natD (min a b), natD (max a b)]), .fz (stD ms), .no, .fz (.tuple ((lessL w a b).map pairN)), .no, .fz (natD (w.n + ms.length)), .fz (.list ((lineR w.n a b ms.length).map natD)), .own (.list ((lineL (lineR w.n a b ms.length)).map pairN)), .no, .no, .fz d, .no, .no, .no, .no, .no, .no, .no] := mRef_ex (mCall_ex rfl (ρ1 := [.fz (scrD ns), .own d6, .fz (webD w), .fz (stD s), .fz (natD w.n), .fz (.tuple (w.es.map pairN)), .fz (natD a), .fz (natD b), .fz (.tuple [natD (min a b), natD (max a b)]), .fz (stD ms), .no, .fz (.tuple ((lessL w a b).map pairN)), .no, .fz (natD (w.n + ms.length)), .fz (.list ((lineR w.n a b ms.length).map natD)), .own (.list ((lineL (lineR w.n a b ms.length)).map pairN)), .no, .no, .fz d, .no, .no, .no, .no, .no, .no, .no]) (xs := [some (webD w), some (stD s), some (natD a), some (natD b), some d]) (ss := [.fz (webD w), .fz (stD s), .fz (natD a), .fz (natD b), .fz d]) rfl rfl (stretched_bads hw hs ha hb hne hadj d hd)) hsta
      exact .ifF (mB_ok (op2_ok (x1 := some (.str "state")) (x2 := some (.str "state")) (ev_ex hr) (ev_ex rfl) rfl rfl q2)) (.nil rfl)
  rintro _ ⟨x13, x14, x15, x18, hx18, rfl⟩
  -- a second web
  obtain ⟨v, d7, e7, hv, hn8, r7⟩ := web_drawn r6 (most := 8) (by omega) (by omega)
  have hvfew := hv.few
  have v0 := web_0 v
  have v1 := web_1 v
  sizeOf_list_dec
  have a1 := add_natV w.n v.n
  have a2 := add_pairsV (es := w.es) (fs := v.es.map (shf w.n)) (by rw [List.length_map]; omega)
  have hjc : mComp (iSeq (mOp2 dAt (.sl 19) (.ex (mLit (.int 1))))) (tmTup [([16], tmName 16), ([17], tmName 17)]) (bYes) (mTup [mOp2 dAdd (.sl 16) (.sl 4), mOp2 dAdd (.sl 17) (.sl 4)]) [16, 17] [.fz (scrD ns), .own d7, .fz (webD w), .fz (stD s), .fz (natD w.n), .fz (.tuple (w.es.map pairN)), .fz (natD a), .fz (natD b), .fz (.tuple [natD (min a b), natD (max a b)]), .fz (stD ms), .no, .fz (.tuple ((lessL w a b).map pairN)), .no, x13, x14, x15, .no, .no, x18, .fz (webD v), .no, .no, .no, .no, .no, .no] = .ok (.list ((v.es.map (shf w.n)).map pairN)) [.fz (scrD ns), .own d7, .fz (webD w), .fz (stD s), .fz (natD w.n), .fz (.tuple (w.es.map pairN)), .fz (natD a), .fz (natD b), .fz (.tuple [natD (min a b), natD (max a b)]), .fz (stD ms), .no, .fz (.tuple ((lessL w a b).map pairN)), .no, x13, x14, x15, .no, .no, x18, .fz (webD v), .no, .no, .no, .no, .no, .no] := by
    rw [List.map_map]
    refine mComp_vall (f := pairN) (E := fun e => [.fz (scrD ns), .own d7, .fz (webD w), .fz (stD s), .fz (natD w.n), .fz (.tuple (w.es.map pairN)), .fz (natD a), .fz (natD b), .fz (.tuple [natD (min a b), natD (max a b)]), .fz (stD ms), .no, .fz (.tuple ((lessL w a b).map pairN)), .no, x13, x14, x15, .fz (natD e.1), .fz (natD e.2), x18, .fz (webD v), .no, .no, .no, .no, .no, .no]) (Wp := [.fz (scrD ns), .own d7, .fz (webD w), .fz (stD s), .fz (natD w.n), .fz (.tuple (w.es.map pairN)), .fz (natD a), .fz (natD b), .fz (.tuple [natD (min a b), natD (max a b)]), .fz (stD ms), .no, .fz (.tuple ((lessL w a b).map pairN)), .no, x13, x14, x15, .no, .no, x18, .fz (webD v), .no, .no, .no, .no, .no, .no]) (fun e => pairN (shf w.n e)) (ds := v.es) (ρ1 := [.fz (scrD ns), .own d7, .fz (webD w), .fz (stD s), .fz (natD w.n), .fz (.tuple (w.es.map pairN)), .fz (natD a), .fz (natD b), .fz (.tuple [natD (min a b), natD (max a b)]), .fz (stD ms), .no, .fz (.tuple ((lessL w a b).map pairN)), .no, x13, x14, x15, .no, .no, x18, .fz (webD v), .no, .no, .no, .no, .no, .no]) (iSeq_T (by array_get_dec)) rfl rfl (fun e _ => ⟨rfl, rfl⟩) (fun e _ => ?_) (by omega)
    have c1 := add_natV e.1 w.n
    have c2 := add_natV e.2 w.n
    show _ = Rs.ok (PyData.tuple [natD (e.1 + w.n), natD (e.2 + w.n)]) _
    array_get_dec
  refine .seq (.set' (d := joinD w v) (ρ' := [.fz (scrD ns), .own d7, .fz (webD w), .fz (stD s), .fz (natD w.n), .fz (.tuple (w.es.map pairN)), .fz (natD a), .fz (natD b), .fz (.tuple [natD (min a b), natD (max a b)]), .fz (stD ms), .no, .fz (.tuple ((lessL w a b).map pairN)), .no, x13, x14, x15, .no, .no, x18, .fz (webD v), .no, .no, .no, .no, .no, .no]) (by unfold joinD; array_get_dec) ?_)
  simp only [List.set_cons_zero, List.set_cons_succ]
  have j0 : dAt (joinD w v) (.int 0) = some (natD (w.n + v.n)) := rfl
  have st2 : W (sIf (mB (mOp2 dGt (.ex (mOp2 dAt (.sl 20) (.ex (mLit (.int 0))))) (.ex (mLit (.int 10))))) (sIf (mB (mOp2 dNe (.ex (mRef (mCall f_joined [.v (mVar 2), .v (mVar 19)]))) (.ex (mTup [mLit (.str "many"), mLit (.int 10)])))) (sRet (mLit (.bool false))) (sNil)) (sIf (bNot (mB (mCall (f__law_alike 50) [.v (mCall f_joined [.v (mVar 2), .v (mVar 19)]), .v (mVar 20)]))) (sRet (mLit (.bool false))) (sNil)))
      [.fz (scrD ns), .own d7, .fz (webD w), .fz (stD s), .fz (natD w.n), .fz (.tuple (w.es.map pairN)), .fz (natD a), .fz (natD b), .fz (.tuple [natD (min a b), natD (max a b)]), .fz (stD ms), .no, .fz (.tuple ((lessL w a b).map pairN)), .no, x13, x14, x15, .no, .no, x18, .fz (webD v), .fz (joinD w v), .no, .no, .no, .no, .no] (fun ρ => ρ = [.fz (scrD ns), .own d7, .fz (webD w), .fz (stD s), .fz (natD w.n), .fz (.tuple (w.es.map pairN)), .fz (natD a), .fz (natD b), .fz (.tuple [natD (min a b), natD (max a b)]), .fz (stD ms), .no, .fz (.tuple ((lessL w a b).map pairN)), .no, x13, x14, x15, .no, .no, x18, .fz (webD v), .fz (joinD w v), .no, .no, .no, .no, .no]) (fun d _ => d = .bool true) := by
    by_cases hten : 10 < w.n + v.n
    · have g1 : dGt (natD (w.n + v.n)) (.int 10) = some (.bool true) := (gt_nat (w.n + v.n) 10).trans (by rw [decide_eq_true hten])
      refine .ifT (by array_get_dec) ?_
      have hr : mRef (mCall f_joined [.v (mVar 2), .v (mVar 19)]) [.fz (scrD ns), .own d7, .fz (webD w), .fz (stD s), .fz (natD w.n), .fz (.tuple (w.es.map pairN)), .fz (natD a), .fz (natD b), .fz (.tuple [natD (min a b), natD (max a b)]), .fz (stD ms), .no, .fz (.tuple ((lessL w a b).map pairN)), .no, x13, x14, x15, .no, .no, x18, .fz (webD v), .fz (joinD w v), .no, .no, .no, .no, .no] = .ok (.tuple [.str "many", .int 10]) [.fz (scrD ns), .own d7, .fz (webD w), .fz (stD s), .fz (natD w.n), .fz (.tuple (w.es.map pairN)), .fz (natD a), .fz (natD b), .fz (.tuple [natD (min a b), natD (max a b)]), .fz (stD ms), .no, .fz (.tuple ((lessL w a b).map pairN)), .no, x13, x14, x15, .no, .no, x18, .fz (webD v), .fz (joinD w v), .no, .no, .no, .no, .no] := mRef_many (mCall_ex rfl (ρ1 := [.fz (scrD ns), .own d7, .fz (webD w), .fz (stD s), .fz (natD w.n), .fz (.tuple (w.es.map pairN)), .fz (natD a), .fz (natD b), .fz (.tuple [natD (min a b), natD (max a b)]), .fz (stD ms), .no, .fz (.tuple ((lessL w a b).map pairN)), .no, x13, x14, x15, .no, .no, x18, .fz (webD v), .fz (joinD w v), .no, .no, .no, .no, .no]) (xs := [some (webD w), some (webD v)]) (ss := [.fz (webD w), .fz (webD v)]) rfl rfl (joined_many hw hv hten))
      exact .ifF (mB_ok (op2_ok (x1 := some (.tuple [.str "many", .int 10])) (x2 := some (.tuple [.str "many", .int 10])) (ev_ex hr) (ev_ex (by array_get_dec)) rfl rfl q4)) (.nil rfl)
    · have g1 : dGt (natD (w.n + v.n)) (.int 10) = some (.bool false) := (gt_nat (w.n + v.n) 10).trans (by rw [decide_eq_false hten])
      refine .ifF (by array_get_dec) ?_
      have hok := joined_ok hw hv (by omega)
      have hal : f__law_alike 50 [.fz (joinD w v), .fz (joinD w v)] = .ok (.bool true) [] := alike_self (alk_pairs (es := w.es ++ v.es.map (shf w.n)) (by rw [List.length_append, List.length_map]; omega) (w.n + v.n) 46)
      exact .ifF (bNot_F (by array_get_dec)) (.nil rfl)
  refine .seq (W.imp st2 (fun ρ h => ?_) (fun _ _ h => h))
  subst h
  -- the likenesses, the law's way
  refine .seq (.own (d := .list []) (ρ' := [.fz (scrD ns), .own d7, .fz (webD w), .fz (stD s), .fz (natD w.n), .fz (.tuple (w.es.map pairN)), .fz (natD a), .fz (natD b), .fz (.tuple [natD (min a b), natD (max a b)]), .fz (stD ms), .no, .fz (.tuple ((lessL w a b).map pairN)), .no, x13, x14, x15, .no, .no, x18, .fz (webD v), .fz (joinD w v), .no, .no, .no, .no, .no]) rfl ?_)
  simp only [List.set_cons_zero, List.set_cons_succ]
  have hlo := law_orders_eq hn h5
  have hof := like_few w.n (by omega)
  refine .seq (.forA (f := flN) (l := ordZ w.n w.n) (ρ0 := [.fz (scrD ns), .own d7, .fz (webD w), .fz (stD s), .fz (natD w.n), .fz (.tuple (w.es.map pairN)), .fz (natD a), .fz (natD b), .fz (.tuple [natD (min a b), natD (max a b)]), .fz (stD ms), .no, .fz (.tuple ((lessL w a b).map pairN)), .no, x13, x14, x15, .no, .no, x18, .fz (webD v), .fz (joinD w v), .own (.list []), .no, .no, .no, .no]) (fun i ρ => ∃ x10 x22 x23, ρ = [.fz (scrD ns), .own d7, .fz (webD w), .fz (stD s), .fz (natD w.n), .fz (.tuple (w.es.map pairN)), .fz (natD a), .fz (natD b), .fz (.tuple [natD (min a b), natD (max a b)]), .fz (stD ms), x10, .fz (.tuple ((lessL w a b).map pairN)), .no, x13, x14, x15, .no, .no, x18, .fz (webD v), .fz (joinD w v), .own (.list ((((ordZ w.n w.n).take i).filter (fitB w s)).map (likeD s))), x22, x23, .no, .no]) (iSeq_L (by array_get_dec)) ⟨.no, .no, .no, rfl⟩ ?_ ?_)
  · rintro i o _ hi ⟨x10, x22, x23, rfl⟩
    have hord := ord_of (List.mem_of_getElem? hi)
    have n1 := law_named_eq hw hs hord
    simp only [List.set_cons_zero, List.set_cons_succ]
    obtain ⟨pre, hpre⟩ : ∃ pre, pre = (((ordZ w.n w.n).take i).filter (fitB w s)).map (likeD s) := ⟨_, rfl⟩
    have hon : (((ordZ w.n w.n).take (i + 1)).filter (fitB w s)).map (likeD s) = pre ++ if fitB w s o = true then [likeD s o] else [] := by
      rw [take_on hi, List.filter_append, List.filter_cons, List.filter_nil, List.map_append, ← hpre]
      split <;> rfl
    have hle : pre.length ≤ 1000 := by
      rw [hpre, List.length_map]
      have h1 := List.length_filter_le (fitB w s) ((ordZ w.n w.n).take i)
      have h2 := List.length_take_le' i (ordZ w.n w.n)
      omega
    rw [hon, ← hpre]
    refine .seq (.set' (d := nameD w s o) (ρ' := [.fz (scrD ns), .own d7, .fz (webD w), .fz (stD s), .fz (natD w.n), .fz (.tuple (w.es.map pairN)), .fz (natD a), .fz (natD b), .fz (.tuple [natD (min a b), natD (max a b)]), .fz (stD ms), x10, .fz (.tuple ((lessL w a b).map pairN)), .no, x13, x14, x15, .no, .no, x18, .fz (webD v), .fz (joinD w v), .own (.list pre), .fz (flN o), x23, .no, .no]) (by array_get_dec) ?_)
    simp only [List.set_cons_zero, List.set_cons_succ]
    refine .forA (f := PyData.int) (l := [0, 1, 2]) (ρ0 := [.fz (scrD ns), .own d7, .fz (webD w), .fz (stD s), .fz (natD w.n), .fz (.tuple (w.es.map pairN)), .fz (natD a), .fz (natD b), .fz (.tuple [natD (min a b), natD (max a b)]), .fz (stD ms), x10, .fz (.tuple ((lessL w a b).map pairN)), .no, x13, x14, x15, .no, .no, x18, .fz (webD v), .fz (joinD w v), .own (.list pre), .fz (flN o), .fz (nameD w s o), .no, .no]) (fun j ρ => ∃ x10, ρ = [.fz (scrD ns), .own d7, .fz (webD w), .fz (stD s), .fz (natD w.n), .fz (.tuple (w.es.map pairN)), .fz (natD a), .fz (natD b), .fz (.tuple [natD (min a b), natD (max a b)]), .fz (stD ms), x10, .fz (.tuple ((lessL w a b).map pairN)), .no, x13, x14, x15, .no, .no, x18, .fz (webD v), .fz (joinD w v), .own (.list (pre ++ ((([0, 1, 2] : List Int).take j).filter (turnB w s o)).map fun t => PyData.tuple [flN o, .int t])), .fz (flN o), .fz (nameD w s o), .no, .no]) (iSeq_T (by show _ = Rs.ok (PyData.tuple [.int 0, .int 1, .int 2]) _; array_get_dec)) ⟨x10, by simp⟩ ?_ ?_
    · rintro j t _ hj ⟨x10, rfl⟩
      simp only [List.set_cons_zero, List.set_cons_succ]
      obtain ⟨acc, hacc⟩ : ∃ acc, acc = pre ++ ((([0, 1, 2] : List Int).take j).filter (turnB w s o)).map fun t => PyData.tuple [flN o, .int t] := ⟨_, rfl⟩
      have hon2 : (pre ++ ((([0, 1, 2] : List Int).take (j + 1)).filter (turnB w s o)).map fun t => PyData.tuple [flN o, .int t]) = acc ++ if turnB w s o t = true then [PyData.tuple [flN o, .int t]] else [] := by
        rw [take_on hj, List.filter_append, List.filter_cons, List.filter_nil, List.map_append, hacc, List.append_assoc]
        split <;> rfl
      have hal : acc.length ≤ 2000 := by
        rw [hacc, List.length_append, List.length_map]
        have h1 := List.length_filter_le (turnB w s o) (([0, 1, 2] : List Int).take j)
        have h2 := List.length_take_le' j ([0, 1, 2] : List Int)
        simp only [List.length_cons, List.length_nil] at h2
        omega
      rw [hon2, ← hacc]
      have hcm2 := comp_all (f := PyData.int) (i := 24) (it := iSeq (mVar 3)) (elt := mOp2 dMod (.ex (mFn dInt [.ex (mOp2 dAdd (.sl 24) (.sl 10))])) (.ex (mLit (.int 3)))) (fun m => .int ((m + t) % 3)) (ds := s) (ρ := [.fz (scrD ns), .own d7, .fz (webD w), .fz (stD s), .fz (natD w.n), .fz (.tuple (w.es.map pairN)), .fz (natD a), .fz (natD b), .fz (.tuple [natD (min a b), natD (max a b)]), .fz (stD ms), .fz (.int t), .fz (.tuple ((lessL w a b).map pairN)), .no, x13, x14, x15, .no, .no, x18, .fz (webD v), .fz (joinD w v), .own (.list acc), .fz (flN o), .fz (nameD w s o), .no, .no]) (ρ1 := [.fz (scrD ns), .own d7, .fz (webD w), .fz (stD s), .fz (natD w.n), .fz (.tuple (w.es.map pairN)), .fz (natD a), .fz (natD b), .fz (.tuple [natD (min a b), natD (max a b)]), .fz (stD ms), .fz (.int t), .fz (.tuple ((lessL w a b).map pairN)), .no, x13, x14, x15, .no, .no, x18, .fz (webD v), .fz (joinD w v), .own (.list acc), .fz (flN o), .fz (nameD w s o), .no, .no])
        (iSeq_T (mVar_fz rfl)) (.no rfl) (fun m _ => by
          simp only [List.set_cons_zero, List.set_cons_succ]
          have c1 : dAdd (.int m) (.int t) = some (.int (m + t)) := rfl
          have c2 : dInt [.int (m + t)] = some (.int (m + t)) := rfl
          have c3 := mod3 (m + t)
          array_get_dec) (by omega)
      have e3 : (s.map fun m => PyData.int ((m + t) % 3)) = (s.map fun m => (m + t) % 3).map PyData.int := by rw [List.map_map]; rfl
      rw [e3] at hcm2
      have k5 : mFn dTuple [.ex (mComp (iSeq (mVar 3)) (tmName 24) (bYes) (mOp2 dMod (.ex (mFn dInt [.ex (mOp2 dAdd (.sl 24) (.sl 10))])) (.ex (mLit (.int 3)))) [24])] [.fz (scrD ns), .own d7, .fz (webD w), .fz (stD s), .fz (natD w.n), .fz (.tuple (w.es.map pairN)), .fz (natD a), .fz (natD b), .fz (.tuple [natD (min a b), natD (max a b)]), .fz (stD ms), .fz (.int t), .fz (.tuple ((lessL w a b).map pairN)), .no, x13, x14, x15, .no, .no, x18, .fz (webD v), .fz (joinD w v), .own (.list acc), .fz (flN o), .fz (nameD w s o), .no, .no] = .ok (stD (s.map fun m => (m + t) % 3)) [.fz (scrD ns), .own d7, .fz (webD w), .fz (stD s), .fz (natD w.n), .fz (.tuple (w.es.map pairN)), .fz (natD a), .fz (natD b), .fz (.tuple [natD (min a b), natD (max a b)]), .fz (stD ms), .fz (.int t), .fz (.tuple ((lessL w a b).map pairN)), .no, x13, x14, x15, .no, .no, x18, .fz (webD v), .fz (joinD w v), .own (.list acc), .fz (flN o), .fz (nameD w s o), .no, .no] := mFn_ok (evo_cons (ev_ex hcm2) evo_nil) rfl rfl
      have c4 := eq_nameW w o
      have c5 := eq_st (nameS s o) (s.map fun m => (m + t) % 3)
      have c6 : dAt (nameD w s o) (.int 0) = some (webD (nameW w o)) := rfl
      have c7 : dAt (nameD w s o) (.int 1) = some (stD (nameS s o)) := rfl
      have htest : (bAnd (mB (mOp2 dEq (.ex (mOp2 dAt (.sl 23) (.ex (mLit (.int 0))))) (.sl 2))) (mB (mOp2 dEq (.ex (mOp2 dAt (.sl 23) (.ex (mLit (.int 1))))) (.ex (mFn dTuple [.ex (mComp (iSeq (mVar 3)) (tmName 24) (bYes) (mOp2 dMod (.ex (mFn dInt [.ex (mOp2 dAdd (.sl 24) (.sl 10))])) (.ex (mLit (.int 3)))) [24])]))))) [.fz (scrD ns), .own d7, .fz (webD w), .fz (stD s), .fz (natD w.n), .fz (.tuple (w.es.map pairN)), .fz (natD a), .fz (natD b), .fz (.tuple [natD (min a b), natD (max a b)]), .fz (stD ms), .fz (.int t), .fz (.tuple ((lessL w a b).map pairN)), .no, x13, x14, x15, .no, .no, x18, .fz (webD v), .fz (joinD w v), .own (.list acc), .fz (flN o), .fz (nameD w s o), .no, .no] = .ok (turnB w s o t) [.fz (scrD ns), .own d7, .fz (webD w), .fz (stD s), .fz (natD w.n), .fz (.tuple (w.es.map pairN)), .fz (natD a), .fz (natD b), .fz (.tuple [natD (min a b), natD (max a b)]), .fz (stD ms), .fz (.int t), .fz (.tuple ((lessL w a b).map pairN)), .no, x13, x14, x15, .no, .no, x18, .fz (webD v), .fz (joinD w v), .own (.list acc), .fz (flN o), .fz (nameD w s o), .no, .no] := by
        unfold turnB
        by_cases hd : sortN (mapL w o) = w.es
        · rw [decide_eq_true hd] at c4 ⊢
          rw [Bool.true_and]
          exact bAnd_T (mB_ok (op2_ok (x1 := some (webD (nameW w o))) (x2 := none) (ev_ex (by array_get_dec)) (ev_sl rfl) rfl rfl c4)) (mB_ok (op2_ok (x1 := some (stD (nameS s o))) (x2 := some (stD (s.map fun m => (m + t) % 3))) (ev_ex (by array_get_dec)) (ev_ex k5) rfl rfl c5))
        · rw [decide_eq_false hd] at c4 ⊢
          rw [Bool.false_and]
          exact bAnd_F (mB_ok (op2_ok (x1 := some (webD (nameW w o))) (x2 := none) (ev_ex (by array_get_dec)) (ev_sl rfl) rfl rfl c4))
      cases hb2 : turnB w s o t with
      | true =>
        rw [hb2] at htest
        refine .ifT htest ?_
        refine W.app (d := .tuple [flN o, .int t]) (ρ' := [.fz (scrD ns), .own d7, .fz (webD w), .fz (stD s), .fz (natD w.n), .fz (.tuple (w.es.map pairN)), .fz (natD a), .fz (natD b), .fz (.tuple [natD (min a b), natD (max a b)]), .fz (stD ms), .fz (.int t), .fz (.tuple ((lessL w a b).map pairN)), .no, x13, x14, x15, .no, .no, x18, .fz (webD v), .fz (joinD w v), .own (.list acc), .fz (flN o), .fz (nameD w s o), .no, .no]) rfl (by array_get_dec) rfl (by omega) ⟨.fz (.int t), ?_⟩
        simp only [List.set_cons_zero, List.set_cons_succ, if_true]
      | false =>
        rw [hb2] at htest
        refine .ifF htest (.nil ⟨.fz (.int t), ?_⟩)
        rw [if_neg Bool.false_ne_true, List.append_nil]
    · rintro _ ⟨x10, rfl⟩
      have hg := turns_good hw hs hord
      refine ⟨x10, .fz (flN o), .fz (nameD w s o), ?_⟩
      rw [List.take_length, hg]
  rintro _ ⟨x10, x22, x23, rfl⟩
  rw [List.take_length]
  -- one order, drawn
  have hsome := orders_some w.n (by omega) hn
  obtain ⟨i, x, d8, hx, e8, r8⟩ := pick r7 (ds := (ordZ w.n w.n).map flN) (by rw [List.length_map]; exact hsome) (by rw [List.length_map]; omega)
  obtain ⟨o, ho, rfl⟩ := List.mem_map.mp (List.mem_of_getElem? hx)
  have hord := ord_of ho
  have hol := hord.len
  have n1 := law_named_eq hw hs hord
  have n2 := renamed_ok hw hs hord
  have n3 := likenesses_eq hw h5 hs
  refine .seq (.set' (d := flN o) (ρ' := [.fz (scrD ns), .own d8, .fz (webD w), .fz (stD s), .fz (natD w.n), .fz (.tuple (w.es.map pairN)), .fz (natD a), .fz (natD b), .fz (.tuple [natD (min a b), natD (max a b)]), .fz (stD ms), x10, .fz (.tuple ((lessL w a b).map pairN)), .no, x13, x14, x15, .no, .no, x18, .fz (webD v), .fz (joinD w v), .own (.list ((likeL w s).map (likeD s))), x22, x23, .no, .no]) (by array_get_dec) ?_)
  simp only [List.set_cons_zero, List.set_cons_succ]
  have hal1 : f__law_alike 50 [.fz (nameD w s o), .fz (nameD w s o)] = .ok (.bool true) [] := by
    refine alike_self (.tup (fun d hd => ?_) (by simp))
    rcases List.mem_cons.mp hd with rfl | hd
    · exact alk_pairs (es := sortN (mapL w o)) (by
        rw [(sortN_perm _).length_eq]
        unfold mapL
        rw [List.length_map]
        omega) w.n 45
    · rw [List.mem_singleton.mp hd]
      exact alk_st (by unfold nameS; rw [List.length_map]; omega) 47
  refine .seq (.ifF (bNot_F (by array_get_dec)) (.nil ?_))
  have hal2 := alike_like h5 s
  have hsrt := sort_like h5 s
  refine .seq (.ifF (bNot_F (by array_get_dec)) (.nil ?_))
  -- what is no order
  have k1 : dList [flN o] = some (.list (o.map natD)) := rfl
  have k2 := add_fl (o := o) (by omega) (by omega)
  have k3 := cut_fl (o := o) (by omega)
  have k4 := rep_one (.bool true) hn (by omega)
  have k5 : dAdd (natD w.n) (.int 1) = some (natD (w.n + 1)) := add_nat1 w.n
  have k6 := rep_one (.int 0) (n := w.n + 1) (by omega) (by omega)
  have k7 : PyData.tuple (List.replicate (w.n + 1) (.int 0)) = .tuple ((List.replicate (w.n + 1) 0).map natD) := by rw [List.map_replicate]; rfl
  rw [k7] at k6
  have hcutE : mCut (.sl 22) (some (mLit (.int 1))) (none) [.fz (scrD ns), .own d8, .fz (webD w), .fz (stD s), .fz (natD w.n), .fz (.tuple (w.es.map pairN)), .fz (natD a), .fz (natD b), .fz (.tuple [natD (min a b), natD (max a b)]), .fz (stD ms), x10, .fz (.tuple ((lessL w a b).map pairN)), .no, x13, x14, x15, .no, .no, x18, .fz (webD v), .fz (joinD w v), .own (.list ((likeL w s).map (likeD s))), .fz (flN o), x23, .no, .no] = .ok (.tuple ((o.drop 1).map natD)) [.fz (scrD ns), .own d8, .fz (webD w), .fz (stD s), .fz (natD w.n), .fz (.tuple (w.es.map pairN)), .fz (natD a), .fz (natD b), .fz (.tuple [natD (min a b), natD (max a b)]), .fz (stD ms), x10, .fz (.tuple ((lessL w a b).map pairN)), .no, x13, x14, x15, .no, .no, x18, .fz (webD v), .fz (joinD w v), .own (.list ((likeL w s).map (likeD s))), .fz (flN o), x23, .no, .no] := by
    unfold mCut
    rw [show (Opd.sl 22).ev [.fz (scrD ns), .own d8, .fz (webD w), .fz (stD s), .fz (natD w.n), .fz (.tuple (w.es.map pairN)), .fz (natD a), .fz (natD b), .fz (.tuple [natD (min a b), natD (max a b)]), .fz (stD ms), x10, .fz (.tuple ((lessL w a b).map pairN)), .no, x13, x14, x15, .no, .no, x18, .fz (webD v), .fz (joinD w v), .own (.list ((likeL w s).map (likeD s))), .fz (flN o), x23, .no, .no] = Rs.ok none [.fz (scrD ns), .own d8, .fz (webD w), .fz (stD s), .fz (natD w.n), .fz (.tuple (w.es.map pairN)), .fz (natD a), .fz (natD b), .fz (.tuple [natD (min a b), natD (max a b)]), .fz (stD ms), x10, .fz (.tuple ((lessL w a b).map pairN)), .no, x13, x14, x15, .no, .no, x18, .fz (webD v), .fz (joinD w v), .own (.list ((likeL w s).map (likeD s))), .fz (flN o), x23, .no, .no] from rfl]
    show (match (some (flN o)).bind fun d => dCut d (some 1) none with
      | some d => Rs.ok d [.fz (scrD ns), .own d8, .fz (webD w), .fz (stD s), .fz (natD w.n), .fz (.tuple (w.es.map pairN)), .fz (natD a), .fz (natD b), .fz (.tuple [natD (min a b), natD (max a b)]), .fz (stD ms), x10, .fz (.tuple ((lessL w a b).map pairN)), .no, x13, x14, x15, .no, .no, x18, .fz (webD v), .fz (joinD w v), .own (.list ((likeL w s).map (likeD s))), .fz (flN o), x23, .no, .no]
      | none => .stuck) = _
    rw [Option.bind_some, k3]
  refine .seq (.set' (d := .list (badsO w.n o)) (ρ' := [.fz (scrD ns), .own d8, .fz (webD w), .fz (stD s), .fz (natD w.n), .fz (.tuple (w.es.map pairN)), .fz (natD a), .fz (natD b), .fz (.tuple [natD (min a b), natD (max a b)]), .fz (stD ms), x10, .fz (.tuple ((lessL w a b).map pairN)), .no, x13, x14, x15, .no, .no, x18, .fz (webD v), .fz (joinD w v), .own (.list ((likeL w s).map (likeD s))), .fz (flN o), x23, .no, .no]) (by unfold badsO; array_get_dec) ?_)
  simp only [List.set_cons_zero, List.set_cons_succ]
  have hfin := mComp_of (f := fun d : D => d) (i := 18) (it := iSeq (mVar 25)) (cd := mB (mOp2 dNe (.ex (mRef (mCall f_renamed [.v (mVar 2), .v (mVar 3), .v (mVar 18)]))) (.ex (mLit (.str "order"))))) (elt := mVar 18) (fun _ => false) (fun d => d) (ds := badsO w.n o)
    (ρ := [.fz (scrD ns), .own d8, .fz (webD w), .fz (stD s), .fz (natD w.n), .fz (.tuple (w.es.map pairN)), .fz (natD a), .fz (natD b), .fz (.tuple [natD (min a b), natD (max a b)]), .fz (stD ms), x10, .fz (.tuple ((lessL w a b).map pairN)), .no, x13, x14, x15, .no, .no, x18, .fz (webD v), .fz (joinD w v), .own (.list ((likeL w s).map (likeD s))), .fz (flN o), x23, .no, .fz (.list (badsO w.n o))]) (ρ1 := [.fz (scrD ns), .own d8, .fz (webD w), .fz (stD s), .fz (natD w.n), .fz (.tuple (w.es.map pairN)), .fz (natD a), .fz (natD b), .fz (.tuple [natD (min a b), natD (max a b)]), .fz (stD ms), x10, .fz (.tuple ((lessL w a b).map pairN)), .no, x13, x14, x15, .no, .no, x18, .fz (webD v), .fz (joinD w v), .own (.list ((likeL w s).map (likeD s))), .fz (flN o), x23, .no, .fz (.list (badsO w.n o))]) (by rw [List.map_id']; exact iSeq_L (mVar_fz rfl)) ⟨x18, rfl, hx18⟩ (fun d hd => by
      simp only [List.set_cons_zero, List.set_cons_succ]
      have hr : mRef (mCall f_renamed [.v (mVar 2), .v (mVar 3), .v (mVar 18)]) [.fz (scrD ns), .own d8, .fz (webD w), .fz (stD s), .fz (natD w.n), .fz (.tuple (w.es.map pairN)), .fz (natD a), .fz (natD b), .fz (.tuple [natD (min a b), natD (max a b)]), .fz (stD ms), x10, .fz (.tuple ((lessL w a b).map pairN)), .no, x13, x14, x15, .no, .no, .fz d, .fz (webD v), .fz (joinD w v), .own (.list ((likeL w s).map (likeD s))), .fz (flN o), x23, .no, .fz (.list (badsO w.n o))] = .ok (.str "order") [.fz (scrD ns), .own d8, .fz (webD w), .fz (stD s), .fz (natD w.n), .fz (.tuple (w.es.map pairN)), .fz (natD a), .fz (natD b), .fz (.tuple [natD (min a b), natD (max a b)]), .fz (stD ms), x10, .fz (.tuple ((lessL w a b).map pairN)), .no, x13, x14, x15, .no, .no, .fz d, .fz (webD v), .fz (joinD w v), .own (.list ((likeL w s).map (likeD s))), .fz (flN o), x23, .no, .fz (.list (badsO w.n o))] := mRef_ex (mCall_ex rfl (ρ1 := [.fz (scrD ns), .own d8, .fz (webD w), .fz (stD s), .fz (natD w.n), .fz (.tuple (w.es.map pairN)), .fz (natD a), .fz (natD b), .fz (.tuple [natD (min a b), natD (max a b)]), .fz (stD ms), x10, .fz (.tuple ((lessL w a b).map pairN)), .no, x13, x14, x15, .no, .no, .fz d, .fz (webD v), .fz (joinD w v), .own (.list ((likeL w s).map (likeD s))), .fz (flN o), x23, .no, .fz (.list (badsO w.n o))]) (xs := [some (webD w), some (stD s), some d]) (ss := [.fz (webD w), .fz (stD s), .fz d]) rfl rfl (renamed_bads hw hs hord d hd)) hor
      exact mB_ok (op2_ok (x1 := some (.str "order")) (x2 := some (.str "order")) (ev_ex hr) (ev_ex rfl) rfl rfl q3)) (fun d _ h => by cases h) (by unfold badsO; simp)
  rw [List.filter_eq_nil_iff.mpr (fun _ _ => by simp)] at hfin
  exact .ret (op2_ok (x1 := some (.list [])) (x2 := some (.list [])) (ev_ex hfin) (ev_ex rfl) rfl rfl rfl) rfl

end MP
set_option autoImplicit false
namespace MP
open PySem PySem.Spec PyProof.Rows L2 LamX
theorem rec__law_alike {P : Program} {w : World} {K : PySem.W.Frag} {mg : Str → Option Value} {base : Heap} {T : List (Addr × Str)} (B : Bs P w K mg) {f : Addr} {fd : FuncData} (F1 : Fun K "_law_alike" "_law_alike" (top 40) f fd) (hm : mg "_law_alike" = some (.ref f)) (hb : Binds K fd ["_law_found", "_law_due"] []) : ∀ k, Cal P w K mg base T "_law_alike" k 2 (f__law_alike k)
  | 0 => ⟨f, fd, ["_law_found", "_law_due"], cal_none rfl, hm, F1.kp, hb⟩
  | k + 1 => ok__law_alike B (rec__law_alike B F1 hm hb k) F1 hm hb
theorem law_mk {l : PySem.W.OpenLaw} {w : World} {K : PySem.W.Frag} {h : Heap} {mg : Str → Option Value} {fa : Addr} (KX : K.In h) (G : h.Ns mainGlobals mg) (hfa : mg "law" = some (.ref fa))
    {f0 f1 f2 f3 f4 f5 f6 f7 f8 f9 f10 f11 f12 f13 f14 f15 f16 f17 f18 f19 f20 f21 f22 f23 f24 f25 co fi_BadWeb ca_BadWeb cc_BadWeb NN_BadWeb fi_TooMany ca_TooMany cc_TooMany NN_TooMany e_MoodError e_BadWeb e_BadWalk e_TooMany e_InvalidText e_BadState e_BadFolk e_BadNumber e_BadStreet e_BadOrder e_NotResting e_NotText tbA : Addr} {oc0 kV0 dc0 pm0 ct0 cd0 oc1 kV1 dc1 pm1 ct1 cd1 oc2 kV2 dc2 pm2 ct2 cd2 oc3 kV3 dc3 pm3 ct3 cd3 oc4 kV4 dc4 pm4 ct4 cd4 oc5 kV5 dc5 pm5 ct5 cd5 oc6 kV6 dc6 pm6 ct6 cd6 oc7 kV7 dc7 pm7 ct7 cd7 oc8 kV8 dc8 pm8 ct8 cd8 oc9 kV9 dc9 pm9 ct9 cd9 oc10 kV10 dc10 pm10 ct10 cd10 oc11 kV11 dc11 pm11 ct11 cd11 oc12 kV12 dc12 pm12 ct12 cd12 oc13 kV13 dc13 pm13 ct13 cd13 oc14 kV14 dc14 pm14 ct14 cd14 oc15 kV15 dc15 pm15 ct15 cd15 oc16 kV16 dc16 pm16 ct16 cd16 oc17 kV17 dc17 pm17 ct17 cd17 oc18 kV18 dc18 pm18 ct18 cd18 oc19 kV19 dc19 pm19 ct19 cd19 oc20 kV20 dc20 pm20 ct20 cd20 oc21 kV21 dc21 pm21 ct21 cd21 oc22 kV22 dc22 pm22 ct22 cd22 oc23 kV23 dc23 pm23 ct23 cd23 oc24 kV24 dc24 pm24 ct24 cd24 oc25 kV25 dc25 pm25 ct25 doc_BadWeb pm_BadWeb ct_BadWeb kV_BadWeb oc_BadWeb ccl_BadWeb cl_BadWeb doc_TooMany pm_TooMany ct_TooMany kV_TooMany oc_TooMany ccl_TooMany cl_TooMany : Value} {od0 an0 od1 an1 od2 an2 od3 an3 od4 an4 od5 an5 od6 an6 od7 an7 od8 an8 od9 an9 od10 an10 od11 an11 od12 an12 od13 an13 od14 an14 od15 an15 od16 an16 od17 an17 od18 an18 od19 an19 od20 an20 od21 an21 od22 an22 od23 an23 od24 an24 od25 an25 an_BadWeb od_BadWeb cdd_BadWeb cld_BadWeb dd_BadWeb an_TooMany od_TooMany cdd_TooMany cld_TooMany dd_TooMany : Option Addr} {sl0 sl1 sl2 sl3 sl4 sl5 sl6 sl7 sl8 sl9 sl10 sl11 sl12 sl13 sl14 sl15 sl16 sl17 sl18 sl19 sl20 sl21 sl22 sl23 sl24 sl25 osl_BadWeb ccs_BadWeb csl_BadWeb osl_TooMany ccs_TooMany csl_TooMany : Array (Option Value)} {t_MOODS t_MOST_FOLK t_MOST_LIKE t_MOST_NEW : Tok}
    {vs_BadWeb : Array Value} {file_BadWeb nm_BadWeb q_BadWeb : Str} {tf_BadWeb : Tok} {bs_BadWeb bm_BadWeb sub_BadWeb : List Value} {sn_BadWeb : List Str} {ab_BadWeb : Bool} {col_BadWeb : Option Bool} {k0_BadWeb k1_BadWeb k2_BadWeb k3_BadWeb k5_BadWeb : Option Value} {vs_TooMany : Array Value} {file_TooMany nm_TooMany q_TooMany : Str} {tf_TooMany : Tok} {bs_TooMany bm_TooMany sub_TooMany : List Value} {sn_TooMany : List Str} {ab_TooMany : Bool} {col_TooMany : Option Bool} {k0_TooMany k1_TooMany k2_TooMany k3_TooMany k5_TooMany : Option Value}
    (n_MoodError : PySem.W.nsIn K mainGlobals "MoodError" = some (some (.ref e_MoodError)))
    (n_BadWeb : PySem.W.nsIn K mainGlobals "BadWeb" = some (some (.ref e_BadWeb)))
    (n_BadWalk : PySem.W.nsIn K mainGlobals "BadWalk" = some (some (.ref e_BadWalk)))
    (n_TooMany : PySem.W.nsIn K mainGlobals "TooMany" = some (some (.ref e_TooMany)))
    (n_InvalidText : PySem.W.nsIn K mainGlobals "InvalidText" = some (some (.ref e_InvalidText)))
    (n_BadState : PySem.W.nsIn K mainGlobals "BadState" = some (some (.ref e_BadState)))
    (n_BadFolk : PySem.W.nsIn K mainGlobals "BadFolk" = some (some (.ref e_BadFolk)))
    (n_BadNumber : PySem.W.nsIn K mainGlobals "BadNumber" = some (some (.ref e_BadNumber)))
    (n_BadStreet : PySem.W.nsIn K mainGlobals "BadStreet" = some (some (.ref e_BadStreet)))
    (n_BadOrder : PySem.W.nsIn K mainGlobals "BadOrder" = some (some (.ref e_BadOrder)))
    (n_NotResting : PySem.W.nsIn K mainGlobals "NotResting" = some (some (.ref e_NotResting)))
    (n_NotText : PySem.W.nsIn K mainGlobals "NotText" = some (some (.ref e_NotText)))
    (a0 : PySem.W.nsIn K mainGlobals "is_number" = some (some (.ref f0)))
    (l0 : K.lookup f0 = some ⟨oc0, od0, .func (PySem.W.fnOf "is_number" "is_number" (defArgs (top 15)) (defBody (top 15)) (defScope (top 15)) .none kV0 dc0 pm0 an0 cd0 ct0), sl0⟩)
    (c0 : PySem.W.codeIn K cd0 "is_number" = true)
    (k0 : PySem.W.keepIn K (.ref f0) = true)
    (a1 : PySem.W.nsIn K mainGlobals "is_street" = some (some (.ref f1)))
    (l1 : K.lookup f1 = some ⟨oc1, od1, .func (PySem.W.fnOf "is_street" "is_street" (defArgs (top 16)) (defBody (top 16)) (defScope (top 16)) .none kV1 dc1 pm1 an1 cd1 ct1), sl1⟩)
    (c1 : PySem.W.codeIn K cd1 "is_street" = true)
    (k1 : PySem.W.keepIn K (.ref f1) = true)
    (a2 : PySem.W.nsIn K mainGlobals "need_web" = some (some (.ref f2)))
    (l2 : K.lookup f2 = some ⟨oc2, od2, .func (PySem.W.fnOf "need_web" "need_web" (defArgs (top 17)) (defBody (top 17)) (defScope (top 17)) .none kV2 dc2 pm2 an2 cd2 ct2), sl2⟩)
    (c2 : PySem.W.codeIn K cd2 "need_web" = true)
    (k2 : PySem.W.keepIn K (.ref f2) = true)
    (a3 : PySem.W.nsIn K mainGlobals "need_one" = some (some (.ref f3)))
    (l3 : K.lookup f3 = some ⟨oc3, od3, .func (PySem.W.fnOf "need_one" "need_one" (defArgs (top 18)) (defBody (top 18)) (defScope (top 18)) .none kV3 dc3 pm3 an3 cd3 ct3), sl3⟩)
    (c3 : PySem.W.codeIn K cd3 "need_one" = true)
    (k3 : PySem.W.keepIn K (.ref f3) = true)
    (a4 : PySem.W.nsIn K mainGlobals "are_neighbours" = some (some (.ref f4)))
    (l4 : K.lookup f4 = some ⟨oc4, od4, .func (PySem.W.fnOf "are_neighbours" "are_neighbours" (defArgs (top 19)) (defBody (top 19)) (defScope (top 19)) .none kV4 dc4 pm4 an4 cd4 ct4), sl4⟩)
    (c4 : PySem.W.codeIn K cd4 "are_neighbours" = true)
    (k4 : PySem.W.keepIn K (.ref f4) = true)
    (a5 : PySem.W.nsIn K mainGlobals "are_moods" = some (some (.ref f5)))
    (l5 : K.lookup f5 = some ⟨oc5, od5, .func (PySem.W.fnOf "are_moods" "are_moods" (defArgs (top 22)) (defBody (top 22)) (defScope (top 22)) .none kV5 dc5 pm5 an5 cd5 ct5), sl5⟩)
    (c5 : PySem.W.codeIn K cd5 "are_moods" = true)
    (k5 : PySem.W.keepIn K (.ref f5) = true)
    (a6 : PySem.W.nsIn K mainGlobals "need_both" = some (some (.ref f6)))
    (l6 : K.lookup f6 = some ⟨oc6, od6, .func (PySem.W.fnOf "need_both" "need_both" (defArgs (top 23)) (defBody (top 23)) (defScope (top 23)) .none kV6 dc6 pm6 an6 cd6 ct6), sl6⟩)
    (c6 : PySem.W.codeIn K cd6 "need_both" = true)
    (k6 : PySem.W.keepIn K (.ref f6) = true)
    (a7 : PySem.W.nsIn K mainGlobals "need_ends" = some (some (.ref f7)))
    (l7 : K.lookup f7 = some ⟨oc7, od7, .func (PySem.W.fnOf "need_ends" "need_ends" (defArgs (top 27)) (defBody (top 27)) (defScope (top 27)) .none kV7 dc7 pm7 an7 cd7 ct7), sl7⟩)
    (c7 : PySem.W.codeIn K cd7 "need_ends" = true)
    (k7 : PySem.W.keepIn K (.ref f7) = true)
    (a8 : PySem.W.nsIn K mainGlobals "with_street" = some (some (.ref f8)))
    (l8 : K.lookup f8 = some ⟨oc8, od8, .func (PySem.W.fnOf "with_street" "with_street" (defArgs (top 28)) (defBody (top 28)) (defScope (top 28)) .none kV8 dc8 pm8 an8 cd8 ct8), sl8⟩)
    (c8 : PySem.W.codeIn K cd8 "with_street" = true)
    (k8 : PySem.W.keepIn K (.ref f8) = true)
    (a9 : PySem.W.nsIn K mainGlobals "without" = some (some (.ref f9)))
    (l9 : K.lookup f9 = some ⟨oc9, od9, .func (PySem.W.fnOf "without" "without" (defArgs (top 29)) (defBody (top 29)) (defScope (top 29)) .none kV9 dc9 pm9 an9 cd9 ct9), sl9⟩)
    (c9 : PySem.W.codeIn K cd9 "without" = true)
    (k9 : PySem.W.keepIn K (.ref f9) = true)
    (a10 : PySem.W.nsIn K mainGlobals "without_street" = some (some (.ref f10)))
    (l10 : K.lookup f10 = some ⟨oc10, od10, .func (PySem.W.fnOf "without_street" "without_street" (defArgs (top 30)) (defBody (top 30)) (defScope (top 30)) .none kV10 dc10 pm10 an10 cd10 ct10), sl10⟩)
    (c10 : PySem.W.codeIn K cd10 "without_street" = true)
    (k10 : PySem.W.keepIn K (.ref f10) = true)
    (a11 : PySem.W.nsIn K mainGlobals "joined" = some (some (.ref f11)))
    (l11 : K.lookup f11 = some ⟨oc11, od11, .func (PySem.W.fnOf "joined" "joined" (defArgs (top 31)) (defBody (top 31)) (defScope (top 31)) .none kV11 dc11 pm11 an11 cd11 ct11), sl11⟩)
    (c11 : PySem.W.codeIn K cd11 "joined" = true)
    (k11 : PySem.W.keepIn K (.ref f11) = true)
    (a12 : PySem.W.nsIn K mainGlobals "stretched" = some (some (.ref f12)))
    (l12 : K.lookup f12 = some ⟨oc12, od12, .func (PySem.W.fnOf "stretched" "stretched" (defArgs (top 32)) (defBody (top 32)) (defScope (top 32)) .none kV12 dc12 pm12 an12 cd12 ct12), sl12⟩)
    (c12 : PySem.W.codeIn K cd12 "stretched" = true)
    (k12 : PySem.W.keepIn K (.ref f12) = true)
    (a13 : PySem.W.nsIn K mainGlobals "named" = some (some (.ref f13)))
    (l13 : K.lookup f13 = some ⟨oc13, od13, .func (PySem.W.fnOf "named" "named" (defArgs (top 33)) (defBody (top 33)) (defScope (top 33)) .none kV13 dc13 pm13 an13 cd13 ct13), sl13⟩)
    (c13 : PySem.W.codeIn K cd13 "named" = true)
    (k13 : PySem.W.keepIn K (.ref f13) = true)
    (a14 : PySem.W.nsIn K mainGlobals "renamed" = some (some (.ref f14)))
    (l14 : K.lookup f14 = some ⟨oc14, od14, .func (PySem.W.fnOf "renamed" "renamed" (defArgs (top 34)) (defBody (top 34)) (defScope (top 34)) .none kV14 dc14 pm14 an14 cd14 ct14), sl14⟩)
    (c14 : PySem.W.codeIn K cd14 "renamed" = true)
    (k14 : PySem.W.keepIn K (.ref f14) = true)
    (a15 : PySem.W.nsIn K mainGlobals "orders_of" = some (some (.ref f15)))
    (l15 : K.lookup f15 = some ⟨oc15, od15, .func (PySem.W.fnOf "orders_of" "orders_of" (defArgs (top 35)) (defBody (top 35)) (defScope (top 35)) .none kV15 dc15 pm15 an15 cd15 ct15), sl15⟩)
    (c15 : PySem.W.codeIn K cd15 "orders_of" = true)
    (k15 : PySem.W.keepIn K (.ref f15) = true)
    (a16 : PySem.W.nsIn K mainGlobals "likenesses" = some (some (.ref f16)))
    (l16 : K.lookup f16 = some ⟨oc16, od16, .func (PySem.W.fnOf "likenesses" "likenesses" (defArgs (top 36)) (defBody (top 36)) (defScope (top 36)) .none kV16 dc16 pm16 an16 cd16 ct16), sl16⟩)
    (c16 : PySem.W.codeIn K cd16 "likenesses" = true)
    (k16 : PySem.W.keepIn K (.ref f16) = true)
    (a17 : PySem.W.nsIn K mainGlobals "_law_taken" = some (some (.ref f17)))
    (l17 : K.lookup f17 = some ⟨oc17, od17, .func (PySem.W.fnOf "_law_taken" "_law_taken" (defArgs (top 38)) (defBody (top 38)) (defScope (top 38)) .none kV17 dc17 pm17 an17 cd17 ct17), sl17⟩)
    (c17 : PySem.W.codeIn K cd17 "_law_taken" = true)
    (k17 : PySem.W.keepIn K (.ref f17) = true)
    (a18 : PySem.W.nsIn K mainGlobals "_law_pick" = some (some (.ref f18)))
    (l18 : K.lookup f18 = some ⟨oc18, od18, .func (PySem.W.fnOf "_law_pick" "_law_pick" (defArgs (top 39)) (defBody (top 39)) (defScope (top 39)) .none kV18 dc18 pm18 an18 cd18 ct18), sl18⟩)
    (c18 : PySem.W.codeIn K cd18 "_law_pick" = true)
    (k18 : PySem.W.keepIn K (.ref f18) = true)
    (a19 : PySem.W.nsIn K mainGlobals "_law_alike" = some (some (.ref f19)))
    (l19 : K.lookup f19 = some ⟨oc19, od19, .func (PySem.W.fnOf "_law_alike" "_law_alike" (defArgs (top 40)) (defBody (top 40)) (defScope (top 40)) .none kV19 dc19 pm19 an19 cd19 ct19), sl19⟩)
    (c19 : PySem.W.codeIn K cd19 "_law_alike" = true)
    (k19 : PySem.W.keepIn K (.ref f19) = true)
    (a20 : PySem.W.nsIn K mainGlobals "_law_web" = some (some (.ref f20)))
    (l20 : K.lookup f20 = some ⟨oc20, od20, .func (PySem.W.fnOf "_law_web" "_law_web" (defArgs (top 41)) (defBody (top 41)) (defScope (top 41)) .none kV20 dc20 pm20 an20 cd20 ct20), sl20⟩)
    (c20 : PySem.W.codeIn K cd20 "_law_web" = true)
    (k20 : PySem.W.keepIn K (.ref f20) = true)
    (a21 : PySem.W.nsIn K mainGlobals "_law_state" = some (some (.ref f21)))
    (l21 : K.lookup f21 = some ⟨oc21, od21, .func (PySem.W.fnOf "_law_state" "_law_state" (defArgs (top 42)) (defBody (top 42)) (defScope (top 42)) .none kV21 dc21 pm21 an21 cd21 ct21), sl21⟩)
    (c21 : PySem.W.codeIn K cd21 "_law_state" = true)
    (k21 : PySem.W.keepIn K (.ref f21) = true)
    (a22 : PySem.W.nsIn K mainGlobals "_law_refused" = some (some (.ref f22)))
    (l22 : K.lookup f22 = some ⟨oc22, od22, .func (PySem.W.fnOf "_law_refused" "_law_refused" (defArgs (top 43)) (defBody (top 43)) (defScope (top 43)) .none kV22 dc22 pm22 an22 cd22 ct22), sl22⟩)
    (c22 : PySem.W.codeIn K cd22 "_law_refused" = true)
    (k22 : PySem.W.keepIn K (.ref f22) = true)
    (a23 : PySem.W.nsIn K mainGlobals "_law_orders" = some (some (.ref f23)))
    (l23 : K.lookup f23 = some ⟨oc23, od23, .func (PySem.W.fnOf "_law_orders" "_law_orders" (defArgs (top 44)) (defBody (top 44)) (defScope (top 44)) .none kV23 dc23 pm23 an23 cd23 ct23), sl23⟩)
    (c23 : PySem.W.codeIn K cd23 "_law_orders" = true)
    (k23 : PySem.W.keepIn K (.ref f23) = true)
    (a24 : PySem.W.nsIn K mainGlobals "_law_named" = some (some (.ref f24)))
    (l24 : K.lookup f24 = some ⟨oc24, od24, .func (PySem.W.fnOf "_law_named" "_law_named" (defArgs (top 45)) (defBody (top 45)) (defScope (top 45)) .none kV24 dc24 pm24 an24 cd24 ct24), sl24⟩)
    (c24 : PySem.W.codeIn K cd24 "_law_named" = true)
    (k24 : PySem.W.keepIn K (.ref f24) = true)
    (a25 : PySem.W.nsIn K mainGlobals "law" = some (some (.ref f25)))
    (l25 : K.lookup f25 = some ⟨oc25, od25, .func (PySem.W.fnOf "law" "law" (defArgs (top 46)) (defBody (top 46)) (defScope (top 46)) .none kV25 dc25 pm25 an25 (.ref co) ct25), sl25⟩)
    (c25 : PySem.W.codeIn K (.ref co) "law" = true)
    (k25 : PySem.W.keepIn K (.ref f25) = true)
    (x_BadFolk : PySem.W.excIn K e_BadFolk vbm "ValueError.__new__" = true)
    (y_BadFolk : PySem.W.keepIn K (.ref e_BadFolk) = true)
    (b_BadFolk : PySem.W.subIn K (.ref e_BadFolk) (.type "BaseException") = some true)
    (t_BadFolk : PySem.W.typeIn K (.ref e_BadFolk) = some (.type "type"))
    (x_BadOrder : PySem.W.excIn K e_BadOrder vbm "ValueError.__new__" = true)
    (y_BadOrder : PySem.W.keepIn K (.ref e_BadOrder) = true)
    (b_BadOrder : PySem.W.subIn K (.ref e_BadOrder) (.type "BaseException") = some true)
    (t_BadOrder : PySem.W.typeIn K (.ref e_BadOrder) = some (.type "type"))
    (x_BadState : PySem.W.excIn K e_BadState vbm "ValueError.__new__" = true)
    (y_BadState : PySem.W.keepIn K (.ref e_BadState) = true)
    (b_BadState : PySem.W.subIn K (.ref e_BadState) (.type "BaseException") = some true)
    (t_BadState : PySem.W.typeIn K (.ref e_BadState) = some (.type "type"))
    (x_BadStreet : PySem.W.excIn K e_BadStreet vbm "ValueError.__new__" = true)
    (y_BadStreet : PySem.W.keepIn K (.ref e_BadStreet) = true)
    (b_BadStreet : PySem.W.subIn K (.ref e_BadStreet) (.type "BaseException") = some true)
    (t_BadStreet : PySem.W.typeIn K (.ref e_BadStreet) = some (.type "type"))
    (v_MOODS : PySem.W.nsIn K mainGlobals "MOODS" = some (some (.int 3 t_MOODS)))
    (v_MOST_FOLK : PySem.W.nsIn K mainGlobals "MOST_FOLK" = some (some (.int 10 t_MOST_FOLK)))
    (v_MOST_LIKE : PySem.W.nsIn K mainGlobals "MOST_LIKE" = some (some (.int 7 t_MOST_LIKE)))
    (v_MOST_NEW : PySem.W.nsIn K mainGlobals "MOST_NEW" = some (some (.int 9 t_MOST_NEW)))
    (z_all : PySem.W.nsIn K mainGlobals "all" = some none)
    (z_bool : PySem.W.nsIn K mainGlobals "bool" = some none)
    (z_int : PySem.W.nsIn K mainGlobals "int" = some none)
    (z_isinstance : PySem.W.nsIn K mainGlobals "isinstance" = some none)
    (z_len : PySem.W.nsIn K mainGlobals "len" = some none)
    (z_list : PySem.W.nsIn K mainGlobals "list" = some none)
    (z_max : PySem.W.nsIn K mainGlobals "max" = some none)
    (z_min : PySem.W.nsIn K mainGlobals "min" = some none)
    (z_range : PySem.W.nsIn K mainGlobals "range" = some none)
    (z_sorted : PySem.W.nsIn K mainGlobals "sorted" = some none)
    (z_str : PySem.W.nsIn K mainGlobals "str" = some none)
    (z_tuple : PySem.W.nsIn K mainGlobals "tuple" = some none)
    (z_zip : PySem.W.nsIn K mainGlobals "zip" = some none)
    (hC_BadWeb : K.lookup e_BadWeb = some (excClassObj nm_BadWeb q_BadWeb e_BadWeb NN_BadWeb bs_BadWeb bm_BadWeb true sn_BadWeb sub_BadWeb ab_BadWeb col_BadWeb dd_BadWeb k0_BadWeb k1_BadWeb k2_BadWeb k3_BadWeb k5_BadWeb "ValueError.__new__"))
    (bm1_BadWeb : PySem.HandSPX.refsVE bm_BadWeb = true)
    (sa_BadWeb : PySem.W.findIn K (.ref e_BadWeb) "__setattr__" = some (some (.builtin "object.__setattr__")))
    (b_BadWeb : PySem.W.subIn K (.ref e_BadWeb) (.type "BaseException") = some true)
    (t_BadWeb : PySem.W.typeIn K (.ref e_BadWeb) = some (.type "type"))
    (y_BadWeb : PySem.W.keepIn K (.ref e_BadWeb) = true)
    (iC_BadWeb : PySem.W.findIn K (.ref e_BadWeb) "__init__" = some (some (.ref fi_BadWeb)))
    (tI_BadWeb : PySem.W.typeIn K (.ref fi_BadWeb) = some (.type "function"))
    (lf_BadWeb : K.lookup fi_BadWeb = some ⟨oc_BadWeb, od_BadWeb, .func (PySem.W.fnX "__init__" "BadWeb.__init__" (defArgs (initOf (top 2))) (defBody (initOf (top 2))) (defScope (initOf (top 2))) [("__class__", cc_BadWeb)] .none kV_BadWeb doc_BadWeb pm_BadWeb an_BadWeb (.ref ca_BadWeb) ct_BadWeb), osl_BadWeb⟩)
    (cd_BadWeb : PySem.W.codeIn K (.ref ca_BadWeb) "BadWeb.__init__" = true)
    (lc_BadWeb : K.lookup ca_BadWeb = some ⟨ccl_BadWeb, cdd_BadWeb, .fields vs_BadWeb, ccs_BadWeb⟩)
    (hv_BadWeb : vs_BadWeb[2]? = some (.str file_BadWeb tf_BadWeb))
    (hf_BadWeb : ((l.prog.main.file : Str) == file_BadWeb) = true)
    (ht_BadWeb : (l.prog.main.scope.names.lookup ("super" : Str)).isSome = false)
    (ce_BadWeb : K.lookup cc_BadWeb = some ⟨cl_BadWeb, cld_BadWeb, .cell (some (.ref e_BadWeb)), csl_BadWeb⟩)
    (su_BadWeb : PySem.W.nsIn K mainGlobals "super" = some none)
    (op_BadWeb : PySem.W.nsIn K cStatics "thirdparty.any" = some none)
    (ms_BadWeb : PySem.W.mroIn K e_BadWeb (.ref e_BadWeb) = some true)
    (mv_BadWeb : PySem.W.mroIn K e_BadWeb (.type "ValueError") = some true)
    (ki_BadWeb : PySem.W.ks_superIn K e_BadWeb e_BadWeb "__init__" = some (some (.builtin "ValueError.__init__")))
    (no_BadWeb : PySem.W.findIn K (.ref e_BadWeb) "index" = some none)
    (hC_TooMany : K.lookup e_TooMany = some (excClassObj nm_TooMany q_TooMany e_TooMany NN_TooMany bs_TooMany bm_TooMany true sn_TooMany sub_TooMany ab_TooMany col_TooMany dd_TooMany k0_TooMany k1_TooMany k2_TooMany k3_TooMany k5_TooMany "ValueError.__new__"))
    (bm1_TooMany : PySem.HandSPX.refsVE bm_TooMany = true)
    (sa_TooMany : PySem.W.findIn K (.ref e_TooMany) "__setattr__" = some (some (.builtin "object.__setattr__")))
    (b_TooMany : PySem.W.subIn K (.ref e_TooMany) (.type "BaseException") = some true)
    (t_TooMany : PySem.W.typeIn K (.ref e_TooMany) = some (.type "type"))
    (y_TooMany : PySem.W.keepIn K (.ref e_TooMany) = true)
    (iC_TooMany : PySem.W.findIn K (.ref e_TooMany) "__init__" = some (some (.ref fi_TooMany)))
    (tI_TooMany : PySem.W.typeIn K (.ref fi_TooMany) = some (.type "function"))
    (lf_TooMany : K.lookup fi_TooMany = some ⟨oc_TooMany, od_TooMany, .func (PySem.W.fnX "__init__" "TooMany.__init__" (defArgs (initOf (top 12))) (defBody (initOf (top 12))) (defScope (initOf (top 12))) [("__class__", cc_TooMany)] .none kV_TooMany doc_TooMany pm_TooMany an_TooMany (.ref ca_TooMany) ct_TooMany), osl_TooMany⟩)
    (cd_TooMany : PySem.W.codeIn K (.ref ca_TooMany) "TooMany.__init__" = true)
    (lc_TooMany : K.lookup ca_TooMany = some ⟨ccl_TooMany, cdd_TooMany, .fields vs_TooMany, ccs_TooMany⟩)
    (hv_TooMany : vs_TooMany[2]? = some (.str file_TooMany tf_TooMany))
    (hf_TooMany : ((l.prog.main.file : Str) == file_TooMany) = true)
    (ht_TooMany : (l.prog.main.scope.names.lookup ("super" : Str)).isSome = false)
    (ce_TooMany : K.lookup cc_TooMany = some ⟨cl_TooMany, cld_TooMany, .cell (some (.ref e_TooMany)), csl_TooMany⟩)
    (su_TooMany : PySem.W.nsIn K mainGlobals "super" = some none)
    (op_TooMany : PySem.W.nsIn K cStatics "thirdparty.any" = some none)
    (ms_TooMany : PySem.W.mroIn K e_TooMany (.ref e_TooMany) = some true)
    (mv_TooMany : PySem.W.mroIn K e_TooMany (.type "ValueError") = some true)
    (ki_TooMany : PySem.W.ks_superIn K e_TooMany e_TooMany "__init__" = some (some (.builtin "ValueError.__init__")))
    (no_TooMany : PySem.W.findIn K (.ref e_TooMany) "most" = some none)
    (nde : [e_BadState, e_BadFolk, e_BadNumber, e_BadStreet, e_BadOrder, e_NotResting, e_NotText].Nodup)
    (erb : errB K e_MoodError [e_BadWeb, e_BadWalk, e_TooMany, e_InvalidText] [e_BadState, e_BadFolk, e_BadNumber, e_BadStreet, e_BadOrder, e_NotResting, e_NotText] = true)
    (ndf : [e_BadWeb, e_BadWalk, e_TooMany, e_InvalidText].Nodup)
    (flb : fldB K e_MoodError [e_BadWeb, e_BadWalk, e_TooMany, e_InvalidText] = true)
    (nP : K.lookup tbA = none)
    (cP : PySem.W.codeHdIn K co tbA = true)
    (hP : h.get? tbA = some { cls := .none, data := .fields #[] })
    : LawAtS l w K (L2.CX l.prog w) 64 63 "_law_script" mg fa h := by
  have e0 := hfa.symm.trans (PySem.W.mg_of KX G a25)
  cases e0
  have B : Bs l.prog w K mg := ⟨⟨e_BadFolk, PySem.W.mg_of KX G n_BadFolk, x_BadFolk, y_BadFolk, b_BadFolk, t_BadFolk⟩, ⟨e_BadOrder, PySem.W.mg_of KX G n_BadOrder, x_BadOrder, y_BadOrder, b_BadOrder, t_BadOrder⟩, ⟨e_BadState, PySem.W.mg_of KX G n_BadState, x_BadState, y_BadState, b_BadState, t_BadState⟩, ⟨e_BadStreet, PySem.W.mg_of KX G n_BadStreet, x_BadStreet, y_BadStreet, b_BadStreet, t_BadStreet⟩, ⟨_, PySem.W.mg_of KX G v_MOODS⟩, ⟨_, PySem.W.mg_of KX G v_MOST_FOLK⟩, ⟨_, PySem.W.mg_of KX G v_MOST_LIKE⟩, ⟨_, PySem.W.mg_of KX G v_MOST_NEW⟩, PySem.W.mg_none_of KX G z_all, PySem.W.mg_none_of KX G z_bool, PySem.W.mg_none_of KX G z_int, PySem.W.mg_none_of KX G z_isinstance, PySem.W.mg_none_of KX G z_len, PySem.W.mg_none_of KX G z_list, PySem.W.mg_none_of KX G z_max, PySem.W.mg_none_of KX G z_min, PySem.W.mg_none_of KX G z_range, PySem.W.mg_none_of KX G z_sorted, PySem.W.mg_none_of KX G z_str, PySem.W.mg_none_of KX G z_tuple, PySem.W.mg_none_of KX G z_zip, erf_of (fld := "index") (x := "index") (PySem.W.mg_of KX G n_BadWeb) hC_BadWeb bm1_BadWeb sa_BadWeb b_BadWeb t_BadWeb y_BadWeb iC_BadWeb tI_BadWeb lf_BadWeb cd_BadWeb lc_BadWeb hv_BadWeb hf_BadWeb ht_BadWeb ce_BadWeb (PySem.W.mg_none_of KX G su_BadWeb) op_BadWeb ms_BadWeb mv_BadWeb ki_BadWeb no_BadWeb, erf_of (fld := "most") (x := "most") (PySem.W.mg_of KX G n_TooMany) hC_TooMany bm1_TooMany sa_TooMany b_TooMany t_TooMany y_TooMany iC_TooMany tI_TooMany lf_TooMany cd_TooMany lc_TooMany hv_TooMany hf_TooMany ht_TooMany ce_TooMany (PySem.W.mg_none_of KX G su_TooMany) op_TooMany ms_TooMany mv_TooMany ki_TooMany no_TooMany⟩
  have F0 := fun_mk (st := top 15) l0 c0 k0
  have B0 := F0.binds (ps := ["value", "low", "high"]) fun _ _ _ _ _ _ us hl => match us, hl with | [_, _, _], _ => rfl
  have F1 := fun_mk (st := top 16) l1 c1 k1
  have B1 := F1.binds (ps := ["folk", "value"]) fun _ _ _ _ _ _ us hl => match us, hl with | [_, _], _ => rfl
  have F2 := fun_mk (st := top 17) l2 c2 k2
  have B2 := F2.binds (ps := ["value"]) fun _ _ _ _ _ _ us hl => match us, hl with | [_], _ => rfl
  have F3 := fun_mk (st := top 18) l3 c3 k3
  have B3 := F3.binds (ps := ["web", "value"]) fun _ _ _ _ _ _ us hl => match us, hl with | [_, _], _ => rfl
  have F4 := fun_mk (st := top 19) l4 c4 k4
  have B4 := F4.binds (ps := ["web", "one", "other"]) fun _ _ _ _ _ _ us hl => match us, hl with | [_, _, _], _ => rfl
  have F5 := fun_mk (st := top 22) l5 c5 k5
  have B5 := F5.binds (ps := ["value", "many"]) fun _ _ _ _ _ _ us hl => match us, hl with | [_, _], _ => rfl
  have F6 := fun_mk (st := top 23) l6 c6 k6
  have B6 := F6.binds (ps := ["web", "state"]) fun _ _ _ _ _ _ us hl => match us, hl with | [_, _], _ => rfl
  have F7 := fun_mk (st := top 27) l7 c7 k7
  have B7 := F7.binds (ps := ["web", "a", "b", "is_there"]) fun _ _ _ _ _ _ us hl => match us, hl with | [_, _, _, _], _ => rfl
  have F8 := fun_mk (st := top 28) l8 c8 k8
  have B8 := F8.binds (ps := ["web", "a", "b"]) fun _ _ _ _ _ _ us hl => match us, hl with | [_, _, _], _ => rfl
  have F9 := fun_mk (st := top 29) l9 c9 k9
  have B9 := F9.binds (ps := ["web", "a", "b"]) fun _ _ _ _ _ _ us hl => match us, hl with | [_, _, _], _ => rfl
  have F10 := fun_mk (st := top 30) l10 c10 k10
  have B10 := F10.binds (ps := ["web", "a", "b"]) fun _ _ _ _ _ _ us hl => match us, hl with | [_, _, _], _ => rfl
  have F11 := fun_mk (st := top 31) l11 c11 k11
  have B11 := F11.binds (ps := ["web", "other"]) fun _ _ _ _ _ _ us hl => match us, hl with | [_, _], _ => rfl
  have F12 := fun_mk (st := top 32) l12 c12 k12
  have B12 := F12.binds (ps := ["web", "state", "a", "b", "moods"]) fun _ _ _ _ _ _ us hl => match us, hl with | [_, _, _, _, _], _ => rfl
  have F13 := fun_mk (st := top 33) l13 c13 k13
  have B13 := F13.binds (ps := ["web", "state", "order"]) fun _ _ _ _ _ _ us hl => match us, hl with | [_, _, _], _ => rfl
  have F14 := fun_mk (st := top 34) l14 c14 k14
  have B14 := F14.binds (ps := ["web", "state", "order"]) fun _ _ _ _ _ _ us hl => match us, hl with | [_, _, _], _ => rfl
  have F15 := fun_mk (st := top 35) l15 c15 k15
  have B15 := F15.binds (ps := ["many"]) fun _ _ _ _ _ _ us hl => match us, hl with | [_], _ => rfl
  have F16 := fun_mk (st := top 36) l16 c16 k16
  have B16 := F16.binds (ps := ["web", "state"]) fun _ _ _ _ _ _ us hl => match us, hl with | [_, _], _ => rfl
  have F17 := fun_mk (st := top 38) l17 c17 k17
  have B17 := F17.binds (ps := ["_law_row", "_law_many"]) fun _ _ _ _ _ _ us hl => match us, hl with | [_, _], _ => rfl
  have F18 := fun_mk (st := top 39) l18 c18 k18
  have B18 := F18.binds (ps := ["_law_row", "_law_things"]) fun _ _ _ _ _ _ us hl => match us, hl with | [_, _], _ => rfl
  have F19 := fun_mk (st := top 40) l19 c19 k19
  have B19 := F19.binds (ps := ["_law_found", "_law_due"]) fun _ _ _ _ _ _ us hl => match us, hl with | [_, _], _ => rfl
  have F20 := fun_mk (st := top 41) l20 c20 k20
  have B20 := F20.binds (ps := ["_law_row", "_law_most"]) fun _ _ _ _ _ _ us hl => match us, hl with | [_, _], _ => rfl
  have F21 := fun_mk (st := top 42) l21 c21 k21
  have B21 := F21.binds (ps := ["_law_row", "_law_web_here"]) fun _ _ _ _ _ _ us hl => match us, hl with | [_, _], _ => rfl
  have F22 := fun_mk (st := top 43) l22 c22 k22
  have B22 := F22.binds (ps := ["_law_work"]) fun _ _ _ _ _ _ us hl => match us, hl with | [_], _ => rfl
  have F23 := fun_mk (st := top 44) l23 c23 k23
  have B23 := F23.binds (ps := ["_law_many"]) fun _ _ _ _ _ _ us hl => match us, hl with | [_], _ => rfl
  have F24 := fun_mk (st := top 45) l24 c24 k24
  have B24 := F24.binds (ps := ["_law_web_here", "_law_state_here", "_law_order"]) fun _ _ _ _ _ _ us hl => match us, hl with | [_, _, _], _ => rfl
  have hE : Errs K mg := ⟨⟨_, _, _, _, _, _, _, _, _, _, _, _, PySem.W.mg_of KX G n_MoodError, PySem.W.mg_of KX G n_BadWeb, PySem.W.mg_of KX G n_BadWalk, PySem.W.mg_of KX G n_TooMany, PySem.W.mg_of KX G n_InvalidText, PySem.W.mg_of KX G n_BadState, PySem.W.mg_of KX G n_BadFolk, PySem.W.mg_of KX G n_BadNumber, PySem.W.mg_of KX G n_BadStreet, PySem.W.mg_of KX G n_BadOrder, PySem.W.mg_of KX G n_NotResting, PySem.W.mg_of KX G n_NotText, nde, erb, ndf, flb⟩⟩
  refine ⟨PySem.W.fnOf "law" "law" (defArgs (top 46)) (defBody (top 46)) (defScope (top 46)) .none kV25 dc25 pm25 an25 (.ref co) ct25, [(co, tbA)], spM K [(tbA, (("law" : Str) ++ ".<locals>.") ++ "<lambda>")] mg 1 f_law, ?_, ?_, ?_, fun s v => .of_eq rfl, fun H a ns hl hb hT hS => law_sp ?_ hS (law_true ns hl hb), fun base KB GB TB => ?_⟩
  · intro p hp; rw [List.mem_singleton.mp hp]; exact hP
  · intro p hp; rw [List.mem_singleton.mp hp]; exact nP
  · intro p hp; rw [List.mem_singleton.mp hp]; exact PySem.W.codeHd_of_K KX cP
  · intro t ht; rw [List.mem_singleton.mp ht]; exact hT (co, tbA) List.mem_cons_self
  · have C0 := ok_is_number (P := l.prog) (w := w) (base := base) (T := [(tbA, (("law" : Str) ++ ".<locals>.") ++ "<lambda>")]) B  F0 (PySem.W.mg_of KX G a0) B0
    have C1 := ok_is_street (P := l.prog) (w := w) (base := base) (T := [(tbA, (("law" : Str) ++ ".<locals>.") ++ "<lambda>")]) B C0 F1 (PySem.W.mg_of KX G a1) B1
    have C2 := ok_need_web (P := l.prog) (w := w) (base := base) (T := [(tbA, (("law" : Str) ++ ".<locals>.") ++ "<lambda>")]) B C0 C1 F2 (PySem.W.mg_of KX G a2) B2
    have C3 := ok_need_one (P := l.prog) (w := w) (base := base) (T := [(tbA, (("law" : Str) ++ ".<locals>.") ++ "<lambda>")]) B C0 F3 (PySem.W.mg_of KX G a3) B3
    have C4 := ok_are_neighbours (P := l.prog) (w := w) (base := base) (T := [(tbA, (("law" : Str) ++ ".<locals>.") ++ "<lambda>")]) B  F4 (PySem.W.mg_of KX G a4) B4
    have C5 := ok_are_moods (P := l.prog) (w := w) (base := base) (T := [(tbA, (("law" : Str) ++ ".<locals>.") ++ "<lambda>")]) B C0 F5 (PySem.W.mg_of KX G a5) B5
    have C6 := ok_need_both (P := l.prog) (w := w) (base := base) (T := [(tbA, (("law" : Str) ++ ".<locals>.") ++ "<lambda>")]) B C2 C5 F6 (PySem.W.mg_of KX G a6) B6
    have C7 := ok_need_ends (P := l.prog) (w := w) (base := base) (T := [(tbA, (("law" : Str) ++ ".<locals>.") ++ "<lambda>")]) B C3 C4 F7 (PySem.W.mg_of KX G a7) B7
    have C8 := ok_with_street (P := l.prog) (w := w) (base := base) (T := [(tbA, (("law" : Str) ++ ".<locals>.") ++ "<lambda>")]) B C2 C7 F8 (PySem.W.mg_of KX G a8) B8
    have C9 := ok_without (P := l.prog) (w := w) (base := base) (T := [(tbA, (("law" : Str) ++ ".<locals>.") ++ "<lambda>")]) B  F9 (PySem.W.mg_of KX G a9) B9
    have C10 := ok_without_street (P := l.prog) (w := w) (base := base) (T := [(tbA, (("law" : Str) ++ ".<locals>.") ++ "<lambda>")]) B C2 C7 C9 F10 (PySem.W.mg_of KX G a10) B10
    have C11 := ok_joined (P := l.prog) (w := w) (base := base) (T := [(tbA, (("law" : Str) ++ ".<locals>.") ++ "<lambda>")]) B C2 F11 (PySem.W.mg_of KX G a11) B11
    have C12 := ok_stretched (P := l.prog) (w := w) (base := base) (T := [(tbA, (("law" : Str) ++ ".<locals>.") ++ "<lambda>")]) B C5 C6 C7 C9 F12 (PySem.W.mg_of KX G a12) B12
    have C13 := ok_named (P := l.prog) (w := w) (base := base) (T := [(tbA, (("law" : Str) ++ ".<locals>.") ++ "<lambda>")]) B  F13 (PySem.W.mg_of KX G a13) B13
    have C14 := ok_renamed (P := l.prog) (w := w) (base := base) (T := [(tbA, (("law" : Str) ++ ".<locals>.") ++ "<lambda>")]) B C0 C6 C13 F14 (PySem.W.mg_of KX G a14) B14
    have C15 := ok_orders_of (P := l.prog) (w := w) (base := base) (T := [(tbA, (("law" : Str) ++ ".<locals>.") ++ "<lambda>")]) B  F15 (PySem.W.mg_of KX G a15) B15
    have C16 := ok_likenesses (P := l.prog) (w := w) (base := base) (T := [(tbA, (("law" : Str) ++ ".<locals>.") ++ "<lambda>")]) B C6 C13 C15 F16 (PySem.W.mg_of KX G a16) B16
    have C17 := ok__law_taken (P := l.prog) (w := w) (base := base) (T := [(tbA, (("law" : Str) ++ ".<locals>.") ++ "<lambda>")]) B  F17 (PySem.W.mg_of KX G a17) B17
    have C18 := ok__law_pick (P := l.prog) (w := w) (base := base) (T := [(tbA, (("law" : Str) ++ ".<locals>.") ++ "<lambda>")]) B C17 F18 (PySem.W.mg_of KX G a18) B18
    have C19 := (rec__law_alike (P := l.prog) (w := w) (base := base) (T := [(tbA, (("law" : Str) ++ ".<locals>.") ++ "<lambda>")]) B F19 (PySem.W.mg_of KX G a19) B19 50).mono (j := 61) (by decide)
    have C20 := ok__law_web (P := l.prog) (w := w) (base := base) (T := [(tbA, (("law" : Str) ++ ".<locals>.") ++ "<lambda>")]) B C17 F20 (PySem.W.mg_of KX G a20) B20
    have C21 := ok__law_state (P := l.prog) (w := w) (base := base) (T := [(tbA, (("law" : Str) ++ ".<locals>.") ++ "<lambda>")]) B C17 F21 (PySem.W.mg_of KX G a21) B21
    have C23 := ok__law_orders (P := l.prog) (w := w) (base := base) (T := [(tbA, (("law" : Str) ++ ".<locals>.") ++ "<lambda>")]) B  F23 (PySem.W.mg_of KX G a23) B23
    have C24 := ok__law_named (P := l.prog) (w := w) (base := base) (T := [(tbA, (("law" : Str) ++ ".<locals>.") ++ "<lambda>")]) B  F24 (PySem.W.mg_of KX G a24) B24
    exact ok_law B hE C8 C10 C11 C12 C14 C16 C17 C18 C19 C20 C21 C23 C24 (TB (co, tbA) List.mem_cons_self) F22 (PySem.W.mg_of KX G a22) B22 l25 c25 k25
end MP
open PySem PySem.W PyProof.Rows
set_option maxHeartbeats 0 in
theorem PySem.Challenge.cw_threemoods_k16_whole_other_webs_holds : PySem.Challenge.rw_threemoods_k16_whole_other_webs.Holds := by
  w_on; o_law; k_head; (case hw => w_witness2)
  k_fill
  refine LamX.walk_ofTs (l := PySem.Challenge.rw_threemoods_k16_whole_other_webs) (n := 63) (k := 64) (x := "_law_script") (CX := fun w => L2.CX PySem.Challenge.rw_threemoods_k16_whole_other_webs.prog w) rfl (by decide) rfl ⟨rfl, by decide, by decide⟩ (fun w h Y => PySem.W.km_in_of Y) ?F (fun _ _ _ _ _ h => MP.cx_no h)
  case F =>
    intro w mg fa h Y KX G hmg
    refine' MP.law_mk KX G hmg ?n_MoodError ?n_BadWeb ?n_BadWalk ?n_TooMany ?n_InvalidText ?n_BadState ?n_BadFolk ?n_BadNumber ?n_BadStreet ?n_BadOrder ?n_NotResting ?n_NotText ?a0 ?l0 ?c0 ?k0 ?a1 ?l1 ?c1 ?k1 ?a2 ?l2 ?c2 ?k2 ?a3 ?l3 ?c3 ?k3 ?a4 ?l4 ?c4 ?k4 ?a5 ?l5 ?c5 ?k5 ?a6 ?l6 ?c6 ?k6 ?a7 ?l7 ?c7 ?k7 ?a8 ?l8 ?c8 ?k8 ?a9 ?l9 ?c9 ?k9 ?a10 ?l10 ?c10 ?k10 ?a11 ?l11 ?c11 ?k11 ?a12 ?l12 ?c12 ?k12 ?a13 ?l13 ?c13 ?k13 ?a14 ?l14 ?c14 ?k14 ?a15 ?l15 ?c15 ?k15 ?a16 ?l16 ?c16 ?k16 ?a17 ?l17 ?c17 ?k17 ?a18 ?l18 ?c18 ?k18 ?a19 ?l19 ?c19 ?k19 ?a20 ?l20 ?c20 ?k20 ?a21 ?l21 ?c21 ?k21 ?a22 ?l22 ?c22 ?k22 ?a23 ?l23 ?c23 ?k23 ?a24 ?l24 ?c24 ?k24 ?a25 ?l25 ?c25 ?k25 ?x_BadFolk ?y_BadFolk ?b_BadFolk ?t_BadFolk ?x_BadOrder ?y_BadOrder ?b_BadOrder ?t_BadOrder ?x_BadState ?y_BadState ?b_BadState ?t_BadState ?x_BadStreet ?y_BadStreet ?b_BadStreet ?t_BadStreet ?v_MOODS ?v_MOST_FOLK ?v_MOST_LIKE ?v_MOST_NEW ?z_all ?z_bool ?z_int ?z_isinstance ?z_len ?z_list ?z_max ?z_min ?z_range ?z_sorted ?z_str ?z_tuple ?z_zip ?hC_BadWeb ?bm1_BadWeb ?sa_BadWeb ?b_BadWeb ?t_BadWeb ?y_BadWeb ?iC_BadWeb ?tI_BadWeb ?lf_BadWeb ?cd_BadWeb ?lc_BadWeb ?hv_BadWeb ?hf_BadWeb ?ht_BadWeb ?ce_BadWeb ?su_BadWeb ?op_BadWeb ?ms_BadWeb ?mv_BadWeb ?ki_BadWeb ?no_BadWeb ?hC_TooMany ?bm1_TooMany ?sa_TooMany ?b_TooMany ?t_TooMany ?y_TooMany ?iC_TooMany ?tI_TooMany ?lf_TooMany ?cd_TooMany ?lc_TooMany ?hv_TooMany ?hf_TooMany ?ht_TooMany ?ce_TooMany ?su_TooMany ?op_TooMany ?ms_TooMany ?mv_TooMany ?ki_TooMany ?no_TooMany ?nde ?erb ?ndf ?flb ?nP ?cP ?hP
    (case hP => exact PySem.W.km_tabs_of Y _ List.mem_cons_self)
    (case n_MoodError => k_is)
    (case n_BadWeb => k_is)
    (case n_BadWalk => k_is)
    (case n_TooMany => k_is)
    (case n_InvalidText => k_is)
    (case n_BadState => k_is)
    (case n_BadFolk => k_is)
    (case n_BadNumber => k_is)
    (case n_BadStreet => k_is)
    (case n_BadOrder => k_is)
    (case n_NotResting => k_is)
    (case n_NotText => k_is)
    (case a0 => k_is)
    (case l0 => k_is)
    (case c0 => k_is)
    (case k0 => k_is)
    (case a1 => k_is)
    (case l1 => k_is)
    (case c1 => k_is)
    (case k1 => k_is)
    (case a2 => k_is)
    (case l2 => k_is)
    (case c2 => k_is)
    (case k2 => k_is)
    (case a3 => k_is)
    (case l3 => k_is)
    (case c3 => k_is)
    (case k3 => k_is)
    (case a4 => k_is)
    (case l4 => k_is)
    (case c4 => k_is)
    (case k4 => k_is)
    (case a5 => k_is)
    (case l5 => k_is)
    (case c5 => k_is)
    (case k5 => k_is)
    (case a6 => k_is)
    (case l6 => k_is)
    (case c6 => k_is)
    (case k6 => k_is)
    (case a7 => k_is)
    (case l7 => k_is)
    (case c7 => k_is)
    (case k7 => k_is)
    (case a8 => k_is)
    (case l8 => k_is)
    (case c8 => k_is)
    (case k8 => k_is)
    (case a9 => k_is)
    (case l9 => k_is)
    (case c9 => k_is)
    (case k9 => k_is)
    (case a10 => k_is)
    (case l10 => k_is)
    (case c10 => k_is)
    (case k10 => k_is)
    (case a11 => k_is)
    (case l11 => k_is)
    (case c11 => k_is)
    (case k11 => k_is)
    (case a12 => k_is)
    (case l12 => k_is)
    (case c12 => k_is)
    (case k12 => k_is)
    (case a13 => k_is)
    (case l13 => k_is)
    (case c13 => k_is)
    (case k13 => k_is)
    (case a14 => k_is)
    (case l14 => k_is)
    (case c14 => k_is)
    (case k14 => k_is)
    (case a15 => k_is)
    (case l15 => k_is)
    (case c15 => k_is)
    (case k15 => k_is)
    (case a16 => k_is)
    (case l16 => k_is)
    (case c16 => k_is)
    (case k16 => k_is)
    (case a17 => k_is)
    (case l17 => k_is)
    (case c17 => k_is)
    (case k17 => k_is)
    (case a18 => k_is)
    (case l18 => k_is)
    (case c18 => k_is)
    (case k18 => k_is)
    (case a19 => k_is)
    (case l19 => k_is)
    (case c19 => k_is)
    (case k19 => k_is)
    (case a20 => k_is)
    (case l20 => k_is)
    (case c20 => k_is)
    (case k20 => k_is)
    (case a21 => k_is)
    (case l21 => k_is)
    (case c21 => k_is)
    (case k21 => k_is)
    (case a22 => k_is)
    (case l22 => k_is)
    (case c22 => k_is)
    (case k22 => k_is)
    (case a23 => k_is)
    (case l23 => k_is)
    (case c23 => k_is)
    (case k23 => k_is)
    (case a24 => k_is)
    (case l24 => k_is)
    (case c24 => k_is)
    (case k24 => k_is)
    (case a25 => k_is)
    (case l25 => k_is)
    (case c25 => k_is)
    (case k25 => k_is)
    (case x_BadFolk => k_exc)
    (case y_BadFolk => k_is)
    (case b_BadFolk => k_is)
    (case t_BadFolk => k_is)
    (case x_BadOrder => k_exc)
    (case y_BadOrder => k_is)
    (case b_BadOrder => k_is)
    (case t_BadOrder => k_is)
    (case x_BadState => k_exc)
    (case y_BadState => k_is)
    (case b_BadState => k_is)
    (case t_BadState => k_is)
    (case x_BadStreet => k_exc)
    (case y_BadStreet => k_is)
    (case b_BadStreet => k_is)
    (case t_BadStreet => k_is)
    (case v_MOODS => k_is)
    (case v_MOST_FOLK => k_is)
    (case v_MOST_LIKE => k_is)
    (case v_MOST_NEW => k_is)
    (case z_all => k_is)
    (case z_bool => k_is)
    (case z_int => k_is)
    (case z_isinstance => k_is)
    (case z_len => k_is)
    (case z_list => k_is)
    (case z_max => k_is)
    (case z_min => k_is)
    (case z_range => k_is)
    (case z_sorted => k_is)
    (case z_str => k_is)
    (case z_tuple => k_is)
    (case z_zip => k_is)
    (case hC_BadWeb => k_is)
    (case bm1_BadWeb => kernel_rfl)
    (case sa_BadWeb => k_is)
    (case b_BadWeb => k_is)
    (case t_BadWeb => k_is)
    (case y_BadWeb => k_is)
    (case iC_BadWeb => k_is)
    (case tI_BadWeb => k_is)
    (case lf_BadWeb => k_is)
    (case cd_BadWeb => k_is)
    (case lc_BadWeb => k_is)
    (case hv_BadWeb => rfl)
    (case hf_BadWeb => kernel_rfl)
    (case ht_BadWeb => kernel_rfl)
    (case ce_BadWeb => k_is)
    (case su_BadWeb => k_is)
    (case op_BadWeb => k_is)
    (case ms_BadWeb => k_is)
    (case mv_BadWeb => k_is)
    (case ki_BadWeb => kernel_rfl)
    (case no_BadWeb => k_is)
    (case hC_TooMany => k_is)
    (case bm1_TooMany => kernel_rfl)
    (case sa_TooMany => k_is)
    (case b_TooMany => k_is)
    (case t_TooMany => k_is)
    (case y_TooMany => k_is)
    (case iC_TooMany => k_is)
    (case tI_TooMany => k_is)
    (case lf_TooMany => k_is)
    (case cd_TooMany => k_is)
    (case lc_TooMany => k_is)
    (case hv_TooMany => rfl)
    (case hf_TooMany => kernel_rfl)
    (case ht_TooMany => kernel_rfl)
    (case ce_TooMany => k_is)
    (case su_TooMany => k_is)
    (case op_TooMany => k_is)
    (case ms_TooMany => k_is)
    (case mv_TooMany => k_is)
    (case ki_TooMany => kernel_rfl)
    (case no_TooMany => k_is)
    (case nde => decide)
    (case erb => kernel_rfl)
    (case ndf => decide)
    (case flb => kernel_rfl)
    (case nP => kernel_rfl)
    (case cP => kernel_rfl)
#print axioms PySem.Challenge.cw_threemoods_k16_whole_other_webs_holds
