import PyProof.Rows.All
import Wide.All
import OpenK.AllK
import Wide.FinOn
import HandS.EndTab
import HandS.ForMost
import HandS.ForExc
import HandS.Wide
import HandS.IsInst
import HandS.Deep
import HandS.SortInts
import HandS.TupAny
import HandS.Lambda
import HandS.Small
import HandS.Style
import HandS.ExcIs
import HandS.TupLe
import HandS.TupMul
import HandS.Conv
import HandS.SortRule
import HandS.ExcField
import HandS.SetFor
import KE.GoesEnum
import KE.KDflt
import KE.KDictDisplayH
import HandS.TupSets
import KE.SortData
import HandS.ExcInit
import HandS.Nested
import KE.KExcSuper
import HandS.Strs
import HandS.Iter
import HandS.Text
import HandS.DictComp
import KE.SortKeyHeap
import HandS.SortKw
import PySem.Challenge.RW_threemoods_k15_whole_few_folk
set_option Elab.async false
set_option linter.all false
set_option maxHeartbeats 4000000
set_option maxRecDepth 100000
set_option autoImplicit true
namespace MP
open PySem PySem.Spec PyProof.Rows L2
abbrev D := PyData
def keyD : Key → D
  | .inl i => .int i
  | .inr x => .str x
mutual
def Rp (K : PySem.W.Frag) (G : Hp) : D → V → Prop
  | .none, v => v = .non
  | .bool b, v => v = .bl b
  | .int i, v => v = .int i
  | .str x, v => v = .str x
  | .list ds, v => ∃ a xs, v = .ref a ∧ G a = some (.lst xs) ∧ RpL K G ds xs
  | .tuple ds, v => ∃ a xs, v = .ref a ∧ G a = some (.tup xs) ∧ RpL K G ds xs
  | .dict kvs, v => ∃ a, v = .ref a ∧ ((∃ es, G a = some (.dK es) ∧ RpK K G kvs es) ∨ (∃ es, G a = some (.dT es) ∧ RpT K G kvs es) ∨ ∃ ns : List Int, kvs = [(.none, .list (ns.map PyData.int))] ∧ SqL K G a (ns.map V.int))
def RpL (K : PySem.W.Frag) (G : Hp) : List D → List V → Prop
  | [], vs => vs = []
  | d :: ds, vs => ∃ v r, vs = v :: r ∧ Rp K G d v ∧ RpL K G ds r
def RpK (K : PySem.W.Frag) (G : Hp) : List (D × D) → List (Key × V) → Prop
  | [], es => es = []
  | (k, d) :: ds, es => ∃ x v r, es = (x, v) :: r ∧ k = keyD x ∧ Rp K G d v ∧ RpK K G ds r
def RpT (K : PySem.W.Frag) (G : Hp) : List (D × D) → List (List Key × V) → Prop
  | [], es => es = []
  | (k, d) :: ds, es => ∃ xs v r, es = (xs, v) :: r ∧ k = .tuple (xs.map keyD) ∧ Rp K G d v ∧ RpT K G ds r
end
def isD : HO → Bool
  | .dK es => !es.isEmpty
  | .dT es => !es.isEmpty
  | _ => false
/-- what G tells, H tells; a dict may be locked -/
def Sub (G H : Hp) : Prop := (∀ a u, G a = some u → H a = some u ∨ (isD u = true ∧ ∃ o, H a = some (.frz o u))) ∧ ∀ a ps, G a ≠ some (.tbl ps)
theorem NoT.upd {G : Hp} {p : Addr} {o : HO} (n : ∀ a ps, G a ≠ some (.tbl ps)) (h : ∀ ps, o ≠ .tbl ps) : ∀ a ps, L2.upd G p o a ≠ some (.tbl ps) := fun a ps e => by
  by_cases z : a = p
  · rw [z, upd_same] at e
    exact h ps (Option.some.inj e)
  · rw [upd_ne z] at e
    exact n a ps e
def GLe (G G' : Hp) : Prop := ∀ a u, G a = some u → G' a = some u
theorem GLe.refl (G : Hp) : GLe G G := fun _ _ h => h
theorem GLe.trans {G H J : Hp} (a : GLe G H) (b : GLe H J) : GLe G J := fun x u h => b x u (a x u h)
theorem Sub.rd {G H : Hp} (s : Sub G H) {a : Addr} {u : HO} (h : G a = some u) : Rd H a u := by
  rcases s.1 a u h with h | ⟨_, o, h⟩
  · exact .inl h
  · exact .inr ⟨o, h⟩
theorem Sub.lst {G H : Hp} (s : Sub G H) {a : Addr} {xs : List V} (h : G a = some (.lst xs)) : H a = some (.lst xs) := by
  rcases s.1 a _ h with h | ⟨z, _⟩
  · exact h
  · cases z
theorem Sub.tup {G H : Hp} (s : Sub G H) {a : Addr} {xs : List V} (h : G a = some (.tup xs)) : H a = some (.tup xs) := by
  rcases s.1 a _ h with h | ⟨z, _⟩
  · exact h
  · cases z
theorem Sub.frz {G H : Hp} (s : Sub G H) {a : Addr} {o : Obj} {u : HO} (h : G a = some (.frz o u)) : H a = some (.frz o u) := by
  rcases s.1 a _ h with h | ⟨z, _⟩
  · exact h
  · cases z
theorem GLe.upd {G : Hp} {p : Addr} {o : HO} (h : G p = none) : GLe G (upd G p o) := fun a u e => by
  rw [upd_ne (ne_of_none e h)]
  exact e
theorem Sub.sqL {K : PySem.W.Frag} {G H : Hp} {a : Addr} {xs : List V} (s : Sub G H) (h : SqL K G a xs) : SqL K H a xs := by
  rcases h with (h | ⟨o, h⟩) | h
  · exact .inl (.inl (s.lst h))
  · exact .inl (.inr ⟨o, s.frz h⟩)
  · exact .inr h
theorem GLe.sqL {K : PySem.W.Frag} {G H : Hp} {a : Addr} {xs : List V} (s : GLe G H) (h : SqL K G a xs) : SqL K H a xs := by
  rcases h with (h | ⟨o, h⟩) | h
  · exact .inl (.inl (s _ _ h))
  · exact .inl (.inr ⟨o, s _ _ h⟩)
  · exact .inr h
mutual
theorem Rp.mono {K : PySem.W.Frag} {G H : Hp} (s : GLe G H) : ∀ (d : D) (v : V), Rp K G d v → Rp K H d v
  | .none, _, h => h
  | .bool _, _, h => h
  | .int _, _, h => h
  | .str _, _, h => h
  | .list ds, v, h => by
    obtain ⟨a, xs, e, q, r⟩ := h
    exact ⟨a, xs, e, s _ _ q, RpL.mono s ds xs r⟩
  | .tuple ds, v, h => by
    obtain ⟨a, xs, e, q, r⟩ := h
    exact ⟨a, xs, e, s _ _ q, RpL.mono s ds xs r⟩
  | .dict kvs, v, h => by
    obtain ⟨a, e, ⟨es, q, r⟩ | ⟨es, q, r⟩ | ⟨ns, q, r⟩⟩ := h
    · exact ⟨a, e, .inl ⟨es, s _ _ q, RpK.mono s kvs es r⟩⟩
    · exact ⟨a, e, .inr (.inl ⟨es, s _ _ q, RpT.mono s kvs es r⟩)⟩
    · exact ⟨a, e, .inr (.inr ⟨ns, q, s.sqL r⟩)⟩
theorem RpL.mono {K : PySem.W.Frag} {G H : Hp} (s : GLe G H) : ∀ (ds : List D) (vs : List V), RpL K G ds vs → RpL K H ds vs
  | [], _, h => h
  | d :: ds, _, ⟨v, r, e, h, t⟩ => ⟨v, r, e, Rp.mono s d v h, RpL.mono s ds r t⟩
theorem RpK.mono {K : PySem.W.Frag} {G H : Hp} (s : GLe G H) : ∀ (ds : List (D × D)) (vs : List (Key × V)), RpK K G ds vs → RpK K H ds vs
  | [], _, h => h
  | (_, d) :: ds, _, ⟨x, v, r, e, k, h, t⟩ => ⟨x, v, r, e, k, Rp.mono s d v h, RpK.mono s ds r t⟩
theorem RpT.mono {K : PySem.W.Frag} {G H : Hp} (s : GLe G H) : ∀ (ds : List (D × D)) (vs : List (List Key × V)), RpT K G ds vs → RpT K H ds vs
  | [], _, h => h
  | (_, d) :: ds, _, ⟨x, v, r, e, k, h, t⟩ => ⟨x, v, r, e, k, Rp.mono s d v h, RpT.mono s ds r t⟩
end
section
variable {K : PySem.W.Frag} {G H : Hp}
theorem RpL.length : ∀ {ds : List D} {vs : List V}, RpL K G ds vs → vs.length = ds.length
  | [], _, h => by cases h; rfl
  | d :: ds, _, ⟨v, r, e, _, t⟩ => by rw [e, List.length_cons, List.length_cons, RpL.length t]
theorem RpL.get : ∀ {ds : List D} {vs : List V} {i : Nat} {d : D}, RpL K G ds vs → ds[i]? = some d → ∃ v, vs[i]? = some v ∧ Rp K G d v
  | [], _, _, _, _, e => by simp at e
  | x :: ds, _, 0, d, ⟨v, r, e, h, _⟩, q => by
    have q' : x = d := Option.some.inj q
    exact ⟨v, by rw [e]; rfl, by rw [← q']; exact h⟩
  | x :: ds, _, i + 1, d, ⟨v, r, e, _, t⟩, q => by
    obtain ⟨u, h1, h2⟩ := RpL.get t (i := i) q
    exact ⟨u, by rw [e]; exact h1, h2⟩
theorem RpL.append : ∀ {ds es : List D} {vs us : List V}, RpL K G ds vs → RpL K G es us → RpL K G (ds ++ es) (vs ++ us)
  | [], _, _, _, h, h' => by cases h; exact h'
  | d :: ds, es, _, us, ⟨v, r, e, h, t⟩, h' => ⟨v, r ++ us, by rw [e]; rfl, h, RpL.append t h'⟩
theorem RpL.one {d : D} {v : V} (h : Rp K G d v) : RpL K G [d] [v] := ⟨v, [], rfl, h, rfl⟩
theorem RpL.take : ∀ {ds : List D} {vs : List V} (n : Nat), RpL K G ds vs → RpL K G (ds.take n) (vs.take n)
  | _, _, 0, _ => by rw [List.take_zero, List.take_zero]; rfl
  | [], _, n + 1, h => by cases h; rfl
  | d :: ds, _, n + 1, ⟨v, r, e, h, t⟩ => ⟨v, r.take n, by rw [e]; rfl, h, RpL.take n t⟩
theorem RpL.drop : ∀ {ds : List D} {vs : List V} (n : Nat), RpL K G ds vs → RpL K G (ds.drop n) (vs.drop n)
  | _, _, 0, h => h
  | [], _, n + 1, h => by cases h; rfl
  | d :: ds, _, n + 1, ⟨v, r, e, h, t⟩ => by rw [e]; exact RpL.drop n t
theorem RpL.set : ∀ {ds : List D} {vs : List V} {d : D} {v : V} (n : Nat), RpL K G ds vs → Rp K G d v → RpL K G (ds.set n d) (vs.set n v)
  | [], _, _, _, _, h, _ => by cases h; rfl
  | x :: ds, _, d, v, 0, ⟨u, r, e, _, t⟩, q => by rw [e]; exact ⟨v, r, rfl, q, t⟩
  | x :: ds, _, d, v, n + 1, ⟨u, r, e, h, t⟩, q => by rw [e]; exact ⟨u, r.set n v, rfl, h, RpL.set n t q⟩
theorem RpL.ints : ∀ {is : List Int} {vs : List V}, RpL K G (is.map PyData.int) vs → vs = is.map V.int
  | [], _, h => h
  | i :: is, _, ⟨v, r, e, h, t⟩ => by
    have h' : v = .int i := h
    rw [e, h', RpL.ints t]; rfl
theorem RpL.of_ints : ∀ (is : List Int), RpL K G (is.map PyData.int) (is.map V.int)
  | [] => rfl
  | i :: is => ⟨.int i, is.map V.int, rfl, rfl, RpL.of_ints is⟩
end

set_option autoImplicit true
open PySem PySem.Spec PyProof.Rows L2 LamX
inductive Sl where
  | no | fz (d : D) | own (d : D)
abbrev Env := List Sl
def Sl.val : Sl → Option D
  | .no => none
  | .fz d => some d
  | .own d => some d
def at_ (ρ : Env) (i : Nat) : Option D := (ρ[i]?).bind Sl.val
/-- a container's object, its parts frozen in G -/
inductive ObjD (K : PySem.W.Frag) (G : Hp) : D → HO → Prop
  | lst {ds : List D} {xs : List V} : RpL K G ds xs → ObjD K G (.list ds) (.lst xs)
  | tup {ds : List D} {xs : List V} : RpL K G ds xs → ObjD K G (.tuple ds) (.tup xs)
  | dK {kvs : List (D × D)} {es : List (Key × V)} : RpK K G kvs es → ObjD K G (.dict kvs) (.dK es)
  | dT {kvs : List (D × D)} {es : List (List Key × V)} : RpT K G kvs es → ObjD K G (.dict kvs) (.dT es)
def Own (K : PySem.W.Frag) (G H : Hp) (d : D) (p : Addr) : Prop := G p = none ∧ ∃ o, H p = some o ∧ ObjD K G d o ∧ Mut (some o)
/-- read only: frozen, or owned -/
def Vw (K : PySem.W.Frag) (G H : Hp) (d : D) (v : V) : Prop := Rp K G d v ∨ ∃ p, v = .ref p ∧ Own K G H d p
theorem ObjD.mono {K : PySem.W.Frag} {G G' : Hp} (s : GLe G G') {d : D} {o : HO} (h : ObjD K G d o) : ObjD K G' d o := by
  cases h with
  | lst h => exact .lst (RpL.mono s _ _ h)
  | tup h => exact .tup (RpL.mono s _ _ h)
  | dK h => exact .dK (RpK.mono s _ _ h)
  | dT h => exact .dT (RpT.mono s _ _ h)
/-- an object that stands is its value -/
theorem ObjD.rp {K : PySem.W.Frag} {G : Hp} {p : Addr} {d : D} {o : HO} (h : ObjD K G d o) (e : G p = some o) : Rp K G d (.ref p) := by
  cases h with
  | lst h => exact ⟨p, _, rfl, e, h⟩
  | tup h => exact ⟨p, _, rfl, e, h⟩
  | dK h => exact ⟨p, rfl, .inl ⟨_, e, h⟩⟩
  | dT h => exact ⟨p, rfl, .inr (.inl ⟨_, e, h⟩)⟩
theorem ObjD.notTbl {K : PySem.W.Frag} {G : Hp} {d : D} {o : HO} (h : ObjD K G d o) : (∀ ps, o ≠ .tbl ps) ∧ ∀ q u, o ≠ .frz q u := by
  cases h <;> exact ⟨fun _ e => (nomatch e), fun _ _ e => (nomatch e)⟩
/-- the frame's ghost: what is foreign, what stood at the entry, the slots whose objects go back -/
structure Fr where
  fg : Hp
  dom : Addr → Prop
  io : List (Nat × Addr)
def SlOk (K : PySem.W.Frag) (G H : Hp) (F : Fr) (σ : L2.St) (i : Nat) : Sl → Prop
  | .no => True
  | .fz d => ∃ v, σ[i]? = some (some v) ∧ Rp K G d v
  | .own d => ∃ p, σ[i]? = some (some (.ref p)) ∧ Own K G H d p ∧ (¬ F.dom p ∨ (i, p) ∈ F.io)
/-- what is fixed for a def's body: the written part, the tables, the names, what is wanted of an exception, the slots that go back -/
structure Ct where
  K : PySem.W.Frag
  T : List (Addr × Str)
  mg : Str → Option Value
  W : WX
  ios : List Nat
/-- something stands there, no table -/
def Dm (H : Hp) (a : Addr) : Prop := ∃ u, H a = some u ∧ ∀ ps, u ≠ .tbl ps
/-- foreign: not frozen by us, or locked -/
def FgG (G : Hp) (a : Addr) (u : HO) : Prop := G a = none ∨ ∃ o w, u = .frz o w
theorem FgG.upd {G : Hp} {a p : Addr} {u o : HO} (h : FgG G a u) (ne : a ≠ p) : FgG (upd G p o) a u := h.imp (fun h => by rw [upd_ne ne]; exact h) id
theorem FgG.none {G : Hp} {a : Addr} {u : HO} (h : FgG G a u) (hn : ∀ q w, u ≠ .frz q w) : G a = none := h.resolve_right fun ⟨q, w, e⟩ => hn q w e
structure State (c : Ct) (F : Fr) (ρ : Env) (σ : L2.St) (G H : Hp) : Prop where
  sub : Sub G H
  fg : ∀ a u, F.fg a = some u → H a = some u ∧ FgG G a u
  wf : ∀ a u, F.fg a = some u → F.dom a ∧ (∀ i, (i, a) ∉ F.io) ∧ ∀ ps, u ≠ .tbl ps
  dom : ∀ a, F.dom a → Dm H a
  tab : Tabs c.T H
  tabG : ∀ p ∈ c.T, G p.1 = none
  len : ρ.length = σ.length
  sl : ∀ (i : Nat) (s : Sl), ρ[i]? = some s → SlOk c.K G H F σ i s
  apart : ∀ (i j : Nat) (p : Addr) (d e : D), ρ[i]? = some (.own d) → ρ[j]? = some (.own e) → σ[i]? = some (some (.ref p)) → σ[j]? = some (some (.ref p)) → i = j
  io : ∀ q ∈ F.io, σ[q.1]? = some (some (.ref q.2))
  ios : F.io.map (·.1) = c.ios
  ioD : ∀ q ∈ F.io, F.dom q.2
  tupG : ∀ (q : Addr) (ks : List Key), H q = some (.tup (ks.map kV)) → G q = some (.tup (ks.map kV))
section
variable {c : Ct} {F : Fr} {ρ : Env} {σ : L2.St} {G H : Hp}
theorem State.gnone (S : State c F ρ σ G H) {p : Addr} (h : H p = none) : G p = none := by
  cases e : G p with
  | none => rfl
  | some u =>
    rcases S.sub.1 p u e with q | ⟨_, o, q⟩ <;> (rw [h] at q; cases q)
theorem SlOk.mono {K : PySem.W.Frag} {G G' H H' : Hp} (s : GLe G G') {i : Nat} {sl : Sl} (hk : ∀ p d, sl = .own d → σ[i]? = some (some (.ref p)) → Own K G H d p → G' p = none ∧ H' p = H p) (h : SlOk K G H F σ i sl) : SlOk K G' H' F σ i sl := by
  cases sl with
  | no => trivial
  | fz d =>
    obtain ⟨v, e, r⟩ := h
    exact ⟨v, e, Rp.mono s d v r⟩
  | own d =>
    obtain ⟨p, e, ow, q⟩ := h
    obtain ⟨h1, h2⟩ := hk p d rfl e ow
    obtain ⟨_, o, ho, hd, hm⟩ := ow
    exact ⟨p, e, ⟨h1, o, by rw [h2]; exact ho, hd.mono s, hm⟩, q⟩
/-- a new object -/
theorem State.alloc0 (S : State c F ρ σ G H) {p : Addr} {o : HO} (h : H p = none) (tg : ∀ (q : Addr) (ks : List Key), upd H p o q = some (.tup (ks.map kV)) → G q = some (.tup (ks.map kV)) ∨ q = p) :
    Sub G (upd H p o) ∧ (∀ a u, F.fg a = some u → upd H p o a = some u ∧ FgG G a u) ∧ (∀ a, F.dom a → Dm (upd H p o) a) ∧ Tabs c.T (upd H p o) ∧ (∀ (i : Nat) (s : Sl), ρ[i]? = some s → SlOk c.K G (upd H p o) F σ i s) := by
  refine ⟨⟨fun a u r => ?_, S.sub.2⟩, fun a u e => ?_, fun a e => ?_, ?_, fun i s e => ?_⟩
  · have ne : a ≠ p := by
      rcases S.sub.1 a u r with q | ⟨_, _, q⟩
      · exact ne_of_none q h
      · exact ne_of_none q h
    rcases S.sub.1 a u r with q | ⟨id, ob, q⟩
    · exact .inl (by rw [upd_ne ne]; exact q)
    · exact .inr ⟨id, ob, by rw [upd_ne ne]; exact q⟩
  · exact ⟨by rw [upd_ne (ne_of_none (S.fg a u e).1 h)]; exact (S.fg a u e).1, (S.fg a u e).2⟩
  · obtain ⟨u, hu, hn⟩ := S.dom a e
    exact ⟨u, by rw [upd_ne (ne_of_none hu h)]; exact hu, hn⟩
  · exact S.tab.ext fun b u e => by rw [upd_ne (ne_of_none e h)]; exact e
  · refine (S.sl i s e).mono (GLe.refl G) fun q d _ _ ow => ⟨ow.1, ?_⟩
    obtain ⟨_, ob, ho, _⟩ := ow
    exact upd_ne (ne_of_none ho h)
theorem State.alloc (S : State c F ρ σ G H) {p : Addr} {o : HO} (h : H p = none) (hm : Mut (some o)) : State c F ρ σ G (upd H p o) := by
  have tg : ∀ (q : Addr) (ks : List Key), upd H p o q = some (.tup (ks.map kV)) → G q = some (.tup (ks.map kV)) := fun q ks e => by
    by_cases z : q = p
    · rw [z, upd_same] at e
      cases e
      exact hm.elim
    · rw [upd_ne z] at e
      exact S.tupG q ks e
  obtain ⟨h1, h2, h3, h4, h5⟩ := S.alloc0 (o := o) h fun q ks e => .inl (tg q ks e)
  exact ⟨h1, h2, S.wf, h3, h4, S.tabG, S.len, h5, S.apart, S.io, S.ios, S.ioD, tg⟩
theorem tab_none {T : List (Addr × Str)} {H : Hp} (t : Tabs T H) {p : Addr × Str} (hp : p ∈ T) : ∃ ps, H p.1 = some (.tbl ps) := by
  obtain ⟨ps, e, _⟩ := t p hp
  exact ⟨ps, e⟩
/-- a new object, frozen -/
theorem State.add (S : State c F ρ σ G H) {p : Addr} {o : HO} (h : H p = none) (hnt : ∀ ps, o ≠ .tbl ps := by exact fun _ z => nomatch z) : State c F ρ σ (upd G p o) (upd H p o) := by
  have gn := S.gnone h
  have tg : ∀ (q : Addr) (ks : List Key), upd H p o q = some (.tup (ks.map kV)) → G q = some (.tup (ks.map kV)) ∨ q = p := fun q ks e => by
    by_cases z : q = p
    · exact .inr z
    · rw [upd_ne z] at e
      exact .inl (S.tupG q ks e)
  obtain ⟨h1, h2, h3, h4, h5⟩ := S.alloc0 (o := o) h tg
  refine ⟨⟨fun a u r => ?_, NoT.upd S.sub.2 hnt⟩, fun a u e => ?_, S.wf, h3, h4, fun q hq => ?_, S.len, fun i s e => ?_, S.apart, S.io, S.ios, S.ioD, fun q ks e => ?_⟩
  · by_cases q : a = p
    · subst q
      exact .inl (by rw [upd_same] at r ⊢; exact r)
    · exact h1.1 a u (by rw [upd_ne q] at r; exact r)
  · obtain ⟨e1, e2⟩ := S.fg a u e
    have ne := ne_of_none e1 h
    exact ⟨(h2 a u e).1, e2.upd ne⟩
  · obtain ⟨ps, e⟩ := tab_none S.tab hq
    rw [upd_ne (ne_of_none e h)]
    exact S.tabG q hq
  · refine (S.sl i s e).mono (GLe.upd gn) fun q d _ _ ow => ?_
    obtain ⟨hg, ob, ho, _⟩ := ow
    have ne := ne_of_none ho h
    exact ⟨by rw [upd_ne ne]; exact hg, upd_ne ne⟩
  · by_cases z : q = p
    · rw [z, upd_same] at e ⊢
      exact e
    · rw [upd_ne z]
      exact (tg q ks e).resolve_right z
theorem State.own_at (S : State c F ρ σ G H) {i : Nat} {d : D} (e : ρ[i]? = some (.own d)) : ∃ p, σ[i]? = some (some (.ref p)) ∧ Own c.K G H d p ∧ (¬ F.dom p ∨ (i, p) ∈ F.io) := S.sl i _ e
theorem State.own_fg (S : State c F ρ σ G H) {i : Nat} {p : Addr} (q : ¬ F.dom p ∨ (i, p) ∈ F.io) : F.fg p = none := by
  cases e : F.fg p with
  | none => rfl
  | some u =>
    obtain ⟨h1, h2, _⟩ := S.wf p u e
    rcases q with q | q
    · exact (q h1).elim
    · exact (h2 i q).elim
theorem State.own_tab (S : State c F ρ σ G H) {d : D} {p : Addr} (ow : Own c.K G H d p) : ∀ q ∈ c.T, q.1 ≠ p := fun q hq z => by
  obtain ⟨ps, e⟩ := tab_none S.tab hq
  obtain ⟨_, o, ho, hd, _⟩ := ow
  rw [z, ho] at e
  exact hd.notTbl.1 ps (Option.some.inj e)
theorem get_set {α : Type} {l : List α} {i j : Nat} {a b : α} (h : (l.set i a)[j]? = some b) : (i = j ∧ a = b) ∨ (i ≠ j ∧ l[j]? = some b) := by
  by_cases e : i = j
  · subst e
    by_cases hi : i < l.length
    · rw [List.getElem?_set_self hi] at h
      exact .inl ⟨rfl, Option.some.inj h⟩
    · rw [List.getElem?_eq_none (by rw [List.length_set]; omega)] at h
      cases h
  · rw [List.getElem?_set_ne e] at h
    exact .inr ⟨e, h⟩
/-- an owned slot is frozen -/
theorem State.freeze (S : State c F ρ σ G H) {i : Nat} {d : D} {p : Addr} (e : ρ[i]? = some (.own d)) (es : σ[i]? = some (some (.ref p))) :
    ∃ G', State c F (ρ.set i (.fz d)) σ G' H ∧ GLe G G' ∧ Rp c.K G' d (.ref p) := by
  obtain ⟨p', e1, ow, q⟩ := S.own_at e
  rw [es] at e1
  cases e1
  obtain ⟨hg, o, ho, hd, hm⟩ := id ow
  have gl : GLe G (upd G p o) := GLe.upd hg
  have rp : Rp c.K (upd G p o) d (.ref p) := (hd.mono gl).rp upd_same
  refine ⟨upd G p o, ⟨⟨fun a u r => ?_, NoT.upd S.sub.2 hd.notTbl.1⟩, fun a u ea => ?_, S.wf, S.dom, S.tab, fun t ht => ?_, by rw [List.length_set]; exact S.len, fun j s ej => ?_, fun j k a x y h1 h2 h3 h4 => ?_, S.io, S.ios, S.ioD, fun q ks e => gl _ _ (S.tupG q ks e)⟩, gl, rp⟩
  · by_cases z : a = p
    · subst z
      rw [upd_same] at r
      exact .inl (by rw [ho]; exact r)
    · exact S.sub.1 a u (by rw [upd_ne z] at r; exact r)
  · obtain ⟨e1, e2⟩ := S.fg a u ea
    refine ⟨e1, ?_⟩
    have ne : a ≠ p := fun z => by
      rw [z, S.own_fg q] at ea
      cases ea
    exact e2.upd ne
  · rw [upd_ne (S.own_tab ow t ht)]
    exact S.tabG t ht
  · rcases get_set ej with ⟨rfl, rfl⟩ | ⟨ne, ej⟩
    · exact ⟨.ref p, es, rp⟩
    · refine (S.sl j s ej).mono gl fun b x ex eb owb => ?_
      have nb : b ≠ p := fun z => by
        rw [z] at eb
        exact ne (S.apart i j p d x e (by rw [ej, ex]) es eb)
      exact ⟨by rw [upd_ne nb]; exact owb.1, rfl⟩
  · rcases get_set h1 with ⟨_, z⟩ | ⟨_, h1⟩
    · cases z
    · rcases get_set h2 with ⟨_, z⟩ | ⟨_, h2⟩
      · cases z
      · exact S.apart j k a x y h1 h2 h3 h4
end

set_option autoImplicit true
structure Exn where
  cls : Str
  arg : Option (Str × D)
inductive Rs (α : Type) where
  | ok (a : α) (ρ : Env) | ex (e : Exn) (ρ : Env) | stuck
abbrev ME := Env → Rs D
abbrev MB := Env → Rs Bool
def Rs.then {α β : Type} : Rs α → (α → Env → Rs β) → Rs β
  | .ok a ρ, f => f a ρ
  | .ex e ρ, _ => .ex e ρ
  | .stuck, _ => .stuck
/-- an exception as it flies -/
def ExOk (c : Ct) (G : Hp) (e : Exn) (cls : Value) (dx : Option Addr) (H : Hp) : Prop :=
  ∃ C : Addr, c.mg e.cls = some (.ref C) ∧ cls = .ref C ∧
    match e.arg with
    | none => dx = none
    | some (f, d) => ∃ dd v, dx = some dd ∧ H dd = some (.xd [(f, v)]) ∧ Rp c.K G d v
/-- what is asked so that M-function's outcome is handed on -/
def Ask (c : Ct) (F : Fr) (σ : L2.St) (G : Hp) {α : Type} (k : α → Env → Prop) : Rs α → Prop
  | .ok a ρ => k a ρ
  | .ex e ρ => ∀ cls dx H' G', State c F ρ σ G' H' → GLe G G' → ExOk c G' e cls dx H' → c.W cls dx σ H'
  | .stuck => False
theorem Ask.imp {c : Ct} {F : Fr} {σ : L2.St} {G G1 : Hp} {α : Type} {k k' : α → Env → Prop} {r : Rs α} (h : Ask c F σ G k r) (g : GLe G G1) (hk : ∀ a ρ, k a ρ → k' a ρ) : Ask c F σ G1 k' r := by
  cases r with
  | ok a ρ => exact hk a ρ h
  | ex e ρ => exact fun cls dx H' G' S gl x => h cls dx H' G' S (g.trans gl) x
  | stuck => exact h
theorem Ask.then {c : Ct} {F : Fr} {σ : L2.St} {G : Hp} {α β : Type} {k : β → Env → Prop} {r : Rs α} {f : α → Env → Rs β} (h : Ask c F σ G k (r.then f)) : Ask c F σ G (fun a ρ => Ask c F σ G k (f a ρ)) r := by
  cases r with
  | ok a ρ => exact h
  | ex e ρ => exact h
  | stuck => exact h
/-- a value's reading -/
def tE (c : Ct) (m : ME) : TE := fun σ H Q => ∃ F ρ G, State c F ρ σ G H ∧ Ask c F σ G (fun d ρ' => ∀ v H' G', State c F ρ' σ G' H' → GLe G G' → Rp c.K G' d v → Q v H') (m ρ)
/-- a new container's -/
def NewAt (c : Ct) (F : Fr) (ρ : Env) (σ : L2.St) (G H : Hp) (d : D) (p : Addr) : Prop := Own c.K G H d p ∧ ¬ F.dom p ∧ ∀ (i : Nat) (e : D), ρ[i]? = some (.own e) → σ[i]? ≠ some (some (V.ref p))
def tF (c : Ct) (m : ME) : TE := fun σ H Q => ∃ F ρ G, State c F ρ σ G H ∧ Ask c F σ G (fun d ρ' => ∀ p H' G', State c F ρ' σ G' H' → GLe G G' → NewAt c F ρ' σ G' H' d p → Q (.ref p) H') (m ρ)
def tT (c : Ct) (m : MB) : TT := fun σ H Q => ∃ F ρ G, State c F ρ σ G H ∧ Ask c F σ G (fun b ρ' => ∀ H' G', State c F ρ' σ G' H' → GLe G G' → Q b H') (m ρ)
section
variable {X : Cx} {c : Ct} {F : Fr} {ρ : Env} {σ : L2.St} {G H : Hp} {e : Expr} {t t' : TE}
theorem pe_conseq (h : PE X e t) (hi : ∀ σ H Q, t' σ H Q → t σ H Q) : PE X e t' := ⟨fun pins s σ H Q I q => h.run pins s σ H Q I (hi _ _ _ q)⟩
theorem pt_conseq {t t' : TT} (h : PT X e t) (hi : ∀ σ H Q, t' σ H Q → t σ H Q) : PT X e t' := ⟨fun pins s σ H Q I q => h.run pins s σ H Q I (hi _ _ _ q)⟩
/-- a new container is frozen -/
theorem NewAt.freezeAt {d : D} {p : Addr} {o : HO} (S : State c F ρ σ G H) (n : NewAt c F ρ σ G H d p) (hq : H p = some o) : State c F ρ σ (upd G p o) H ∧ GLe G (upd G p o) ∧ Rp c.K (upd G p o) d (.ref p) := by
  obtain ⟨ow, nd, na⟩ := n
  obtain ⟨hg, o', ho, hd, hm⟩ := id ow
  rw [hq] at ho
  cases ho
  have ho := hq
  have gl : GLe G (upd G p o) := GLe.upd hg
  have rp : Rp c.K (upd G p o) d (.ref p) := (hd.mono gl).rp upd_same
  refine ⟨⟨⟨fun a u r => ?_, NoT.upd S.sub.2 hd.notTbl.1⟩, fun a u ea => ?_, S.wf, S.dom, S.tab, fun t ht => ?_, S.len, fun j s ej => ?_, S.apart, S.io, S.ios, S.ioD, fun q ks e => gl _ _ (S.tupG q ks e)⟩, gl, rp⟩
  · by_cases z : a = p
    · subst z
      rw [upd_same] at r
      exact .inl (by rw [ho]; exact r)
    · exact S.sub.1 a u (by rw [upd_ne z] at r; exact r)
  · obtain ⟨e1, e2⟩ := S.fg a u ea
    have ne : a ≠ p := fun z => nd (by rw [← z]; exact (S.wf a u ea).1)
    exact ⟨e1, e2.upd ne⟩
  · rw [upd_ne (S.own_tab ow t ht)]
    exact S.tabG t ht
  · refine (S.sl j s ej).mono gl fun b x ex eb owb => ?_
    have nb : b ≠ p := fun z => by
      rw [z] at eb
      exact na j x (by rw [ej, ex]) eb
    exact ⟨by rw [upd_ne nb]; exact owb.1, rfl⟩
theorem NewAt.freeze {d : D} {p : Addr} (S : State c F ρ σ G H) (n : NewAt c F ρ σ G H d p) : ∃ G', State c F ρ σ G' H ∧ GLe G G' ∧ Rp c.K G' d (.ref p) := by
  obtain ⟨_, o, ho, _, _⟩ := id n.1
  exact ⟨_, n.freezeAt S ho⟩
theorem NewAt.of (S : State c F ρ σ G H) {d : D} {p : Addr} {o : HO} (h : H p = none) (hd : ObjD c.K G d o) (hm : Mut (some o)) : NewAt c F ρ σ G (upd H p o) d p :=
  ⟨⟨S.gnone h, o, upd_same, hd, hm⟩, (fun q => by obtain ⟨u, hu, _⟩ := S.dom p q; rw [h] at hu; cases hu), fun i x e es => by
    obtain ⟨p', e1, ow, _⟩ := S.own_at e
    rw [es] at e1
    cases e1
    obtain ⟨_, ob, ho, _⟩ := ow
    rw [h] at ho
    cases ho⟩
/-- a new container as a value -/
theorem me_of {m : ME} (h : PE X e (tF c m)) : PE X e (tE c m) := pe_conseq h fun σ H Q ⟨F, ρ, G, S, a⟩ => ⟨F, ρ, G, S, a.imp (GLe.refl G) fun d ρ' k p H' G' S' gl n => by
  obtain ⟨G2, S2, gl2, r⟩ := n.freeze S'
  exact k _ _ _ S2 (gl.trans gl2) r⟩
def mLit (d : D) : ME := fun ρ => .ok d ρ
theorem tE_lit {d : D} {v : V} {Q : VK} (hr : ∀ G, Rp c.K G d v) (h : tE c (mLit d) σ H Q) : Q v H := by
  obtain ⟨F, ρ, G, S, a⟩ := h
  exact a v H G S (GLe.refl G) (hr G)
theorem me_int {i : Int} {j : Nat} {pos : Pos} : PE X (.Constant (.int i) j pos) (tE c (mLit (.int i))) := pe_conseq pe_int fun _ _ _ h => tE_lit (d := .int i) (fun _ => rfl) h
theorem me_bl {b : Bool} {j : Nat} {pos : Pos} : PE X (.Constant (.bool b) j pos) (tE c (mLit (.bool b))) := pe_conseq pe_bl fun _ _ _ h => tE_lit (d := .bool b) (fun _ => rfl) h
theorem me_non {j : Nat} {pos : Pos} : PE X (.Constant .none j pos) (tE c (mLit .none)) := pe_conseq pe_non fun _ _ _ h => tE_lit (d := .none) (fun _ => rfl) h
theorem me_gint {x : Str} {i : Int} {pos : Pos} (hg : Gl X x) (hm : ∃ t, X.mg x = some (.int i t)) (hd : (x == ("__debug__" : Str)) = false := by decide) : PE X (.Name x pos) (tE c (mLit (.int i))) := by
  obtain ⟨t, hm⟩ := hm
  exact pe_conseq (pe_glob (v := .int i) hg hm ⟨t, rfl⟩ hd) fun _ _ _ h => tE_lit (d := .int i) (fun _ => rfl) h
def mVar (i : Nat) : ME := fun ρ => match ρ[i]? with
  | some (.fz d) => .ok d ρ
  | some (.own d) => .ok d (ρ.set i (.fz d))
  | _ => .stuck
theorem me_var {i : Nat} (h : PE X e (tVar i)) : PE X e (tE c (mVar i)) := pe_conseq h fun σ H Q ⟨F, ρ, G, S, a⟩ => by
  unfold mVar at a
  split at a
  · rename_i d e
    obtain ⟨v, e1, r⟩ := S.sl i _ e
    exact ⟨v, e1, a v H G S (GLe.refl G) r⟩
  · rename_i d e
    obtain ⟨p, e1, ow, q⟩ := S.own_at e
    obtain ⟨G', S', gl, r⟩ := S.freeze e e1
    exact ⟨_, e1, a _ H G' S' gl r⟩
  · exact a.elim
inductive Opd where
  | sl (i : Nat) | ex (m : ME)
def Opd.ev : Opd → Env → Rs (Option D)
  | .sl i, ρ => match at_ ρ i with
    | some _ => .ok none ρ
    | none => .stuck
  | .ex m, ρ => (m ρ).then fun d ρ' => .ok (some d) ρ'
def Opd.fin : Opd → Option D → Env → Option D
  | .sl i, _, ρ => at_ ρ i
  | .ex _, x, _ => x
def tO (c : Ct) : Opd → TE
  | .sl i => tVar i
  | .ex m => tE c m
/-- what an operand's value is, behind its evaluation -/
def OpV (c : Ct) (σ : L2.St) (G : Hp) : Opd → Option D → V → Prop
  | .sl i, _, v => σ[i]? = some (some v)
  | .ex _, x, v => ∃ d, x = some d ∧ Rp c.K G d v
theorem OpV.mono {o : Opd} {x : Option D} {v : V} {G G' : Hp} (g : GLe G G') (h : OpV c σ G o x v) : OpV c σ G' o x v := by
  cases o with
  | sl i => exact h
  | ex m =>
    obtain ⟨d, e, r⟩ := h
    exact ⟨d, e, Rp.mono g d v r⟩
theorem at_some {i : Nat} {d : D} (h : at_ ρ i = some d) : ρ[i]? = some (.fz d) ∨ ρ[i]? = some (.own d) := by
  unfold at_ at h
  cases e : ρ[i]? with
  | none => rw [e] at h; cases h
  | some s =>
    rw [e] at h
    cases s with
    | no => cases h
    | fz x => cases h; exact .inl rfl
    | own x => cases h; exact .inr rfl
theorem State.vw (S : State c F ρ σ G H) {i : Nat} {d : D} (h : at_ ρ i = some d) : ∃ v, σ[i]? = some (some v) ∧ Vw c.K G H d v := by
  rcases at_some h with e | e
  · obtain ⟨v, e1, r⟩ := S.sl i _ e
    exact ⟨v, e1, .inl r⟩
  · obtain ⟨p, e1, ow, _⟩ := S.own_at e
    exact ⟨_, e1, .inr ⟨p, rfl, ow⟩⟩
theorem OpV.vw {o : Opd} {x : Option D} {v : V} {d : D} (S : State c F ρ σ G H) (h : OpV c σ G o x v) (hf : o.fin x ρ = some d) : Vw c.K G H d v := by
  cases o with
  | sl i =>
    obtain ⟨u, e, w⟩ := S.vw hf
    rw [h] at e
    cases e
    exact w
  | ex m =>
    obtain ⟨y, e, r⟩ := h
    have hf' : x = some d := hf
    rw [e] at hf'
    cases hf'
    exact .inl r
/-- the evaluation of one operand -/
theorem tO_ev {o : Opd} {R : V → Hp → Prop} (S : State c F ρ σ G H)
    (a : Ask c F σ G (fun x ρ' => ∀ v H' G', State c F ρ' σ G' H' → GLe G G' → OpV c σ G' o x v → R v H') (o.ev ρ)) : tO c o σ H R := by
  cases o with
  | sl i =>
    simp only [Opd.ev] at a
    cases e : at_ ρ i with
    | none =>
      rw [e] at a
      exact False.elim a
    | some d =>
      rw [e] at a
      obtain ⟨v, e1, _⟩ := S.vw e
      exact ⟨v, e1, a v H G S (GLe.refl G) e1⟩
  | ex m =>
    refine ⟨F, ρ, G, S, (Ask.then a).imp (GLe.refl G) fun d ρ' k v H' G' S' gl r => ?_⟩
    exact k v H' G' S' gl ⟨d, rfl, r⟩
/-- a primitive's outcome: a value that stands, or a new object -/
def POut (K : PySem.W.Frag) (G H : Hp) (d : D) (v : V) (H' : Hp) : Prop := (H' = H ∧ Rp K G d v) ∨ ∃ p o, v = .ref p ∧ H p = none ∧ H' = upd H p o ∧ ObjD K G d o
def PNew (K : PySem.W.Frag) (G H : Hp) (d : D) (v : V) (H' : Hp) : Prop := ∃ p o, v = .ref p ∧ H p = none ∧ H' = upd H p o ∧ ObjD K G d o ∧ Mut (some o)
theorem PNew.out {K : PySem.W.Frag} {d : D} {v : V} {H' : Hp} (h : PNew K G H d v H') : POut K G H d v H' := let ⟨p, o, e, n, q, x, _⟩ := h; .inr ⟨p, o, e, n, q, x⟩
theorem POut.state {d : D} {v : V} {H' : Hp} (S : State c F ρ σ G H) (h : POut c.K G H d v H') : ∃ G', State c F ρ σ G' H' ∧ GLe G G' ∧ Rp c.K G' d v := by
  rcases h with ⟨rfl, r⟩ | ⟨p, o, rfl, n, rfl, x⟩
  · exact ⟨G, S, GLe.refl G, r⟩
  · have gl : GLe G (upd G p o) := GLe.upd (S.gnone n)
    exact ⟨upd G p o, S.add n x.notTbl.1, gl, (x.mono gl).rp upd_same⟩
/-- a reading of an operator does what g says -/
def Prim2 (K : PySem.W.Frag) (g : D → D → Option D) (r : R2) : Prop := ∀ (G H : Hp) (x y : V) (d1 d2 d : D) (Q : VK), Sub G H → Vw K G H d1 x → Vw K G H d2 y → g d1 d2 = some d → (∀ v H', POut K G H d v H' → Q v H') → r x y H Q
def PrimN2 (K : PySem.W.Frag) (g : D → D → Option D) (r : R2) : Prop := ∀ (G H : Hp) (x y : V) (d1 d2 d : D) (Q : VK), Sub G H → Vw K G H d1 x → Vw K G H d2 y → g d1 d2 = some d → (∀ v H', PNew K G H d v H' → Q v H') → r x y H Q
def mOp2 (g : D → D → Option D) (o1 o2 : Opd) : ME := fun ρ => (o1.ev ρ).then fun x1 ρ1 => (o2.ev ρ1).then fun x2 ρ2 =>
  match o1.fin x1 ρ2, o2.fin x2 ρ2 with
  | some d1, some d2 => (match g d1 d2 with
    | some d => .ok d ρ2
    | none => .stuck)
  | _, _ => .stuck
/-- two operands and what is done with them -/
theorem tO2 {o1 o2 : Opd} {g : D → D → Option D} {R : V → V → Hp → Prop} {k : D → Env → Prop} (S : State c F ρ σ G H) (a : Ask c F σ G k (mOp2 g o1 o2 ρ))
    (hR : ∀ (ρ2 : Env) (G2 H2 : Hp) (x y : V) (d1 d2 d : D), State c F ρ2 σ G2 H2 → GLe G G2 → Vw c.K G2 H2 d1 x → Vw c.K G2 H2 d2 y → g d1 d2 = some d → k d ρ2 → R x y H2) :
    tO c o1 σ H fun x H1 => tO c o2 σ H1 fun y H2 => R x y H2 := by
  refine tO_ev S ((Ask.then a).imp (GLe.refl G) fun x1 ρ1 a1 v H1 G1 S1 g1 p1 => ?_)
  refine tO_ev S1 ((Ask.then a1).imp g1 fun x2 ρ2 a2 u H2 G2 S2 g2 p2 => ?_)
  cases e1 : o1.fin x1 ρ2 with
  | none => rw [e1] at a2; exact a2.elim
  | some d1 =>
    rw [e1] at a2
    cases e2 : o2.fin x2 ρ2 with
    | none => rw [e2] at a2; exact a2.elim
    | some d2 =>
      rw [e2] at a2
      cases e3 : g d1 d2 with
      | none => simp only [e3] at a2; exact a2.elim
      | some d =>
        simp only [e3] at a2
        exact hR ρ2 G2 H2 v u d1 d2 d S2 (g1.trans g2) ((p1.mono g2).vw S2 e1) (p2.vw S2 e2) e3 a2
theorem tOp_e {o1 o2 : Opd} {g : D → D → Option D} {r : R2} (hp : Prim2 c.K g r) {Q : VK} (h : tE c (mOp2 g o1 o2) σ H Q) : tOp r (tO c o1) (tO c o2) σ H Q := by
  obtain ⟨F, ρ, G, S, a⟩ := h
  refine tO2 S a fun ρ2 G2 H2 x y d1 d2 d S2 gl v1 v2 e k => ?_
  refine hp G2 H2 x y d1 d2 d Q S2.sub v1 v2 e fun v H' po => ?_
  obtain ⟨G', S', gl', r⟩ := po.state S2
  exact k v H' G' S' (gl.trans gl') r
theorem tOp_f {o1 o2 : Opd} {g : D → D → Option D} {r : R2} (hp : PrimN2 c.K g r) {Q : VK} (h : tF c (mOp2 g o1 o2) σ H Q) : tOp r (tO c o1) (tO c o2) σ H Q := by
  obtain ⟨F, ρ, G, S, a⟩ := h
  refine tO2 S a fun ρ2 G2 H2 x y d1 d2 d S2 gl v1 v2 e k => ?_
  refine hp G2 H2 x y d1 d2 d Q S2.sub v1 v2 e fun v H' ⟨p, o, ev, n, eH, x, hm⟩ => ?_
  rw [ev, eH]
  exact k p _ G2 (S2.alloc n hm) gl (NewAt.of S2 n x hm)
variable {a b : Expr} {pos : Pos} {o1 o2 : Opd} {g : D → D → Option D} {r : R2}
theorem me_op {op : Operator} (ho : OpR X (binaryOp op) r) (hp : Prim2 c.K g r) (ha : PE X a (tO c o1)) (hb : PE X b (tO c o2)) : PE X (.BinOp a op b pos) (tE c (mOp2 g o1 o2)) :=
  pe_conseq (pe_op ho ha hb) fun _ _ _ h => tOp_e hp h
theorem fe_op {op : Operator} (ho : OpR X (binaryOp op) r) (hp : PrimN2 c.K g r) (ha : PE X a (tO c o1)) (hb : PE X b (tO c o2)) : PE X (.BinOp a op b pos) (tF c (mOp2 g o1 o2)) :=
  pe_conseq (pe_op ho ha hb) fun _ _ _ h => tOp_f hp h
theorem me_cmp {op : CmpOp} (ho : OpR X (compareOp op) r) (hp : Prim2 c.K g r) (ha : PE X a (tO c o1)) (hb : PE X b (tO c o2)) (hm : behindInMarks op b = false) : PE X (.Compare a [op] [b] pos) (tE c (mOp2 g o1 o2)) :=
  pe_conseq (pe_cmpR ho ha hb hm) fun _ _ _ h => tOp_e hp h
/-- a bool as a test -/
def mB (m : ME) : MB := fun ρ => (m ρ).then fun d ρ' => match d with
  | .bool b => .ok b ρ'
  | _ => .stuck
theorem tB_e {m : ME} {Q : Bool → Hp → Prop} (h : tT c (mB m) σ H Q) : tE c m σ H (fun x H' => ∃ k, x = .bl k ∧ Q k H') := by
  obtain ⟨F, ρ, G, S, a⟩ := h
  refine ⟨F, ρ, G, S, (Ask.then a).imp (GLe.refl G) fun d ρ' a1 v H' G' S' gl r => ?_⟩
  split at a1
  · rename_i b
    exact ⟨b, r, a1 H' G' S' gl⟩
  · exact a1.elim
theorem mt_cmp {op : CmpOp} (ho : OpR X (compareOp op) r) (hp : Prim2 c.K g r) (ha : PE X a (tO c o1)) (hb : PE X b (tO c o2)) (hm : behindInMarks op b = false) : PT X (.Compare a [op] [b] pos) (tT c (mB (mOp2 g o1 o2))) :=
  pt_conseq (pt_cmpR ho ha hb hm) fun _ _ _ h => tOp_e hp (tB_e h)
theorem mt_val {m : ME} (h : PE X e (tE c m)) (he : ∀ whole, isTrue e X.env whole = (do let v ← whole; standAt e.pos; holding [v] (truthy v)) := by intro _; rfl) : PT X e (tT c (mB m)) :=
  pt_conseq (pt_val h he) fun _ _ _ h => tB_e h
end

set_option autoImplicit true
def mAnd (m n : ME) : ME := fun ρ => (m ρ).then fun d ρ' => match d with
  | .bool b => if b = true then n ρ' else .ok (.bool false) ρ'
  | _ => .stuck
def mOr (m n : ME) : ME := fun ρ => (m ρ).then fun d ρ' => match d with
  | .bool b => if b = true then .ok (.bool true) ρ' else n ρ'
  | _ => .stuck
def mNot (m : ME) : ME := fun ρ => (m ρ).then fun d ρ' => match d with
  | .bool b => .ok (.bool (!b)) ρ'
  | _ => .stuck
def bAnd (m n : MB) : MB := fun ρ => (m ρ).then fun b ρ' => if b = true then n ρ' else .ok false ρ'
def bOr (m n : MB) : MB := fun ρ => (m ρ).then fun b ρ' => if b = true then .ok true ρ' else n ρ'
def bNot (m : MB) : MB := fun ρ => (m ρ).then fun b ρ' => .ok (!b) ρ'
def mIf (t : MB) (m n : ME) : ME := fun ρ => (t ρ).then fun b ρ' => if b = true then m ρ' else n ρ'
section
variable {X : Cx} {c : Ct} {F : Fr} {ρ : Env} {σ : L2.St} {G H : Hp} {a b e : Expr} {rest : List Expr} {pos : Pos} {m n : ME} {s t : MB}
theorem me_and (ha : PE X a (tE c m)) (hb : PE X (.BoolOp .And (b :: rest) pos) (tE c n)) : PE X (.BoolOp .And (a :: b :: rest) pos) (tE c (mAnd m n)) := pe_conseq (pe_and ha hb) fun σ H Q ⟨F, ρ, G, S, q⟩ =>
  ⟨F, ρ, G, S, (Ask.then q).imp (GLe.refl G) fun d ρ' k v H' G' S' gl r => by
    cases d <;> first | exact False.elim k | skip
    rename_i x
    refine ⟨x, r, ?_⟩
    cases x with
    | true => exact ⟨F, ρ', G', S', Ask.imp k gl fun d ρ2 k2 u H2 G2 S2 gl2 r2 => k2 u H2 G2 S2 (gl.trans gl2) r2⟩
    | false => exact k _ H' G' S' gl rfl⟩
theorem me_one {op : BoolOp} (h : PE X a (tE c m)) : PE X (.BoolOp op [a] pos) (tE c m) := pe_one h
theorem me_not (ha : PE X a (tE c m)) : PE X (.UnaryOp .Not a pos) (tE c (mNot m)) := pe_conseq (pe_not ha) fun σ H Q ⟨F, ρ, G, S, q⟩ =>
  ⟨F, ρ, G, S, (Ask.then q).imp (GLe.refl G) fun d ρ' k v H' G' S' gl r => by
    cases d <;> first | exact False.elim k | skip
    rename_i x
    exact ⟨x, r, k _ H' G' S' gl rfl⟩⟩
theorem me_if {ct : Expr} (ht : PT X ct (tT c t)) (ha : PE X a (tE c m)) (hb : PE X b (tE c n)) : PE X (.IfExp ct a b pos) (tE c (mIf t m n)) := pe_conseq (pe_ifExp ht ha hb) fun σ H Q ⟨F, ρ, G, S, q⟩ =>
  ⟨F, ρ, G, S, (Ask.then q).imp (GLe.refl G) fun x ρ' k H' G' S' gl => by
    have k' : tE c (if x = true then m else n) σ H' Q := by
      cases x <;> exact ⟨F, ρ', G', S', Ask.imp k gl fun d ρ2 k2 u H2 G2 S2 gl2 r2 => k2 u H2 G2 S2 (gl.trans gl2) r2⟩
    cases x <;> exact k'⟩
/-- .. as tests -/
theorem mw_and1 (ha : PT X a (tT c t)) : PW X (.BoolOp .And [a] pos) (tT c t) := pw_and1 ha
theorem mw_or1 (ha : PT X a (tT c t)) : PW X (.BoolOp .Or [a] pos) (tT c t) := pw_or1 ha
theorem pw_conseq {t t' : TT} (h : PW X e t) (hi : ∀ σ H Q, t' σ H Q → t σ H Q) : PW X e t' := ⟨fun w pins s σ H Q I q => h.run w pins s σ H Q I (hi _ _ _ q)⟩
theorem mw_and (ha : PT X a (tT c s)) (hb : PW X (.BoolOp .And (b :: rest) pos) (tT c t)) : PW X (.BoolOp .And (a :: b :: rest) pos) (tT c (bAnd s t)) := pw_conseq (pw_and ha hb) fun σ H Q ⟨F, ρ, G, S, q⟩ =>
  ⟨F, ρ, G, S, (Ask.then q).imp (GLe.refl G) fun x ρ' k H' G' S' gl => by
    cases x with
    | true => exact ⟨F, ρ', G', S', Ask.imp k gl fun d ρ2 k2 H2 G2 S2 gl2 => k2 H2 G2 S2 (gl.trans gl2)⟩
    | false => exact k H' G' S' gl⟩
theorem mw_or (ha : PT X a (tT c s)) (hb : PW X (.BoolOp .Or (b :: rest) pos) (tT c t)) : PW X (.BoolOp .Or (a :: b :: rest) pos) (tT c (bOr s t)) := pw_conseq (pw_or ha hb) fun σ H Q ⟨F, ρ, G, S, q⟩ =>
  ⟨F, ρ, G, S, (Ask.then q).imp (GLe.refl G) fun x ρ' k H' G' S' gl => by
    cases x with
    | false => exact ⟨F, ρ', G', S', Ask.imp k gl fun d ρ2 k2 H2 G2 S2 gl2 => k2 H2 G2 S2 (gl.trans gl2)⟩
    | true => exact k H' G' S' gl⟩
theorem mt_bool (h : PW X e (tT c t)) : PT X e (tT c t) := h.pt
theorem mt_not (ha : PT X a (tT c t)) : PT X (.UnaryOp .Not a pos) (tT c (bNot t)) := pt_conseq (pt_not ha) fun σ H Q ⟨F, ρ, G, S, q⟩ =>
  ⟨F, ρ, G, S, (Ask.then q).imp (GLe.refl G) fun x ρ' k H' G' S' gl => k H' G' S' gl⟩
end
def evm : List ME → Env → Rs (List D)
  | [], ρ => .ok [] ρ
  | m :: ms, ρ => (m ρ).then fun d ρ1 => (evm ms ρ1).then fun ds ρ2 => .ok (d :: ds) ρ2
def tMs (c : Ct) : List ME → TA
  | [] => tNil
  | m :: ms => tCons (tE c m) (tMs c ms)
def evo : List Opd → Env → Rs (List (Option D))
  | [], ρ => .ok [] ρ
  | o :: os, ρ => (o.ev ρ).then fun x ρ1 => (evo os ρ1).then fun xs ρ2 => .ok (x :: xs) ρ2
def fino : List Opd → List (Option D) → Env → Option (List D)
  | [], [], _ => some []
  | o :: os, x :: xs, ρ => (o.fin x ρ).bind fun d => (fino os xs ρ).map fun ds => d :: ds
  | _, _, _ => none
def tOs (c : Ct) : List Opd → TA
  | [] => tNil
  | o :: os => tCons (tO c o) (tOs c os)
def OpVs (c : Ct) (σ : L2.St) (G : Hp) : List Opd → List (Option D) → List V → Prop
  | [], [], [] => True
  | o :: os, x :: xs, v :: vs => OpV c σ G o x v ∧ OpVs c σ G os xs vs
  | _, _, _ => False
def VwL (K : PySem.W.Frag) (G H : Hp) : List D → List V → Prop
  | [], [] => True
  | d :: ds, v :: vs => Vw K G H d v ∧ VwL K G H ds vs
  | _, _ => False
section
variable {X : Cx} {c : Ct} {F : Fr} {ρ : Env} {σ : L2.St} {G H : Hp} {e : Expr} {es : List Expr} {pos : Pos}
theorem ms_nil : PA X [] (tMs c []) := pa_nil
theorem ms_cons {m : ME} {ms : List ME} (h : PE X e (tE c m)) (hr : PA X es (tMs c ms)) (hs : starEach (e :: es) X.env = (false, eval e X.env) :: starEach es X.env := by rfl) : PA X (e :: es) (tMs c (m :: ms)) := pa_cons h hr hs
theorem mo_nil : PA X [] (tOs c []) := pa_nil
theorem mo_cons {o : Opd} {os : List Opd} (h : PE X e (tO c o)) (hr : PA X es (tOs c os)) (hs : starEach (e :: es) X.env = (false, eval e X.env) :: starEach es X.env := by rfl) : PA X (e :: es) (tOs c (o :: os)) := pa_cons h hr hs
theorem tMs_ev : ∀ {ms : List ME} {ρ : Env} {G H : Hp} {R : List V → Hp → Prop}, State c F ρ σ G H →
    Ask c F σ G (fun ds ρ' => ∀ vs H' G', State c F ρ' σ G' H' → GLe G G' → RpL c.K G' ds vs → vs.length = ms.length → R vs H') (evm ms ρ) → tMs c ms σ H R
  | [], ρ, G, H, R, S, a => a [] H G S (GLe.refl G) rfl rfl
  | m :: ms, ρ, G, H, R, S, a => by
    refine ⟨F, ρ, G, S, (Ask.then a).imp (GLe.refl G) fun d ρ1 a1 v H1 G1 S1 g1 r1 => ?_⟩
    refine tMs_ev S1 ((Ask.then a1).imp g1 fun ds ρ2 k vs H2 G2 S2 g2 r2 hl => ?_)
    exact k (v :: vs) H2 G2 S2 (g1.trans g2) ⟨v, vs, rfl, Rp.mono g2 d v r1, r2⟩ (by rw [List.length_cons, List.length_cons, hl])
theorem OpVs.mono {G G' : Hp} (g : GLe G G') : ∀ {os : List Opd} {xs : List (Option D)} {vs : List V}, OpVs c σ G os xs vs → OpVs c σ G' os xs vs
  | [], [], [], _ => trivial
  | _ :: _, _ :: _, _ :: _, h => ⟨h.1.mono g, OpVs.mono g h.2⟩
theorem OpVs.vw (S : State c F ρ σ G H) : ∀ {os : List Opd} {xs : List (Option D)} {vs : List V} {ds : List D}, OpVs c σ G os xs vs → fino os xs ρ = some ds → VwL c.K G H ds vs
  | [], [], [], ds, _, h => by
    cases h
    trivial
  | o :: os, x :: xs, v :: vs, ds, hv, h => by
    unfold fino at h
    cases e1 : o.fin x ρ with
    | none => rw [e1] at h; cases h
    | some d =>
      rw [e1] at h
      cases e2 : fino os xs ρ with
      | none => rw [e2] at h; cases h
      | some r =>
        rw [e2] at h
        cases h
        exact ⟨hv.1.vw S e1, OpVs.vw S hv.2 e2⟩
theorem tOs_ev : ∀ {os : List Opd} {ρ : Env} {G H : Hp} {R : List V → Hp → Prop}, State c F ρ σ G H →
    Ask c F σ G (fun xs ρ' => ∀ vs H' G', State c F ρ' σ G' H' → GLe G G' → OpVs c σ G' os xs vs → R vs H') (evo os ρ) → tOs c os σ H R
  | [], ρ, G, H, R, S, a => a [] H G S (GLe.refl G) trivial
  | o :: os, ρ, G, H, R, S, a => by
    refine tO_ev (R := fun v H1 => tOs c os σ H1 fun vs H2 => R (v :: vs) H2) S ((Ask.then a).imp (GLe.refl G) fun x ρ1 a1 v H1 G1 S1 g1 r1 => ?_)
    refine tOs_ev S1 ((Ask.then a1).imp g1 fun xs ρ2 k vs H2 G2 S2 g2 r2 => ?_)
    exact k (v :: vs) H2 G2 S2 (g1.trans g2) ⟨r1.mono g2, r2⟩
def mTup (ms : List ME) : ME := fun ρ => (evm ms ρ).then fun ds ρ' => .ok (.tuple ds) ρ'
def mLst (ms : List ME) : ME := fun ρ => (evm ms ρ).then fun ds ρ' => .ok (.list ds) ρ'
theorem me_tup {ms : List ME} {x1 : Nat} (h : PA X es (tMs c ms)) (hz : ms.length ≤ sizeLine := by decide) : PE X (.Tuple es x1 pos) (tE c (mTup ms)) := pe_conseq (pe_tup h) fun σ H Q ⟨F, ρ, G, S, a⟩ => by
  refine tMs_ev S ((Ask.then a).imp (GLe.refl G) fun ds ρ' k vs H' G' S' gl r hl => ⟨by rw [hl]; exact hz, fun p hp => ?_⟩)
  have gl2 : GLe G' (upd G' p (.tup vs)) := GLe.upd (S'.gnone hp)
  exact k _ _ _ (S'.add hp) (gl.trans gl2) ((ObjD.tup (RpL.mono gl2 _ _ r)).rp upd_same)
theorem fe_lst {ms : List ME} (h : PA X es (tMs c ms)) (hz : ms.length ≤ sizeLine := by decide) : PE X (.List es pos) (tF c (mLst ms)) := pe_conseq (pe_lst h) fun σ H Q ⟨F, ρ, G, S, a⟩ => by
  refine tMs_ev S ((Ask.then a).imp (GLe.refl G) fun ds ρ' k vs H' G' S' gl r hl => ⟨by rw [hl]; exact hz, fun p hp => ?_⟩)
  exact k p _ G' (S'.alloc hp trivial) gl (NewAt.of S' hp (.lst r) trivial)
def PrimL (K : PySem.W.Frag) (g : List D → Option D) (r : List V → Hp → VK → Prop) : Prop := ∀ (G H : Hp) (xs : List V) (ds : List D) (d : D) (Q : VK), Sub G H → VwL K G H ds xs → g ds = some d → (∀ v H', POut K G H d v H' → Q v H') → r xs H Q
def PrimNL (K : PySem.W.Frag) (g : List D → Option D) (r : List V → Hp → VK → Prop) : Prop := ∀ (G H : Hp) (xs : List V) (ds : List D) (d : D) (Q : VK), Sub G H → VwL K G H ds xs → g ds = some d → (∀ v H', PNew K G H d v H' → Q v H') → r xs H Q
def mFn (g : List D → Option D) (os : List Opd) : ME := fun ρ => (evo os ρ).then fun xs ρ' => match fino os xs ρ' with
  | some ds => (match g ds with
    | some d => .ok d ρ'
    | none => .stuck)
  | none => .stuck
theorem tOs_fn {os : List Opd} {g : List D → Option D} {R : List V → Hp → Prop} {k : D → Env → Prop} (S : State c F ρ σ G H) (a : Ask c F σ G k (mFn g os ρ))
    (hR : ∀ (ρ2 : Env) (G2 H2 : Hp) (xs : List V) (ds : List D) (d : D), State c F ρ2 σ G2 H2 → GLe G G2 → VwL c.K G2 H2 ds xs → g ds = some d → k d ρ2 → R xs H2) : tOs c os σ H R := by
  refine tOs_ev S ((Ask.then a).imp (GLe.refl G) fun xs ρ2 a1 vs H2 G2 S2 g2 r2 => ?_)
  cases e1 : fino os xs ρ2 with
  | none => rw [e1] at a1; exact a1.elim
  | some ds =>
    rw [e1] at a1
    cases e2 : g ds with
    | none => simp only [e2] at a1; exact a1.elim
    | some d =>
      simp only [e2] at a1
      exact hR ρ2 G2 H2 vs ds d S2 g2 (r2.vw S2 e1) e2 a1
theorem tCB_e {os : List Opd} {g : List D → Option D} {r : List V → Hp → VK → Prop} (hp : PrimL c.K g r) {Q : VK} (h : tE c (mFn g os) σ H Q) : tCB r (tOs c os) σ H Q := by
  obtain ⟨F, ρ, G, S, a⟩ := h
  refine tOs_fn S a fun ρ2 G2 H2 xs ds d S2 gl v e k => ?_
  refine hp G2 H2 xs ds d Q S2.sub v e fun v H' po => ?_
  obtain ⟨G', S', gl', r⟩ := po.state S2
  exact k v H' G' S' (gl.trans gl') r
theorem tCB_f {os : List Opd} {g : List D → Option D} {r : List V → Hp → VK → Prop} (hp : PrimNL c.K g r) {Q : VK} (h : tF c (mFn g os) σ H Q) : tCB r (tOs c os) σ H Q := by
  obtain ⟨F, ρ, G, S, a⟩ := h
  refine tOs_fn S a fun ρ2 G2 H2 xs ds d S2 gl v e k => ?_
  refine hp G2 H2 xs ds d Q S2.sub v e fun v H' ⟨p, o, ev, n, eH, x, hm⟩ => ?_
  rw [ev, eH]
  exact k p _ G2 (S2.alloc n hm) gl (NewAt.of S2 n x hm)
end

set_option autoImplicit true
inductive FR where
  | ok (d : D) (back : List D) | ex (e : Exn) | stuck
abbrev FM := List Sl → FR
/-- the arguments as they lie -/
def ArgsOk (K : PySem.W.Frag) (G H : Hp) : List Sl → List V → Prop
  | [], [] => True
  | .fz d :: ss, v :: vs => Rp K G d v ∧ ArgsOk K G H ss vs
  | .own d :: ss, v :: vs => (∃ p, v = .ref p ∧ Own K G H d p) ∧ ArgsOk K G H ss vs
  | _, _ => False
/-- the owned arguments' objects -/
def owns : List Sl → List V → List Addr
  | .own _ :: ss, .ref p :: vs => p :: owns ss vs
  | _ :: ss, _ :: vs => owns ss vs
  | _, _ => []
def BackOk (K : PySem.W.Frag) (G H : Hp) : List D → List Addr → Prop
  | [], [] => True
  | d :: ds, p :: ps => Own K G H d p ∧ BackOk K G H ds ps
  | _, _ => False
/-- what a call leaves: all but the owned arguments (and the tables) stands -/
structure Post (T : List (Addr × Str)) (G H G' H' : Hp) (os : List Addr) : Prop where
  gl : GLe G G'
  sub : Sub G' H'
  tab : Tabs T H'
  tabG : ∀ p ∈ T, G' p.1 = none
  fg : ∀ a u, H a = some u → FgG G a u → a ∉ os → (∀ ps, u ≠ .tbl ps) → H' a = some u ∧ FgG G' a u
  dom : ∀ a, Dm H a → Dm H' a
  tupG : ∀ (q : Addr) (ks : List Key), H' q = some (.tup (ks.map kV)) → G' q = some (.tup (ks.map kV))
def spM (K : PySem.W.Frag) (T : List (Addr × Str)) (mg : Str → Option Value) (n : Nat) (f : FM) : Sp := fun vs H Q E => vs.length = n ∧ ∃ (G : Hp) (ss : List Sl), Sub G H ∧ Tabs T H ∧ (∀ p ∈ T, G p.1 = none) ∧ (∀ (q : Addr) (ks : List Key), H q = some (.tup (ks.map kV)) → G q = some (.tup (ks.map kV))) ∧ ArgsOk K G H ss vs ∧ (owns ss vs).Nodup ∧
  match f ss with
  | .ok d back => ∀ v H' G', Post T G H G' H' (owns ss vs) → Rp K G' d v → BackOk K G' H' back (owns ss vs) → Q v H'
  | .ex e => ∀ cls dx H' G', Post T G H G' H' (owns ss vs) → ExOk ⟨K, T, mg, fun _ _ _ _ => False, []⟩ G' e cls dx H' → E cls dx H'
  | .stuck => False
inductive Arg where
  | v (m : ME) | io (i : Nat)
def Arg.opd : Arg → Opd
  | .v m => .ex m
  | .io i => .sl i
def eva : List Arg → Env → Rs (List (Option D))
  | [], ρ => .ok [] ρ
  | a :: as, ρ => (a.opd.ev ρ).then fun x ρ1 => (eva as ρ1).then fun xs ρ2 => .ok (x :: xs) ρ2
/-- the slots that are handed over -/
def sls : List Arg → List (Option D) → Env → Option (List Sl)
  | [], [], _ => some []
  | .v _ :: as, some d :: xs, ρ => (sls as xs ρ).map fun r => .fz d :: r
  | .io i :: as, _ :: xs, ρ => match ρ[i]? with
    | some (.own d) => (sls as xs ρ).map fun r => .own d :: r
    | _ => none
  | _, _, _ => none
def ioIx : List Arg → List Nat
  | [] => []
  | .v _ :: as => ioIx as
  | .io i :: as => i :: ioIx as
def putBack : List Nat → List D → Env → Env
  | i :: is, d :: ds, ρ => putBack is ds (ρ.set i (.own d))
  | _, _, ρ => ρ
def mCall (f : FM) (as : List Arg) : ME := fun ρ => (eva as ρ).then fun xs ρ' => match sls as xs ρ' with
  | some ss => (match f ss with
    | .ok d back => .ok d (putBack (ioIx as) back ρ')
    | .ex e => if ioIx as = [] then .ex e ρ' else .stuck
    | .stuck => .stuck)
  | none => .stuck
def tAs (c : Ct) : List Arg → TA
  | [] => tNil
  | a :: as => tCons (tO c a.opd) (tAs c as)
section
variable {X : Cx} {c : Ct} {F : Fr} {ρ : Env} {σ : L2.St} {G H : Hp} {e : Expr} {es : List Expr} {pos : Pos}
theorem ma_nil : PA X [] (tAs c []) := pa_nil
theorem ma_v {m : ME} {as : List Arg} (h : PE X e (tE c m)) (hr : PA X es (tAs c as)) (hs : starEach (e :: es) X.env = (false, eval e X.env) :: starEach es X.env := by rfl) : PA X (e :: es) (tAs c (.v m :: as)) := pa_cons h hr hs
theorem ma_io {i : Nat} {as : List Arg} (h : PE X e (tVar i)) (hr : PA X es (tAs c as)) (hs : starEach (e :: es) X.env = (false, eval e X.env) :: starEach es X.env := by rfl) : PA X (e :: es) (tAs c (.io i :: as)) := pa_cons h hr hs
theorem tAs_eq : ∀ as : List Arg, tAs c as = tOs c (as.map Arg.opd)
  | [] => rfl
  | a :: as => by show tCons _ _ = tCons _ _; rw [tAs_eq as]
theorem eva_eq : ∀ (as : List Arg) (ρ : Env), eva as ρ = evo (as.map Arg.opd) ρ
  | [], _ => rfl
  | a :: as, ρ => by
    show Rs.then _ _ = Rs.then _ _
    congr 1
    funext x ρ1
    rw [eva_eq as ρ1]
theorem sls_args (S : State c F ρ σ G H) : ∀ {as : List Arg} {xs : List (Option D)} {vs : List V} {ss : List Sl}, OpVs c σ G (as.map Arg.opd) xs vs → sls as xs ρ = some ss →
    ArgsOk c.K G H ss vs ∧ vs.length = as.length ∧ (∃ qs : List (Nat × Addr), qs.map (·.1) = ioIx as ∧ qs.map (·.2) = owns ss vs ∧ ∀ q ∈ qs, σ[q.1]? = some (some (V.ref q.2)) ∧ ∃ d, ρ[q.1]? = some (.own d))
  | [], [], [], ss, _, h => by
    cases h
    exact ⟨trivial, rfl, [], rfl, rfl, fun _ z => (nomatch z)⟩
  | .v m :: as, x :: xs, v :: vs, ss, hv, h => by
    obtain ⟨⟨d, e, r⟩, hr⟩ := hv
    subst e
    simp only [sls] at h
    cases e2 : sls as xs ρ with
    | none => rw [e2] at h; cases h
    | some r2 =>
      rw [e2] at h
      cases h
      obtain ⟨h1, h2, qs, h3, h4, h5⟩ := sls_args S hr e2
      refine ⟨⟨r, h1⟩, by rw [List.length_cons, List.length_cons, h2], qs, h3, ?_, h5⟩
      rw [h4]
      cases v <;> rfl
  | .io i :: as, x :: xs, v :: vs, ss, hv, h => by
    obtain ⟨hv1, hr⟩ := hv
    have hv1 : σ[i]? = some (some v) := hv1
    simp only [sls] at h
    split at h
    · rename_i d e1
      cases e2 : sls as xs ρ with
      | none => rw [e2] at h; cases h
      | some r2 =>
        rw [e2] at h
        cases h
        obtain ⟨h1, h2, qs, h3, h4, h5⟩ := sls_args S hr e2
        obtain ⟨p, ep, ow, _⟩ := S.own_at e1
        rw [hv1] at ep
        cases ep
        refine ⟨⟨⟨p, rfl, ow⟩, h1⟩, by rw [List.length_cons, List.length_cons, h2], (i, p) :: qs, ?_, ?_, fun q hq => ?_⟩
        · rw [List.map_cons, h3]; rfl
        · rw [List.map_cons, h4]; rfl
        · rcases List.mem_cons.mp hq with e | e
          · subst e
            exact ⟨hv1, d, e1⟩
          · exact h5 q e
    · cases h
theorem nodup_of {qs : List (Nat × Addr)} (hn : (qs.map (·.1)).Nodup) (S : State c F ρ σ G H) (hq : ∀ q ∈ qs, σ[q.1]? = some (some (V.ref q.2)) ∧ ∃ d, ρ[q.1]? = some (.own d)) : (qs.map (·.2)).Nodup := by
  induction qs with
  | nil => exact List.nodup_nil
  | cons q r ih =>
    rw [List.map_cons, List.nodup_cons] at hn ⊢
    refine ⟨fun hm => ?_, ih hn.2 fun z hz => hq z (List.mem_cons_of_mem _ hz)⟩
    obtain ⟨z, hz, e⟩ := List.mem_map.mp hm
    obtain ⟨a1, d1, a2⟩ := hq q List.mem_cons_self
    obtain ⟨b1, d2, b2⟩ := hq z (List.mem_cons_of_mem _ hz)
    rw [e] at b1
    have := S.apart _ _ _ _ _ a2 b2 a1 b1
    exact hn.1 (by rw [this]; exact List.mem_map.mpr ⟨z, hz, rfl⟩)
/-- behind the callee, ahead of its own slots' being put back: the owned slots of the call are empty -/
theorem State.back (S : State c F ρ σ G H) {G' H' : Hp} {os : List Addr} (P : Post c.T G H G' H' os) : ∀ (qs : List (Nat × Addr)) (ds : List D), (qs.map (·.1)).Nodup → (∀ q ∈ qs, σ[q.1]? = some (some (V.ref q.2)) ∧ ∃ d, ρ[q.1]? = some (.own d)) →
    qs.map (·.2) = os → BackOk c.K G' H' ds os → State c F (putBack (qs.map (·.1)) ds ρ) σ G' H' := by
  intro qs ds hn hq ho hb
  have key : ∀ (qs : List (Nat × Addr)) (ds : List D) (ρ1 : Env), (qs.map (·.1)).Nodup → (∀ q ∈ qs, σ[q.1]? = some (some (V.ref q.2)) ∧ (∃ d, ρ1[q.1]? = some (.own d)) ∧ (¬ F.dom q.2 ∨ (q.1, q.2) ∈ F.io)) → BackOk c.K G' H' ds (qs.map (·.2)) →
      ρ1.length = σ.length → (∀ (i j : Nat) (p : Addr) (d e : D), ρ1[i]? = some (.own d) → ρ1[j]? = some (.own e) → σ[i]? = some (some (.ref p)) → σ[j]? = some (some (.ref p)) → i = j) →
      (∀ (i : Nat) (s : Sl), ρ1[i]? = some s → i ∉ qs.map (·.1) → SlOk c.K G' H' F σ i s) → State c F (putBack (qs.map (·.1)) ds ρ1) σ G' H' := by
    intro qs
    induction qs with
    | nil =>
      intro ds ρ1 _ _ _ hl ha hs
      have e : putBack (([] : List (Nat × Addr)).map (·.1)) ds ρ1 = ρ1 := by cases ds <;> rfl
      rw [e]
      refine ⟨P.sub, fun a u ea => ?_, S.wf, fun a ea => P.dom a (S.dom a ea), P.tab, P.tabG, hl, fun i s ei => hs i s ei (by simp), ha, S.io, S.ios, S.ioD, P.tupG⟩
      obtain ⟨e1, e2⟩ := S.fg a u ea
      refine P.fg a u e1 e2 (fun hm => ?_) (fun ps z => ?_)
      · rw [← ho] at hm
        obtain ⟨q, hqm, eq⟩ := List.mem_map.mp hm
        obtain ⟨s1, d, s2⟩ := hq q hqm
        obtain ⟨p, e3, _, e4⟩ := S.own_at s2
        rw [s1] at e3
        cases e3
        have := S.own_fg e4
        rw [eq] at this
        rw [this] at ea
        cases ea
      · exact (S.wf a u ea).2.2 ps z
    | cons q r ih =>
      intro ds ρ1 hn hq hb hl ha hs
      cases ds with
      | nil => exact (show False from hb).elim
      | cons d ds =>
        obtain ⟨hb1, hb2⟩ := hb
        rw [List.map_cons, List.nodup_cons] at hn
        obtain ⟨h1, ⟨d0, h2⟩, h3⟩ := hq q List.mem_cons_self
        show State c F (putBack (r.map (·.1)) ds (ρ1.set q.1 (.own d))) σ G' H'
        refine ih ds (ρ1.set q.1 (.own d)) hn.2 (fun z hz => ?_) hb2 (by rw [List.length_set]; exact hl) (fun i j p x y e1 e2 e3 e4 => ?_) (fun i s ei hi => ?_)
        · obtain ⟨z1, ⟨dz, z2⟩, z3⟩ := hq z (List.mem_cons_of_mem _ hz)
          have ne : q.1 ≠ z.1 := fun e => hn.1 (by rw [e]; exact List.mem_map.mpr ⟨z, hz, rfl⟩)
          exact ⟨z1, ⟨dz, by rw [List.getElem?_set_ne ne]; exact z2⟩, z3⟩
        · have ex : ∀ (k : Nat) (w : D), (ρ1.set q.1 (.own d))[k]? = some (.own w) → ∃ w', ρ1[k]? = some (.own w') := fun k w ek => by
            rcases get_set ek with ⟨rfl, _⟩ | ⟨_, ek⟩
            · exact ⟨d0, h2⟩
            · exact ⟨w, ek⟩
          obtain ⟨x', ex1⟩ := ex i x e1
          obtain ⟨y', ey1⟩ := ex j y e2
          exact ha i j p x' y' ex1 ey1 e3 e4
        · rcases get_set ei with ⟨rfl, rfl⟩ | ⟨ne, ei⟩
          · exact ⟨q.2, h1, hb1, h3⟩
          · exact hs i s ei (by rw [List.map_cons, List.mem_cons, not_or]; exact ⟨fun e => ne e.symm, hi⟩)
  refine key qs ds ρ hn (fun q hqm => ?_) (by rw [ho]; exact hb) S.len S.apart (fun i s ei hi => ?_)
  · obtain ⟨s1, d, s2⟩ := hq q hqm
    obtain ⟨p, e3, _, e4⟩ := S.own_at s2
    rw [s1] at e3
    cases e3
    exact ⟨s1, ⟨d, s2⟩, e4⟩
  · refine (S.sl i s ei).mono P.gl fun p d es ep ow => ?_
    obtain ⟨hg, o, hoo, hd, _⟩ := ow
    have hno : p ∉ os := fun hm => by
      rw [← ho] at hm
      obtain ⟨q, hqm, eq⟩ := List.mem_map.mp hm
      obtain ⟨s1, d', s2⟩ := hq q hqm
      rw [eq] at s1
      have := S.apart i q.1 p d d' (by rw [ei, es]) s2 ep s1
      exact hi (by rw [this]; exact List.mem_map.mpr ⟨q, hqm, rfl⟩)
    obtain ⟨z1, z2⟩ := P.fg p o hoo (.inl hg) hno hd.notTbl.1
    exact ⟨z2.none hd.notTbl.2, by rw [z1, hoo]⟩
theorem me_call {k : Nat} {f : Addr} {fd : FuncData} {ps : List Str} {x : Str} {p : Pos} {n : Nat} {m : FM} {as : List Arg} (Fn : FnOk X.prog X.w X.K X.mg X.base (L2.CX X.prog X.w) k f fd ps (spM c.K c.T c.mg n m)) (hr : Room k X.A) (tk : Takes X c.W)
    (hg : Gl X x) (hm : X.mg x = some (.ref f)) (hk : PySem.W.keepIn X.K (.ref f) = true) (hb : Binds X.K fd ps []) (ha : PA X (e :: es) (tAs c as)) (hl : as.length = n := by rfl) (hnd : (ioIx as).Nodup := by decide)
    (hdb : (x == ("__debug__" : Str)) = false := by decide) (he : starEach (e :: es) X.env = (false, eval e X.env) :: starEach es X.env := by rfl) (hpl : (backTo pos (starEach es X.env)).any (·.1) = false := by rfl) :
    PE X (.Call (.Name x p) (e :: es) [] pos) (tE c (mCall m as)) := pe_conseq (pe_callS Fn hr hg hm hk hb (fun σ => passAt tk σ) ha hdb he hpl) fun σ H Q ⟨F, ρ, G, S, a⟩ => by
  show tAs c as σ H fun vs H1 => spM c.K c.T c.mg n m vs H1 Q (WE c.W σ)
  rw [tAs_eq]
  refine tOs_ev S ?_
  rw [← eva_eq]
  refine (Ask.then a).imp (GLe.refl G) fun xs ρ1 a1 vs H1 G1 S1 g1 hv => ?_
  cases es : sls as xs ρ1 with
  | none => rw [es] at a1; exact a1.elim
  | some ss =>
    rw [es] at a1
    simp only at a1
    obtain ⟨h1, h2, qs, h3, h4, h5⟩ := sls_args S1 hv es
    have hn : (qs.map (·.1)).Nodup := by rw [h3]; exact hnd
    refine ⟨by rw [h2, hl], G1, ss, S1.sub, S1.tab, S1.tabG, S1.tupG, h1, by rw [← h4]; exact nodup_of hn S1 h5, ?_⟩
    cases em : m ss with
    | ok d back =>
      rw [em] at a1
      simp only at a1 ⊢
      intro v H' G' P r hbk
      have S' := S1.back P qs back hn h5 h4 hbk
      rw [h3] at S'
      exact a1 v H' G' S' (g1.trans P.gl) r
    | ex e =>
      rw [em] at a1
      simp only at a1 ⊢
      by_cases e0 : ioIx as = []
      · rw [if_pos e0] at a1
        intro cls dx H' G' P x
        have q0 : qs = [] := by
          rw [e0] at h3
          exact List.map_eq_nil_iff.mp h3
        have o0 : owns ss vs = [] := by rw [← h4, q0]; rfl
        rw [o0] at P
        have S' := S1.back P [] [] List.nodup_nil (fun _ z => (nomatch z)) rfl trivial
        exact a1 cls dx H' G' S' (g1.trans P.gl) x
      · rw [if_neg e0] at a1
        exact a1.elim
    | stuck => rw [em] at a1; exact False.elim a1
end

set_option autoImplicit true
def Fr.plus (F : Fr) (p : Addr) (o : HO) : Fr := ⟨upd F.fg p o, fun a => F.dom a ∨ a = p, F.io⟩
section
variable {c : Ct} {F : Fr} {ρ : Env} {σ : L2.St} {G H : Hp}
theorem State.plus (S : State c F ρ σ G H) {d : D} {p : Addr} {o : HO} (n : NewAt c F ρ σ G H d p) (ho : H p = some o) : State c (F.plus p o) ρ σ G H := by
  obtain ⟨ow, nd, na⟩ := n
  obtain ⟨hg, o', ho', hd, hm⟩ := id ow
  rw [ho] at ho'
  cases ho'
  refine ⟨S.sub, fun a u e => ?_, fun a u e => ?_, fun a e => ?_, S.tab, S.tabG, S.len, fun i s e => ?_, S.apart, S.io, S.ios, fun q hq => .inl (S.ioD q hq), S.tupG⟩
  · by_cases z : a = p
    · subst z
      have e' : upd F.fg a o a = some u := e
      rw [upd_same] at e'
      cases e'
      exact ⟨ho, .inl hg⟩
    · have e' : upd F.fg p o a = some u := e
      rw [upd_ne z] at e'
      exact S.fg a u e'
  · by_cases z : a = p
    · subst z
      have e' : upd F.fg a o a = some u := e
      rw [upd_same] at e'
      cases e'
      exact ⟨.inr rfl, fun i hi => nd (S.ioD _ hi), hd.notTbl.1⟩
    · have e' : upd F.fg p o a = some u := e
      rw [upd_ne z] at e'
      obtain ⟨h1, h2, h3⟩ := S.wf a u e'
      exact ⟨.inl h1, h2, h3⟩
  · rcases e with e | e
    · exact S.dom a e
    · subst e
      exact ⟨o, ho, hd.notTbl.1⟩
  · cases s with
    | no => trivial
    | fz d => exact S.sl i _ e
    | own d =>
      obtain ⟨q, e1, e2, e3⟩ := S.own_at e
      refine ⟨q, e1, e2, ?_⟩
      rcases e3 with e3 | e3
      · refine .inl fun z => z.elim e3 fun z => ?_
        rw [z] at e1
        exact na i d e e1
      · exact .inr e3
/-- .. and may be let go -/
theorem State.minus {p : Addr} {o : HO} (nd : ¬ F.dom p) (hf : F.fg p = none) (S : State c (F.plus p o) ρ σ G H) : State c F ρ σ G H where
  sub := S.sub
  fg := fun a u e => S.fg a u (by show upd F.fg p o a = some u; rw [upd_ne (ne_of_none e hf)]; exact e)
  wf := fun a u e => by
    obtain ⟨h1, h2, h3⟩ := S.wf a u (by show upd F.fg p o a = some u; rw [upd_ne (ne_of_none e hf)]; exact e)
    refine ⟨h1.elim id fun z => ?_, h2, h3⟩
    rw [z, hf] at e
    cases e
  dom := fun a e => S.dom a (.inl e)
  tab := S.tab
  tabG := S.tabG
  len := S.len
  sl := fun i s e => by
    cases s with
    | no => trivial
    | fz d => exact S.sl i _ e
    | own d =>
      obtain ⟨q, e1, e2, e3⟩ := S.own_at e
      exact ⟨q, e1, e2, e3.imp (fun z y => z (.inl y)) id⟩
  apart := S.apart
  io := S.io
  ios := S.ios
  ioD := fun q hq => (S.ioD q hq).elim id fun z => by
    -- p itself is none of them
    exfalso
    have : (q.1, q.2) ∈ (F.plus p o).io := hq
    have h2 := (S.wf p o (by show upd F.fg p o p = some o; exact upd_same)).2.1 q.1
    rw [← z] at h2
    exact h2 hq
  tupG := S.tupG
/-- what stood beside is a new container still -/
theorem NewAt.still {d : D} {p : Addr} {o : HO} (nd : ¬ F.dom p) (hd : ObjD c.K G d o) (hm : Mut (some o)) (S : State c (F.plus p o) ρ σ G H) : NewAt c F ρ σ G H d p := by
  obtain ⟨h1, h2⟩ := S.fg p o (by show upd F.fg p o p = some o; exact upd_same)
  refine ⟨⟨h2.none hd.notTbl.2, o, h1, hd, hm⟩, nd, fun i e ei es => ?_⟩
  obtain ⟨q, e1, _, e3⟩ := S.own_at ei
  rw [es] at e1
  cases e1
  rcases e3 with e3 | e3
  · exact e3 (.inr rfl)
  · exact (S.wf p o (by show upd F.fg p o p = some o; exact upd_same)).2.1 i e3
theorem NewAt.fgn {d : D} {p : Addr} (S : State c F ρ σ G H) (n : NewAt c F ρ σ G H d p) : F.fg p = none := by
  cases e : F.fg p with
  | none => rfl
  | some u => exact (n.2.1 (S.wf p u e).1).elim
theorem Ask.minus {p : Addr} {o : HO} {α : Type} {k : α → Env → Prop} {r : Rs α} (nd : ¬ F.dom p) (hf : F.fg p = none) (h : Ask c F σ G k r) : Ask c (F.plus p o) σ G k r := by
  cases r with
  | ok a ρ => exact h
  | ex e ρ => exact fun cls dx H' G' S gl x => h cls dx H' G' (S.minus nd hf) gl x
  | stuck => exact h
theorem mem_ios {i : Nat} (S : State c F ρ σ G H) (hi : i ∉ c.ios) : ∀ q ∈ F.io, q.1 ≠ i := fun q hq e => hi (by rw [← S.ios, ← e]; exact List.mem_map.mpr ⟨q, hq, rfl⟩)
theorem State.setFz (S : State c F ρ σ G H) {i : Nat} {d : D} {v : V} (r : Rp c.K G d v) (hi : i ∉ c.ios) : State c F (ρ.set i (.fz d)) (σ.set i (some v)) G H := by
  refine ⟨S.sub, S.fg, S.wf, S.dom, S.tab, S.tabG, by rw [List.length_set, List.length_set]; exact S.len, fun j s e => ?_, fun j k p x y h1 h2 h3 h4 => ?_, fun q hq => ?_, S.ios, S.ioD, S.tupG⟩
  · rcases get_set e with ⟨rfl, rfl⟩ | ⟨ne, e⟩
    · have hl : i < σ.length := by
        have h1 := (List.getElem?_eq_some_iff.mp e).1
        rw [List.length_set, S.len] at h1
        exact h1
      exact ⟨v, by rw [List.getElem?_set_self hl], r⟩
    · have q := S.sl j s e
      cases s with
      | no => trivial
      | fz x =>
        obtain ⟨u, e1, e2⟩ := q
        exact ⟨u, by rw [List.getElem?_set_ne ne]; exact e1, e2⟩
      | own x =>
        obtain ⟨p, e1, e2⟩ := q
        exact ⟨p, by rw [List.getElem?_set_ne ne]; exact e1, e2⟩
  · rcases get_set h1 with ⟨_, z⟩ | ⟨n1, h1⟩
    · cases z
    · rcases get_set h2 with ⟨_, z⟩ | ⟨n2, h2⟩
      · cases z
      · rw [List.getElem?_set_ne n1] at h3
        rw [List.getElem?_set_ne n2] at h4
        exact S.apart j k p x y h1 h2 h3 h4
  · rw [List.getElem?_set_ne (fun e => mem_ios S hi q hq e.symm)]
    exact S.io q hq
theorem State.setOwn (S : State c F ρ σ G H) {i : Nat} {d : D} {p : Addr} (n : NewAt c F ρ σ G H d p) (hi : i ∉ c.ios) : State c F (ρ.set i (.own d)) (σ.set i (some (.ref p))) G H := by
  obtain ⟨ow, nd, na⟩ := n
  refine ⟨S.sub, S.fg, S.wf, S.dom, S.tab, S.tabG, by rw [List.length_set, List.length_set]; exact S.len, fun j s e => ?_, fun j k q x y h1 h2 h3 h4 => ?_, fun q hq => ?_, S.ios, S.ioD, S.tupG⟩
  · rcases get_set e with ⟨rfl, rfl⟩ | ⟨ne, e⟩
    · have hl : i < σ.length := by
        have h1 := (List.getElem?_eq_some_iff.mp e).1
        rw [List.length_set, S.len] at h1
        exact h1
      exact ⟨p, by rw [List.getElem?_set_self hl], ow, .inl nd⟩
    · have q := S.sl j s e
      cases s with
      | no => trivial
      | fz x =>
        obtain ⟨u, e1, e2⟩ := q
        exact ⟨u, by rw [List.getElem?_set_ne ne]; exact e1, e2⟩
      | own x =>
        obtain ⟨p, e1, e2⟩ := q
        exact ⟨p, by rw [List.getElem?_set_ne ne]; exact e1, e2⟩
  · rcases get_set h1 with ⟨rfl, _⟩ | ⟨n1, h1⟩
    · rcases get_set h2 with ⟨rfl, _⟩ | ⟨n2, h2⟩
      · rfl
      · rw [List.getElem?_set_ne n2] at h4
        have hl : i < σ.length := by
          by_cases hl : i < σ.length
          · exact hl
          · rw [List.getElem?_eq_none (by rw [List.length_set]; omega)] at h3
            cases h3
        rw [List.getElem?_set_self hl] at h3
        cases h3
        exact (na k y h2 h4).elim
    · rw [List.getElem?_set_ne n1] at h3
      rcases get_set h2 with ⟨rfl, _⟩ | ⟨n2, h2⟩
      · have hl : i < σ.length := by
          by_cases hl : i < σ.length
          · exact hl
          · rw [List.getElem?_eq_none (by rw [List.length_set]; omega)] at h4
            cases h4
        rw [List.getElem?_set_self hl] at h4
        cases h4
        exact (na j x h1 h3).elim
      · rw [List.getElem?_set_ne n2] at h4
        exact S.apart j k q x y h1 h2 h3 h4
  · rw [List.getElem?_set_ne (fun e => mem_ios S hi q hq e.symm)]
    exact S.io q hq
/-- an owned object changes -/
theorem State.change (S : State c F ρ σ G H) {i : Nat} {d d' : D} {p : Addr} {o : HO} (e : ρ[i]? = some (.own d)) (es : σ[i]? = some (some (.ref p))) (hd : ObjD c.K G d' o) (hm : Mut (some o)) : State c F (ρ.set i (.own d')) σ G (upd H p o) := by
  obtain ⟨p', e1, ow, q⟩ := S.own_at e
  rw [es] at e1
  cases e1
  obtain ⟨hg, o0, ho, hd0, hm0⟩ := id ow
  have nfg := S.own_fg q
  refine ⟨⟨fun a u r => ?_, S.sub.2⟩, fun a u ea => ?_, S.wf, fun a ea => ?_, fun t ht => ?_, S.tabG, by rw [List.length_set]; exact S.len, fun j s ej => ?_, fun j k b x y h1 h2 h3 h4 => ?_, S.io, S.ios, S.ioD, fun q ks eq => ?_⟩
  · have ne : a ≠ p := fun z => by
      rw [z, hg] at r
      cases r
    rcases S.sub.1 a u r with h | ⟨id, ob, h⟩
    · exact .inl (by rw [upd_ne ne]; exact h)
    · exact .inr ⟨id, ob, by rw [upd_ne ne]; exact h⟩
  · obtain ⟨h1, h2⟩ := S.fg a u ea
    exact ⟨by rw [upd_ne (ne_of_none ea nfg)]; exact h1, h2⟩
  · by_cases ne : a = p
    · exact ⟨o, by rw [ne]; exact upd_same, hd.notTbl.1⟩
    · obtain ⟨u, hu, hn⟩ := S.dom a ea
      exact ⟨u, by rw [upd_ne ne]; exact hu, hn⟩
  · obtain ⟨ps, t1, t2, t3⟩ := S.tab t ht
    refine ⟨ps, by rw [upd_ne (S.own_tab ow t ht)]; exact t1, t2, fun pos cv hc => ?_⟩
    obtain ⟨k, k1, k2⟩ := t3 pos cv hc
    have ne : k ≠ p := fun z => by
      rw [z, ho] at k2
      have h := Option.some.inj k2
      unfold CodeO at h
      cases hd0 <;> cases h
    exact ⟨k, k1, by rw [upd_ne ne]; exact k2⟩
  · rcases get_set ej with ⟨rfl, rfl⟩ | ⟨ne, ej⟩
    · exact ⟨p, es, ⟨hg, o, upd_same, hd, hm⟩, q⟩
    · refine (S.sl j s ej).mono (GLe.refl G) fun b x ex eb owb => ?_
      have nb : b ≠ p := fun z => by
        rw [z] at eb
        exact ne (S.apart i j p d x e (by rw [ej, ex]) es eb)
      exact ⟨owb.1, upd_ne nb⟩
  · have ex : ∀ (k : Nat) (w : D), (ρ.set i (.own d'))[k]? = some (.own w) → ∃ w', ρ[k]? = some (.own w') := fun k w ek => by
      rcases get_set ek with ⟨rfl, _⟩ | ⟨_, ek⟩
      · exact ⟨d, e⟩
      · exact ⟨w, ek⟩
    obtain ⟨x', ex1⟩ := ex j x h1
    obtain ⟨y', ey1⟩ := ex k y h2
    exact S.apart j k b x' y' ex1 ey1 h3 h4
  · by_cases z : q = p
    · rw [z, upd_same] at eq
      cases eq
      exact hm.elim
    · rw [upd_ne z] at eq
      exact S.tupG q ks eq
end

set_option autoImplicit true
inductive SR where
  | nx (ρ : Env) | rt (d : D) (ρ : Env) | ex (e : Exn) (ρ : Env) | stuck
abbrev SM := Env → SR
def Rs.sr {α : Type} : Rs α → (α → Env → SR) → SR
  | .ok a ρ, f => f a ρ
  | .ex e ρ, _ => .ex e ρ
  | .stuck, _ => .stuck
def SAsk (c : Ct) (F : Fr) (G : Hp) (D : Ends) : SR → Prop
  | .nx ρ => ∀ σ' H' G', State c F ρ σ' G' H' → GLe G G' → D.nx σ' H'
  | .rt d ρ => ∀ v σ' H' G', State c F ρ σ' G' H' → GLe G G' → Rp c.K G' d v → D.rt v H'
  | .ex e ρ => ∀ cls dx σ' H' G', State c F ρ σ' G' H' → GLe G G' → ExOk c G' e cls dx H' → c.W cls dx σ' H'
  | .stuck => False
def tS (c : Ct) (m : SM) : TS := fun D σ H => ∃ F ρ G, State c F ρ σ G H ∧ SAsk c F G D (m ρ)
theorem SAsk.mono {c : Ct} {F : Fr} {G G1 : Hp} {D : Ends} {r : SR} (g : GLe G G1) (h : SAsk c F G D r) : SAsk c F G1 D r := by
  cases r with
  | nx ρ => exact fun σ' H' G' S gl => h σ' H' G' S (g.trans gl)
  | rt d ρ => exact fun v σ' H' G' S gl => h v σ' H' G' S (g.trans gl)
  | ex e ρ => exact fun cls dx σ' H' G' S gl => h cls dx σ' H' G' S (g.trans gl)
  | stuck => exact h
theorem SAsk.sr {c : Ct} {F : Fr} {σ : L2.St} {G : Hp} {D : Ends} {α : Type} {r : Rs α} {f : α → Env → SR} (h : SAsk c F G D (r.sr f)) : Ask c F σ G (fun a ρ => SAsk c F G D (f a ρ)) r := by
  cases r with
  | ok a ρ => exact h
  | ex e ρ => exact fun cls dx H' G' S gl x => h cls dx σ H' G' S gl x
  | stuck => exact h
section
variable {X : Cx} {c : Ct} {F : Fr} {ρ : Env} {σ : L2.St} {G H : Hp} {e : Expr} {es : List Expr} {pos : Pos} {st : Stmt} {rest : List Stmt}
theorem ps_conseq {t t' : TS} (h : PS X st t) (hi : ∀ D σ H, t' D σ H → t D σ H) : PS X st t' := ⟨fun pins s σ H D I q => h.run pins s σ H D I (hi _ _ _ q)⟩
theorem pss_conseq {t t' : TS} (h : PSs X rest t) (hi : ∀ D σ H, t' D σ H → t D σ H) : PSs X rest t' := ⟨fun pins s σ H D I q => h.run pins s σ H D I (hi _ _ _ q)⟩
def sNil : SM := fun ρ => .nx ρ
def sSeq (a b : SM) : SM := fun ρ => match a ρ with
  | .nx ρ' => b ρ'
  | r => r
theorem ss_nil : PSs X [] (tS c sNil) := pss_conseq pss_nil fun D σ H ⟨F, ρ, G, S, a⟩ => a σ H G S (GLe.refl G)
theorem ss_cons {a b : SM} (h : PS X st (tS c a)) (h2 : PSs X rest (tS c b)) : PSs X (st :: rest) (tS c (sSeq a b)) := pss_conseq (pss_cons h h2) fun D σ H ⟨F, ρ, G, S, q⟩ => by
  refine ⟨F, ρ, G, S, ?_⟩
  unfold sSeq at q
  cases e : a ρ with
  | nx ρ' =>
    rw [e] at q
    exact fun σ' H' G' S' gl => ⟨F, ρ', G', S', SAsk.mono gl q⟩
  | rt d ρ' => rw [e] at q; exact q
  | ex x ρ' => rw [e] at q; exact q
  | stuck => rw [e] at q; exact q
theorem ss_one {a : SM} (h : PS X st (tS c a)) : PSs X [st] (tS c a) := pss_one h
def sRet (m : ME) : SM := fun ρ => (m ρ).sr fun d ρ' => .rt d ρ'
theorem st_ret {m : ME} (h : PE X e (tE c m)) : PS X (.Return (some e) pos) (tS c (sRet m)) := ps_conseq (ps_ret h) fun D σ H ⟨F, ρ, G, S, a⟩ =>
  ⟨F, ρ, G, S, (SAsk.sr a).imp (GLe.refl G) fun d ρ' k v H' G' S' gl r => k v σ H' G' S' gl r⟩
def sDo (m : ME) : SM := fun ρ => (m ρ).sr fun _ ρ' => .nx ρ'
theorem st_expr {m : ME} (h : PE X e (tE c m)) (hs : swapsWith e none pos.line X.env = pure false := by rfl) : PS X (.Expr e pos) (tS c (sDo m)) := ps_conseq (ps_expr h hs) fun D σ H ⟨F, ρ, G, S, a⟩ =>
  ⟨F, ρ, G, S, (SAsk.sr a).imp (GLe.refl G) fun d ρ' k v H' G' S' gl r => k σ H' G' S' gl⟩
def sIf (t : MB) (a b : SM) : SM := fun ρ => (t ρ).sr fun x ρ' => if x = true then a ρ' else b ρ'
theorem st_if {cd : Expr} {a b : List Stmt} {t : MB} {m n : SM} (ht : PT X cd (tT c t)) (ha : PSs X a (tS c m)) (hb : PSs X b (tS c n)) : PS X (.If cd a b pos) (tS c (sIf t m n)) := ps_conseq (ps_if ht ha hb) fun D σ H ⟨F, ρ, G, S, q⟩ =>
  ⟨F, ρ, G, S, (SAsk.sr q).imp (GLe.refl G) fun x ρ' k H' G' S' gl => by
    cases x with
    | true => exact ⟨F, ρ', G', S', SAsk.mono gl k⟩
    | false => exact ⟨F, ρ', G', S', SAsk.mono gl k⟩⟩
def sSet (i : Nat) (m : ME) : SM := fun ρ => (m ρ).sr fun d ρ' => .nx (ρ'.set i (.fz d))
def sOwn (i : Nat) (m : ME) : SM := fun ρ => (m ρ).sr fun d ρ' => .nx (ρ'.set i (.own d))
theorem st_set {i : Nat} {x : Str} {m : ME} {pos' : Pos} (hN : X.N.Nodup) (hi : X.N[i]? = some x) (hx : Loc X.env.scope x) (he : PE X e (tE c m)) (hio : i ∉ c.ios) (hs : swapsWith e (some (.Name x pos')) pos.line X.env = pure false := by rfl)
    (hf : X.fn x = true ∨ X.env.scope.names.lookup x = some .local := by first | exact .inl rfl | exact .inr rfl | assumption) : PS X (.Assign [.Name x pos'] e pos) (tS c (sSet i m)) := ps_conseq (ps_set hN hi hx he hs hf) fun D σ H ⟨F, ρ, G, S, a⟩ =>
  ⟨F, ρ, G, S, (SAsk.sr a).imp (GLe.refl G) fun d ρ' k v H' G' S' gl r => k _ H' G' (S'.setFz r hio) gl⟩
theorem st_own {i : Nat} {x : Str} {m : ME} {pos' : Pos} (hN : X.N.Nodup) (hi : X.N[i]? = some x) (hx : Loc X.env.scope x) (he : PE X e (tF c m)) (hio : i ∉ c.ios) (hs : swapsWith e (some (.Name x pos')) pos.line X.env = pure false := by rfl)
    (hf : X.fn x = true ∨ X.env.scope.names.lookup x = some .local := by first | exact .inl rfl | exact .inr rfl | assumption) : PS X (.Assign [.Name x pos'] e pos) (tS c (sOwn i m)) := ps_conseq (ps_set hN hi hx he hs hf) fun D σ H ⟨F, ρ, G, S, a⟩ =>
  ⟨F, ρ, G, S, (SAsk.sr a).imp (GLe.refl G) fun d ρ' k p H' G' S' gl n => k _ H' G' (S'.setOwn n hio) gl⟩
abbrev TM := D → Env → Rs Unit
/-- the target's slots ts; what it stores is frozen -/
def tG (c : Ct) (ts : List Nat) (tm : TM) : TG := fun v σ H Q => ∃ F ρ G d, State c F ρ σ G H ∧ Rp c.K G d v ∧ match tm d ρ with
  | .ok _ ρ' => ∀ σ' H' G', State c F ρ' σ' G' H' → GLe G G' → σ'.length = σ.length ∧ (∀ i, i ∉ ts → σ'[i]? = σ[i]?) → Q σ' H'
  | .ex e ρ' => ∀ cls dx σ' H' G', State c F ρ' σ' G' H' → GLe G G' → ExOk c G' e cls dx H' → c.W cls dx σ' H'
  | .stuck => False
theorem pg_conseq {tg : Expr} {t t' : TG} (h : PG X tg t) (hi : ∀ v σ H Q, t' v σ H Q → t v σ H Q) : PG X tg t' := ⟨fun pins s σ H v u Q I r q => h.run pins s σ H v u Q I r (hi _ _ _ _ q)⟩
def tmName (i : Nat) : TM := fun d ρ => .ok () (ρ.set i (.fz d))
theorem tg_name {i : Nat} {x : Str} (hN : X.N.Nodup) (hi : X.N[i]? = some x) (hx : Loc X.env.scope x) (hio : i ∉ c.ios) (hf : X.fn x = true ∨ X.env.scope.names.lookup x = some .local := by first | exact .inl rfl | exact .inr rfl | assumption) : PG X (.Name x pos) (tG c [i] (tmName i)) :=
  pg_conseq (pg_name hN hi hx hf) fun v σ H Q ⟨F, ρ, G, d, S, r, k⟩ => k _ H G (S.setFz r hio) (GLe.refl G) ⟨List.length_set, fun j hj => List.getElem?_set_ne (fun e => hj (by simp [e]))⟩
/-- several targets, one behind the other -/
def tmSeq : List TM → List D → Env → Rs Unit
  | [], [], ρ => .ok () ρ
  | t :: ts, d :: ds, ρ => (t d ρ).then fun _ ρ' => tmSeq ts ds ρ'
  | _, _, _ => .stuck
def tGs (c : Ct) : List (List Nat × TM) → TGs
  | [] => gNil
  | t :: ts => gCons (tG c t.1 t.2) (tGs c ts)
theorem gs_nil : PGs X [] (tGs c []) := pgs_nil
theorem gs_cons {tg : Expr} {tgs : List Expr} {ts : List Nat} {tm : TM} {r : List (List Nat × TM)} (h : PG X tg (tG c ts tm)) (hr : PGs X tgs (tGs c r)) (ha : (assignEach (tg :: tgs) X.env).map (·.2) = assign tg X.env :: (assignEach tgs X.env).map (·.2) := by rfl) : PGs X (tg :: tgs) (tGs c ((ts, tm) :: r)) := pgs_cons h hr ha
def tmTup (ts : List (List Nat × TM)) : TM := fun d ρ => match d with
  | .tuple ds => if ds.length = ts.length then tmSeq (ts.map (·.2)) ds ρ else .stuck
  | _ => .stuck
theorem tGs_ev : ∀ {ts : List (List Nat × TM)} {ds : List D} {vs : List V} {ρ : Env} {σ : L2.St} {G H : Hp} {Q : L2.St → Hp → Prop}, State c F ρ σ G H → RpL c.K G ds vs →
    (match tmSeq (ts.map (·.2)) ds ρ with
      | .ok _ ρ' => ∀ σ' H' G', State c F ρ' σ' G' H' → GLe G G' → σ'.length = σ.length ∧ (∀ i, i ∉ (ts.map (·.1)).flatten → σ'[i]? = σ[i]?) → Q σ' H'
      | .ex e ρ' => ∀ cls dx σ' H' G', State c F ρ' σ' G' H' → GLe G G' → ExOk c G' e cls dx H' → c.W cls dx σ' H'
      | .stuck => False) → tGs c ts vs σ H Q
  | [], [], vs, ρ, σ, G, H, Q, S, r, a => ⟨r, a σ H G S (GLe.refl G) ⟨rfl, fun _ _ => rfl⟩⟩
  | [], d :: ds, vs, ρ, σ, G, H, Q, S, r, a => a.elim
  | t :: ts, [], vs, ρ, σ, G, H, Q, S, r, a => a.elim
  | t :: ts, d :: ds, vs, ρ, σ, G, H, Q, S, r, a => by
    obtain ⟨v, us, e, rv, rs⟩ := r
    refine ⟨v, us, e, F, ρ, G, d, S, rv, ?_⟩
    have a' : (match (t.2 d ρ).then fun _ ρ' => tmSeq (ts.map (·.2)) ds ρ' with
      | .ok _ ρ' => ∀ σ' H' G', State c F ρ' σ' G' H' → GLe G G' → σ'.length = σ.length ∧ (∀ i, i ∉ ((t :: ts).map (·.1)).flatten → σ'[i]? = σ[i]?) → Q σ' H'
      | .ex e ρ' => ∀ cls dx σ' H' G', State c F ρ' σ' G' H' → GLe G G' → ExOk c G' e cls dx H' → c.W cls dx σ' H'
      | .stuck => False) := a
    cases ez : t.2 d ρ with
    | stuck => rw [ez] at a'; exact a'
    | ex x ρ1 => rw [ez] at a'; exact a'
    | ok u ρ1 =>
      rw [ez] at a'
      intro σ1 H1 G1 S1 gl hk
      refine tGs_ev S1 (RpL.mono gl _ _ rs) ?_
      have a2 : (match tmSeq (ts.map (·.2)) ds ρ1 with
        | .ok _ ρ' => ∀ σ' H' G', State c F ρ' σ' G' H' → GLe G G' → σ'.length = σ.length ∧ (∀ i, i ∉ ((t :: ts).map (·.1)).flatten → σ'[i]? = σ[i]?) → Q σ' H'
        | .ex e ρ' => ∀ cls dx σ' H' G', State c F ρ' σ' G' H' → GLe G G' → ExOk c G' e cls dx H' → c.W cls dx σ' H'
        | .stuck => False) := a'
      cases ey : tmSeq (ts.map (·.2)) ds ρ1 with
      | stuck => rw [ey] at a2; exact a2
      | ex x ρ2 =>
        rw [ey] at a2
        exact fun cls dx σ' H' G' S' gl' x => a2 cls dx σ' H' G' S' (gl.trans gl') x
      | ok u2 ρ2 =>
        rw [ey] at a2
        refine fun σ' H' G' S' gl' hk' => a2 σ' H' G' S' (gl.trans gl') ⟨hk'.1.trans hk.1, fun i hi => ?_⟩
        rw [List.map_cons, List.flatten_cons, List.mem_append, not_or] at hi
        rw [hk'.2 i hi.2, hk.2 i hi.1]
theorem tg_tup {elts : List Expr} {kk : Nat} {ts : List (List Nat × TM)} (hc : X.calm = true) (h : PGs X elts (tGs c ts)) (hK : X.K = c.K) (hn : (assignEach elts X.env).length = ts.length := by rfl)
    (hst : (assignEach elts X.env).findIdx? (·.1) = none := by rfl) : PG X (.Tuple elts kk pos) (tG c (ts.map (·.1)).flatten (tmTup ts)) :=
  pg_conseq (pg_tup hc h hn hst) fun v σ H Q ⟨F, ρ, G, d, S, r, k⟩ => by
    cases d <;> first | exact k.elim | skip
    rename_i ds
    obtain ⟨a, xs, ev, hq, hr⟩ := r
    unfold tmTup at k
    by_cases hl : ds.length = ts.length
    · simp only [if_pos hl] at k
      exact ⟨a, xs, ev, SqT.of (S.sub.tup hq), by rw [hr.length]; exact hl, tGs_ev S hr k⟩
    · simp only [if_neg hl] at k
end

set_option autoImplicit true
abbrev MI := Env → Rs (List D)
/-- an iterator J gives ds -/
def ItOk (K : PySem.W.Frag) (J : It) (G : Hp) (ds : List D) : Prop := ∀ (i : Nat) (H G' : Hp), GLe G G' → Sub G' H → (∀ d, ds[i]? = some d → J.go i H ∧ ∀ x H', J.yld i H x H' → POut K G' H d x H') ∧ (ds.length = i → J.stop i H)
def tI (c : Ct) (it : MI) : TI := fun σ H R => ∃ F ρ G, State c F ρ σ G H ∧ Ask c F σ G (fun ds ρ' => ∀ J H' G', State c F ρ' σ G' H' → GLe G G' → ItOk c.K J G' ds → R J H') (it ρ)
section
variable {X : Cx} {c : Ct} {F : Fr} {ρ : Env} {σ : L2.St} {G H : Hp} {e tg iter : Expr} {es : List Expr} {pos : Pos} {st : Stmt} {rest body : List Stmt}
theorem pi_conseq {w w' : TI} (h : PI X tg iter w) (hi : ∀ σ H R, w' σ H R → w σ H R) : PI X tg iter w' := ⟨fun pins s σ H R I q => h.run pins s σ H R I (hi _ _ _ q)⟩
theorem pi_either {w w' : TI} (h : PI X tg iter w) (h' : PI X tg iter w') : PI X tg iter (fun σ H R => w σ H R ∨ w' σ H R) := ⟨fun pins s σ H R I q => q.elim (h.run pins s σ H R I) (h'.run pins s σ H R I)⟩
/-- a list's, a tuple's items -/
def iSeq (m : ME) : MI := fun ρ => (m ρ).then fun d ρ' => match d with
  | .list ds => .ok ds ρ'
  | .tuple ds => .ok ds ρ'
  | _ => .stuck
theorem it_list {K : PySem.W.Frag} {a : Addr} {xs : List V} {ds : List D} (h : G a = some (.lst xs)) (r : RpL K G ds xs) : ItOk K (Itl K a) G ds := fun i H G' gl sb => by
  have h' : SqL K H a xs := .of (sb.lst (gl _ _ h))
  refine ⟨fun d e => ?_, fun e => ⟨xs, h', by rw [r.length]; exact Nat.le_of_eq e⟩⟩
  obtain ⟨v, e1, e2⟩ := r.get e
  refine ⟨⟨xs, v, h', e1⟩, fun x H' y => .inl ⟨y.1, ?_⟩⟩
  have e3 := y.2 xs h'
  rw [e1] at e3
  cases e3
  exact Rp.mono gl d _ e2
theorem it_tup {K : PySem.W.Frag} {a : Addr} {xs : List V} {ds : List D} (h : G a = some (.tup xs)) (r : RpL K G ds xs) : ItOk K (Itt K a) G ds := fun i H G' gl sb => by
  have h' : SqT K H a xs := .of (sb.tup (gl _ _ h))
  refine ⟨fun d e => ?_, fun e => ⟨xs, h', by rw [r.length]; exact Nat.le_of_eq e⟩⟩
  obtain ⟨v, e1, e2⟩ := r.get e
  refine ⟨⟨xs, v, h', e1⟩, fun x H' y => .inl ⟨y.1, ?_⟩⟩
  have e3 := y.2 xs h'
  rw [e1] at e3
  cases e3
  exact Rp.mono gl d _ e2
theorem mi_seq {m : ME} (hK : X.K = c.K) (h : PE X iter (tE c m)) : PI X tg iter (tI c (iSeq m)) := pi_conseq (pi_either (pi_list h) (pi_tup h)) fun σ H R ⟨F, ρ, G, S, a⟩ => by
  have a1 := Ask.then a
  cases em : m ρ with
  | stuck => rw [em] at a1; exact a1.elim
  | ex x ρ' => exact .inl ⟨F, ρ, G, S, by rw [em] at a1 ⊢; exact a1⟩
  | ok d ρ' =>
    rw [em] at a1
    cases d <;> first | exact False.elim a1 | skip
    · refine .inl ⟨F, ρ, G, S, ?_⟩
      rw [em]
      intro v H' G' S' gl r
      obtain ⟨b, xs, e, hq, hr⟩ := r
      exact ⟨b, e, ⟨xs, .of (S'.sub.lst hq)⟩, by rw [hK]; exact a1 _ H' G' S' gl (it_list hq hr)⟩
    · refine .inr ⟨F, ρ, G, S, ?_⟩
      rw [em]
      intro v H' G' S' gl r
      obtain ⟨b, xs, e, hq, hr⟩ := r
      exact ⟨b, e, ⟨xs, .of (S'.sub.tup hq)⟩, by rw [hK]; exact a1 _ H' G' S' gl (it_tup hq hr)⟩
/-- ranges -/
def up (lo : Int) : Nat → List D
  | 0 => []
  | n + 1 => .int lo :: up (lo + 1) n
theorem up_len : ∀ (n : Nat) (lo : Int), (up lo n).length = n
  | 0, _ => rfl
  | n + 1, lo => by show (up (lo + 1) n).length + 1 = _; rw [up_len n]
theorem up_get : ∀ (n : Nat) (lo : Int) (i : Nat) (d : D), (up lo n)[i]? = some d → i < n ∧ d = .int (lo + i)
  | 0, _, _, _, h => by simp [up] at h
  | n + 1, lo, 0, d, h => by
    have h' : PyData.int lo = d := Option.some.inj h
    exact ⟨by omega, by rw [← h']; simp⟩
  | n + 1, lo, i + 1, d, h => by
    obtain ⟨h1, h2⟩ := up_get n (lo + 1) i d h
    refine ⟨by omega, ?_⟩
    rw [h2]
    congr 1
    omega
theorem it_up {K : PySem.W.Frag} (lo : Int) (n : Nat) : ItOk K (Itr lo n) G (up lo n) := fun i H G' gl sb => by
  refine ⟨fun d e => ?_, fun e => by rw [up_len] at e; exact Nat.le_of_eq e⟩
  obtain ⟨h1, h2⟩ := up_get n lo i d e
  refine ⟨h1, fun x H' y => .inl ⟨y.1, ?_⟩⟩
  rw [h2, y.2]
  exact rfl
def iRng (f : List D → Option (Int × Int)) (os : List Opd) : MI := fun ρ => (evo os ρ).then fun xs ρ' => match (fino os xs ρ').bind f with
  | some (i, j) => if -(2 ^ 62) ≤ i ∧ i < 2 ^ 62 ∧ -(2 ^ 62) ≤ j ∧ j < 2 ^ 62 then .ok (up i (j - i).toNat) ρ' else .stuck
  | none => .stuck
def fR1 : List D → Option (Int × Int)
  | [.int j] => some (0, j)
  | _ => none
def fR2 : List D → Option (Int × Int)
  | [.int i, .int j] => some (i, j)
  | _ => none
theorem Vw.int {K : PySem.W.Frag} {i : Int} {v : V} (h : Vw K G H (.int i) v) : v = .int i := by
  rcases h with h | ⟨p, _, _, o, _, hd, _⟩
  · exact h
  · cases hd
theorem Vw.bl {K : PySem.W.Frag} {b : Bool} {v : V} (h : Vw K G H (.bool b) v) : v = .bl b := by
  rcases h with h | ⟨p, _, _, o, _, hd, _⟩
  · exact h
  · cases hd
theorem Vw.str {K : PySem.W.Frag} {b : Str} {v : V} (h : Vw K G H (.str b) v) : v = .str b := by
  rcases h with h | ⟨p, _, _, o, _, hd, _⟩
  · exact h
  · cases hd
theorem Vw.non {K : PySem.W.Frag} {v : V} (h : Vw K G H .none v) : v = .non := by
  rcases h with h | ⟨p, _, _, o, _, hd, _⟩
  · exact h
  · cases hd
theorem tOs_rng {os : List Opd} {f : List D → Option (Int × Int)} {R : List V → Hp → Prop} {k : List D → Env → Prop} (S : State c F ρ σ G H) (a : Ask c F σ G k (iRng f os ρ))
    (hR : ∀ (ρ2 : Env) (G2 H2 : Hp) (xs : List V) (ds : List D) (i j : Int), State c F ρ2 σ G2 H2 → GLe G G2 → VwL c.K G2 H2 ds xs → f ds = some (i, j) → (-(2 ^ 62) ≤ i ∧ i < 2 ^ 62 ∧ -(2 ^ 62) ≤ j ∧ j < 2 ^ 62) → k (up i (j - i).toNat) ρ2 → R xs H2) : tOs c os σ H R := by
  refine tOs_ev S ((Ask.then a).imp (GLe.refl G) fun xs ρ2 a1 vs H2 G2 S2 g2 r2 => ?_)
  cases e1 : fino os xs ρ2 with
  | none => rw [e1] at a1; exact a1.elim
  | some ds =>
    rw [e1] at a1
    cases e2 : f ds with
    | none => simp only [Option.bind_some, e2] at a1; exact a1.elim
    | some q =>
      obtain ⟨i, j⟩ := q
      simp only [Option.bind_some, e2] at a1
      by_cases hb : -(2 ^ 62) ≤ i ∧ i < 2 ^ 62 ∧ -(2 ^ 62) ≤ j ∧ j < 2 ^ 62
      · rw [if_pos hb] at a1
        exact hR ρ2 G2 H2 vs ds i j S2 g2 (r2.vw S2 e1) e2 hb a1
      · rw [if_neg hb] at a1
        exact a1.elim
variable {a b : Expr} {p : Pos}
theorem mi_rng1 {o : Opd} (hg : Gl X "range") (hm : X.mg "range" = none) (ha : PA X [a] (tOs c [o])) (hs : starEach [a] X.env = [(false, eval a X.env)] := by rfl) : PI X tg (.Call (.Name "range" p) [a] [] pos) (tI c (iRng fR1 [o])) :=
  pi_conseq (pi_range1 hg hm ha hs) fun σ H R ⟨F, ρ, G, S, q⟩ => by
    refine tOs_rng S q fun ρ2 G2 H2 xs ds i j S2 gl vw ef hb k => ?_
    match ds, ef with
    | [.int z], ef =>
      cases ef
      match xs, vw with
      | [x], vw =>
        have ex := Vw.int vw.1
        subst ex
        exact ⟨j, rfl, hb.2.2.1, hb.2.2.2, by
          have := k (Itr 0 j.toNat) H2 G2 S2 gl
          rw [Int.sub_zero] at this
          exact this (it_up 0 j.toNat)⟩
theorem mi_rng2 {o1 o2 : Opd} (hg : Gl X "range") (hm : X.mg "range" = none) (ha : PA X [a, b] (tOs c [o1, o2])) (hs : starEach [a, b] X.env = [(false, eval a X.env), (false, eval b X.env)] := by rfl) (hs2 : starEach [b] X.env = [(false, eval b X.env)] := by rfl) : PI X tg (.Call (.Name "range" p) [a, b] [] pos) (tI c (iRng fR2 [o1, o2])) :=
  pi_conseq (pi_range2 hg hm ha hs hs2) fun σ H R ⟨F, ρ, G, S, q⟩ => by
    refine tOs_rng S q fun ρ2 G2 H2 xs ds i j S2 gl vw ef hb k => ?_
    match ds, ef with
    | [.int z, .int y], ef =>
      cases ef
      match xs, vw with
      | [x, u], vw =>
        have ex := Vw.int vw.1
        have eu := Vw.int vw.2.1
        subst ex
        subst eu
        exact ⟨i, j, rfl, hb, k _ H2 G2 S2 gl (it_up i _)⟩
def forM (tm : TM) (b : SM) : List D → SM
  | [], ρ => .nx ρ
  | d :: ds, ρ => (tm d ρ).sr fun _ ρ1 => match b ρ1 with
    | .nx ρ2 => forM tm b ds ρ2
    | r => r
def sFor (it : MI) (tm : TM) (b : SM) : SM := fun ρ => (it ρ).sr fun ds ρ' => forM tm b ds ρ'
theorem drop_at {α : Type} {l : List α} {i : Nat} (h : i < l.length) : ∃ d, l[i]? = some d ∧ l.drop i = d :: l.drop (i + 1) := ⟨l[i], List.getElem?_eq_getElem h, by rw [← List.getElem_cons_drop]⟩
theorem st_for {it : MI} {ts : List Nat} {tm : TM} {b : SM} (hp : PassesOwn (model X.prog X.w) X.A X.env X.xe) (hc : X.calm = true) (hK : X.K = c.K) (hi : PI X tg iter (tI c it)) (hg : PG X tg (tG c ts tm)) (hb : PSs X body (tS c b))
    (hs : ∀ x, foldedSetIterable iter X.env x = pure x := by intro _; rfl) : PS X (.For tg iter body [] pos) (tS c (sFor it tm b)) := ps_conseq (ps_for hp hc hi hg hb hs) fun D σ H ⟨F, ρ, G, S, a⟩ => by
  refine ⟨F, ρ, G, S, (SAsk.sr a).imp (GLe.refl G) fun ds ρ1 k J H1 G1 S1 gl1 ito => ?_⟩
  refine ⟨fun i m σ H => m = ds.length - i ∧ i ≤ ds.length ∧ ∃ ρ G, State c F ρ σ G H ∧ GLe G1 G ∧ SAsk c F G D (forM tm b (ds.drop i) ρ), ⟨ds.length, rfl, Nat.zero_le _, ρ1, G1, S1, GLe.refl _, SAsk.mono gl1 k⟩, ?_⟩
  rintro i m σ2 H2 ⟨rfl, hile, ρ2, G2, S2, gl2, a2⟩
  obtain ⟨h1, h2⟩ := ito i H2 G2 gl2 S2.sub
  by_cases hlt : i < ds.length
  · obtain ⟨d, ed, edr⟩ := drop_at hlt
    rw [edr] at a2
    obtain ⟨hgo, hy⟩ := h1 d ed
    refine .inr ⟨hgo, fun σ' H' => ∃ ρ' G', State c F ρ' σ' G' H' ∧ GLe G1 G' ∧ SAsk c F G' D (forM tm b (ds.drop (i + 1)) ρ'), fun σ' H' ⟨ρ', G', S', gl', a'⟩ => ⟨ds.length - (i + 1), by omega, rfl, hlt, ρ', G', S', gl', a'⟩, fun x H' y => ?_⟩
    obtain ⟨G3, S3, gl3, r3⟩ := (hy x H' y).state S2
    refine ⟨F, ρ2, G3, d, S3, r3, ?_⟩
    have a3 : SAsk c F G2 D ((tm d ρ2).sr fun _ ρ1 => match b ρ1 with
      | .nx ρ2 => forM tm b (ds.drop (i + 1)) ρ2
      | r => r) := a2
    cases et : tm d ρ2 with
    | stuck => rw [et] at a3; exact a3
    | ex e ρ' =>
      rw [et] at a3
      exact fun cls dx σ' H' G' S' gl x => a3 cls dx σ' H' G' S' (gl3.trans gl) x
    | ok u ρ' =>
      rw [et] at a3
      intro σ' H4 G4 S4 gl4 _
      refine ⟨F, ρ', G4, S4, ?_⟩
      have a4 : SAsk c F G2 D (match b ρ' with
        | .nx ρ2 => forM tm b (ds.drop (i + 1)) ρ2
        | r => r) := a3
      have g34 := gl3.trans gl4
      cases eb : b ρ' with
      | nx ρ5 =>
        rw [eb] at a4
        exact fun σ5 H5 G5 S5 gl5 => ⟨ρ5, G5, S5, gl2.trans (g34.trans gl5), SAsk.mono (g34.trans gl5) a4⟩
      | rt d' ρ5 =>
        rw [eb] at a4
        exact fun v σ5 H5 G5 S5 gl5 r => a4 v σ5 H5 G5 S5 (g34.trans gl5) r
      | ex e ρ5 =>
        rw [eb] at a4
        exact fun cls dx σ5 H5 G5 S5 gl5 x => a4 cls dx σ5 H5 G5 S5 (g34.trans gl5) x
      | stuck => rw [eb] at a4; exact a4
  · have e : i = ds.length := by omega
    subst e
    rw [List.drop_length] at a2
    exact .inl ⟨h2 rfl, a2 σ2 H2 G2 S2 (GLe.refl _)⟩
def whileM (t : MB) (b : SM) : Nat → SM
  | 0, _ => .stuck
  | n + 1, ρ => (t ρ).sr fun x ρ1 => if x = true then (match b ρ1 with
    | .nx ρ2 => whileM t b n ρ2
    | r => r) else .nx ρ1
theorem st_while {cd : Expr} {t : MB} {b : SM} (n : Nat) (hp : PassesOwn (model X.prog X.w) X.A X.env X.xe) (ht : PT X cd (tT c t)) (hb : PSs X body (tS c b)) : PS X (.While cd body [] pos) (tS c (whileM t b n)) := ps_conseq (ps_while hp ht hb) fun D σ H ⟨F, ρ, G, S, a⟩ => by
  refine ⟨fun m σ H => ∃ ρ G, State c F ρ σ G H ∧ SAsk c F G D (whileM t b m ρ), ⟨n, ρ, G, S, a⟩, ?_⟩
  rintro m σ2 H2 ⟨ρ2, G2, S2, a2⟩
  cases m with
  | zero => exact a2.elim
  | succ m =>
    refine ⟨F, ρ2, G2, S2, (SAsk.sr a2).imp (GLe.refl _) fun x ρ3 k H3 G3 S3 gl3 => ?_⟩
    cases x with
    | false => exact k σ2 H3 G3 S3 gl3
    | true =>
      refine ⟨fun σ' H' => ∃ ρ' G', State c F ρ' σ' G' H' ∧ SAsk c F G' D (whileM t b m ρ'), fun σ' H' ⟨ρ', G', S', a'⟩ => ⟨m, by omega, ρ', G', S', a'⟩, F, ρ3, G3, S3, ?_⟩
      have k' : SAsk c F G2 D (match b ρ3 with
        | .nx ρ2 => whileM t b m ρ2
        | r => r) := k
      cases eb : b ρ3 with
      | nx ρ5 =>
        rw [eb] at k'
        exact fun σ5 H5 G5 S5 gl5 => ⟨ρ5, G5, S5, SAsk.mono (gl3.trans gl5) k'⟩
      | rt d' ρ5 =>
        rw [eb] at k'
        exact fun v σ5 H5 G5 S5 gl5 r => k' v σ5 H5 G5 S5 (gl3.trans gl5) r
      | ex e ρ5 =>
        rw [eb] at k'
        exact fun cls dx σ5 H5 G5 S5 gl5 x => k' cls dx σ5 H5 G5 S5 (gl3.trans gl5) x
      | stuck => rw [eb] at k'; exact k'
end

set_option autoImplicit true
def wipeE : Env → List Nat → Env
  | ρ, [] => ρ
  | ρ, v :: vs => (wipeE ρ vs).set v .no
def Sl.keep : Option Sl → Sl
  | some (.fz d) => .fz d
  | _ => .no
/-- behind a block: its own names are as they were ahead of it, if frozen -/
def unwipe (ρ0 : Env) : Env → List Nat → Env
  | ρ, [] => ρ
  | ρ, v :: vs => (unwipe ρ0 ρ vs).set v (Sl.keep ρ0[v]?)
abbrev Ct.nox (c : Ct) : Ct := { c with W := fun _ _ _ _ => False }
section
variable {X : Cx} {c : Ct} {F : Fr} {ρ ρ0 : Env} {σ : L2.St} {G G0 H H0 : Hp}
theorem State.nox (S : State c F ρ σ G H) : State c.nox F ρ σ G H := ⟨S.sub, S.fg, S.wf, S.dom, S.tab, S.tabG, S.len, S.sl, S.apart, S.io, S.ios, S.ioD, S.tupG⟩
theorem State.yesx (S : State c.nox F ρ σ G H) : State c F ρ σ G H := ⟨S.sub, S.fg, S.wf, S.dom, S.tab, S.tabG, S.len, S.sl, S.apart, S.io, S.ios, S.ioD, S.tupG⟩
theorem wipeE_length (ρ : Env) : ∀ vs : List Nat, (wipeE ρ vs).length = ρ.length
  | [] => rfl
  | v :: vs => by unfold wipeE; rw [List.length_set, wipeE_length ρ vs]
theorem wipeE_get {i : Nat} {s : Sl} : ∀ {vs : List Nat}, (wipeE ρ vs)[i]? = some s → (i ∈ vs ∧ s = .no) ∨ (i ∉ vs ∧ ρ[i]? = some s)
  | [], h => .inr ⟨by simp, h⟩
  | v :: vs, h => by
    unfold wipeE at h
    rcases get_set h with ⟨rfl, rfl⟩ | ⟨ne, h⟩
    · exact .inl ⟨List.mem_cons_self, rfl⟩
    · rcases wipeE_get h with ⟨h1, h2⟩ | ⟨h1, h2⟩
      · exact .inl ⟨List.mem_cons_of_mem _ h1, h2⟩
      · exact .inr ⟨fun z => (List.mem_cons.mp z).elim (fun e => ne e.symm) h1, h2⟩
theorem wipe_get {i : Nat} : ∀ {vs : List Nat}, i ∉ vs → (wipe σ vs)[i]? = σ[i]?
  | [], _ => rfl
  | v :: vs, h => by
    unfold wipe
    rw [List.getElem?_set_ne (fun e => h (by rw [e]; exact List.mem_cons_self))]
    exact wipe_get (fun z => h (List.mem_cons_of_mem _ z))
theorem wipe_in {i : Nat} : ∀ {vs : List Nat}, i ∈ vs → i < σ.length → (wipe σ vs)[i]? = some none
  | v :: vs, h, hl => by
    unfold wipe
    by_cases e : v = i
    · rw [e, List.getElem?_set_self (by rw [wipe_length]; exact hl)]
    · rw [List.getElem?_set_ne e]
      exact wipe_in ((List.mem_cons.mp h).resolve_left (fun z => e z.symm)) hl
theorem wipe_eq {σ σ2 : L2.St} {vs : List Nat} (hl : σ2.length = (wipe σ vs).length) (h : ∀ i, i ∉ vs → σ2[i]? = (wipe σ vs)[i]?) : wipe σ2 vs = wipe σ vs := by
  have hl2 : σ2.length = σ.length := by rw [hl, wipe_length]
  refine List.ext_getElem? fun i => ?_
  by_cases hi : i ∈ vs
  · by_cases hb : i < σ.length
    · rw [wipe_in hi hb, wipe_in hi (by rw [hl2]; exact hb)]
    · rw [List.getElem?_eq_none (by rw [wipe_length]; omega), List.getElem?_eq_none (by rw [wipe_length]; omega)]
  · rw [wipe_get hi, h i hi]
theorem State.wipe (S : State c F ρ σ G H) {vs : List Nat} (hv : ∀ v ∈ vs, v ∉ c.ios) : State c F (wipeE ρ vs) (L2.wipe σ vs) G H := by
  refine ⟨S.sub, S.fg, S.wf, S.dom, S.tab, S.tabG, by rw [wipeE_length, wipe_length]; exact S.len, fun i s e => ?_, fun i j p d e h1 h2 h3 h4 => ?_, fun q hq => ?_, S.ios, S.ioD, S.tupG⟩
  · rcases wipeE_get e with ⟨_, e⟩ | ⟨hi, e⟩
    · subst e
      trivial
    · have q := S.sl i s e
      cases s with
      | no => trivial
      | fz d =>
        obtain ⟨v, e1, e2⟩ := q
        exact ⟨v, by rw [wipe_get hi]; exact e1, e2⟩
      | own d =>
        obtain ⟨p, e1, e2⟩ := q
        exact ⟨p, by rw [wipe_get hi]; exact e1, e2⟩
  · rcases wipeE_get h1 with ⟨_, z⟩ | ⟨hi, h1⟩
    · cases z
    · rcases wipeE_get h2 with ⟨_, z⟩ | ⟨hj, h2⟩
      · cases z
      · rw [wipe_get hi] at h3
        rw [wipe_get hj] at h4
        exact S.apart i j p d e h1 h2 h3 h4
  · rw [wipe_get fun z => hv _ z (by rw [← S.ios]; exact List.mem_map.mpr ⟨q, hq, rfl⟩)]
    exact S.io q hq
theorem unwipe_length (ρ0 ρ : Env) : ∀ vs : List Nat, (unwipe ρ0 ρ vs).length = ρ.length
  | [] => rfl
  | v :: vs => by unfold unwipe; rw [List.length_set, unwipe_length ρ0 ρ vs]
theorem unwipe_get {i : Nat} {s : Sl} : ∀ {vs : List Nat}, (unwipe ρ0 ρ vs)[i]? = some s → (i ∈ vs ∧ s = Sl.keep ρ0[i]?) ∨ (i ∉ vs ∧ ρ[i]? = some s)
  | [], h => .inr ⟨by simp, h⟩
  | v :: vs, h => by
    unfold unwipe at h
    rcases get_set h with ⟨rfl, rfl⟩ | ⟨ne, h⟩
    · exact .inl ⟨List.mem_cons_self, rfl⟩
    · rcases unwipe_get h with ⟨h1, h2⟩ | ⟨h1, h2⟩
      · exact .inl ⟨List.mem_cons_of_mem _ h1, h2⟩
      · exact .inr ⟨fun z => (List.mem_cons.mp z).elim (fun e => ne e.symm) h1, h2⟩
theorem keep_own {x : Option Sl} {d : D} : Sl.keep x ≠ .own d := by
  cases x with
  | none => exact fun z => nomatch z
  | some s => cases s <;> exact fun z => nomatch z
theorem State.unwipe {F0 : Fr} (S0 : State c F0 ρ0 σ G0 H0) {vs : List Nat} (S : State c F ρ (L2.wipe σ vs) G H) (gl : GLe G0 G) (hv : ∀ v ∈ vs, v ∉ c.ios) (hF : F.io = F0.io := by rfl) : State c F (unwipe ρ0 ρ vs) σ G H := by
  refine ⟨S.sub, S.fg, S.wf, S.dom, S.tab, S.tabG, by rw [unwipe_length, S.len, wipe_length], fun i s e => ?_, fun i j p d e h1 h2 h3 h4 => ?_, fun q hq => S0.io q (by rw [← hF]; exact hq), S.ios, S.ioD, S.tupG⟩
  · rcases unwipe_get e with ⟨hi, e⟩ | ⟨hi, e⟩
    · subst e
      cases q : ρ0[i]? with
      | none => trivial
      | some s =>
        cases s with
        | no => trivial
        | own d => trivial
        | fz d =>
          obtain ⟨v, e1, e2⟩ := S0.sl i _ q
          exact ⟨v, e1, Rp.mono gl d v e2⟩
    · have q := S.sl i s e
      cases s with
      | no => trivial
      | fz d =>
        obtain ⟨v, e1, e2⟩ := q
        exact ⟨v, by rw [← wipe_get hi]; exact e1, e2⟩
      | own d =>
        obtain ⟨p, e1, e2⟩ := q
        exact ⟨p, by rw [← wipe_get hi]; exact e1, e2⟩
  · rcases unwipe_get h1 with ⟨_, z⟩ | ⟨hi, h1⟩
    · exact (keep_own z.symm).elim
    · rcases unwipe_get h2 with ⟨_, z⟩ | ⟨hj, h2⟩
      · exact (keep_own z.symm).elim
      · rw [← wipe_get hi] at h3
        rw [← wipe_get hj] at h4
        exact S.apart i j p d e h1 h2 h3 h4
/-- the thing that stands beside is another one now -/
theorem State.rePlus {p : Addr} {o o' : HO} (hm : Mut (some o)) (hm' : Mut (some o')) (ht : ∀ ps, o' ≠ .tbl ps) (hcd : ∀ k q, o ≠ CodeO k q) (S : State c (F.plus p o) ρ σ G H) : State c (F.plus p o') ρ σ G (upd H p o') := by
  have fgp : (F.plus p o).fg p = some o := by show upd F.fg p o p = some o; exact upd_same
  obtain ⟨h1, h2⟩ := S.fg p o fgp
  have h2 : G p = none := h2.none fun q w e => by rw [e] at hm; exact hm
  have fgo : ∀ {a : Addr} {u : HO}, a ≠ p → (F.plus p o').fg a = some u → (F.plus p o).fg a = some u := fun {a u} ne e => by
    have e' : upd F.fg p o' a = some u := e
    show upd F.fg p o a = some u
    rw [upd_ne ne] at e' ⊢
    exact e'
  refine ⟨⟨fun a u r => ?_, S.sub.2⟩, fun a u e => ?_, fun a u e => ?_, fun a e => ?_, fun t ht' => ?_, S.tabG, S.len, fun i s e => ?_, S.apart, S.io, S.ios, S.ioD, fun q ks e => ?_⟩
  · have ne : a ≠ p := fun z => by
      rw [z, h2] at r
      cases r
    rcases S.sub.1 a u r with h | ⟨id, ob, h⟩
    · exact .inl (by rw [upd_ne ne]; exact h)
    · exact .inr ⟨id, ob, by rw [upd_ne ne]; exact h⟩
  · by_cases z : a = p
    · subst z
      have e' : upd F.fg a o' a = some u := e
      rw [upd_same] at e'
      cases e'
      exact ⟨upd_same, .inl h2⟩
    · rw [upd_ne z]
      exact S.fg a u (fgo z e)
  · by_cases z : a = p
    · subst z
      have e' : upd F.fg a o' a = some u := e
      rw [upd_same] at e'
      cases e'
      exact ⟨.inr rfl, (S.wf a o fgp).2.1, ht⟩
    · exact S.wf a u (fgo z e)
  · by_cases ne : a = p
    · exact ⟨o', by rw [ne]; exact upd_same, ht⟩
    · obtain ⟨u, hu, hn⟩ := S.dom a e
      exact ⟨u, by rw [upd_ne ne]; exact hu, hn⟩
  · obtain ⟨ps, t1, t2, t3⟩ := S.tab t ht'
    have n1 : t.1 ≠ p := fun z => by
      rw [z, h1] at t1
      have q := Option.some.inj t1
      rw [q] at hm
      exact hm
    refine ⟨ps, by rw [upd_ne n1]; exact t1, t2, fun pos cv hc => ?_⟩
    obtain ⟨k, k1, k2⟩ := t3 pos cv hc
    refine ⟨k, k1, ?_⟩
    rw [upd_ne fun z => ?_]
    · exact k2
    · rw [z, h1] at k2
      exact hcd _ _ (Option.some.inj k2)
  · refine (S.sl i s e).mono (GLe.refl G) fun b x ex eb owb => ?_
    have nb : b ≠ p := fun z => by
      obtain ⟨q, e1, _, e3⟩ := S.own_at (by rw [e, ex])
      rw [eb] at e1
      cases e1
      rcases e3 with e3 | e3
      · exact e3 (.inr z)
      · rw [z] at e3
        exact (S.wf p o fgp).2.1 i e3
    exact ⟨owb.1, upd_ne nb⟩
  · by_cases z : q = p
    · rw [z, upd_same] at e
      cases e
      exact hm'.elim
    · rw [upd_ne z] at e
      exact S.tupG q ks e
end
def compM (tm : TM) (cd : MB) (elt : ME) (vs : List Nat) : List D → List D → Env → Rs (List D)
  | [], acc, ρ => .ok acc ρ
  | d :: ds, acc, ρ => (tm d ρ).then fun _ ρ1 => (cd ρ1).then fun b ρ2 => if b = true then (elt ρ2).then fun y ρ3 => compM tm cd elt vs ds (acc ++ [y]) (wipeE ρ3 vs) else compM tm cd elt vs ds acc (wipeE ρ2 vs)
def mComp (it : MI) (tm : TM) (cd : MB) (elt : ME) (vs : List Nat) : ME := fun ρ => (it ρ).then fun ds ρ1 => if ds.length ≤ sizeLine then (match compM tm cd elt vs ds [] (wipeE ρ1 vs) with
  | .ok ys ρ2 => .ok (.list ys) (unwipe ρ1 ρ2 vs)
  | _ => .stuck) else .stuck
def bYes : MB := fun ρ => .ok true ρ
section
variable {X : Cx} {c : Ct} {F : Fr} {ρ : Env} {σ : L2.St} {G H : Hp} {elt tg iter : Expr} {ifs : List Expr} {scope : Scope} {own : List (Str × Nat)} {pos : Pos} {it : MI} {ts : List Nat} {tm : TM} {cd : MB} {m : ME}
theorem tLc_f (hv : ∀ v ∈ own.map (·.2), v ∉ c.ios) (hts : ∀ v ∈ ts, v ∈ own.map (·.2)) {Q : VK} (h : tF c (mComp it tm cd m (own.map (·.2))) σ H Q) : tLc (tI c it) (tG c.nox ts tm) (tT c.nox cd) (tE c.nox m) (own.map (·.2)) σ H Q := by
  generalize own.map (·.2) = vs at *
  obtain ⟨F, ρ, G, S, a⟩ := h
  refine ⟨F, ρ, G, S, (Ask.then a).imp (GLe.refl G) fun ds ρ1 k J H1 G1 S1 gl1 ito D hD => ?_⟩
  by_cases hz : ds.length ≤ sizeLine
  · simp only [if_pos hz] at k
    cases er : compM tm cd m vs ds [] (wipeE ρ1 vs) with
    | stuck => rw [er] at k; exact False.elim k
    | ex e ρ' => rw [er] at k; exact False.elim k
    | ok ys ρe =>
      rw [er] at k
      simp only at k
      have n0 : NewAt c F ρ1 σ G1 (upd H1 D (.lst [])) (.list []) D := NewAt.of S1 hD (.lst rfl) trivial
      have S1' := S1.alloc (o := .lst []) hD trivial
      have nd := n0.2.1
      have fgn := NewAt.fgn S1' n0
      refine ⟨fun i m' H => m' = ds.length - i ∧ i ≤ ds.length ∧ ∃ ρ G acc xs, State c.nox (F.plus D (.lst xs)) ρ (wipe σ vs) G H ∧ GLe G1 G ∧ RpL c.K G acc xs ∧ acc.length ≤ i ∧ compM tm cd m vs (ds.drop i) acc ρ = .ok ys ρe,
        ⟨ds.length, rfl, Nat.zero_le _, wipeE ρ1 vs, G1, [], [], ((S1'.plus n0 upd_same).wipe hv).nox, GLe.refl _, rfl, Nat.le_refl _, er⟩, ?_⟩
      rintro i m' H2 ⟨rfl, hile, ρ2, G2, acc, xs, S2, gl2, racc, hacc, er2⟩
      obtain ⟨h1, h2⟩ := ito i H2 G2 gl2 S2.sub
      by_cases hlt : i < ds.length
      · obtain ⟨d, ed, edr⟩ := drop_at hlt
        rw [edr] at er2
        obtain ⟨hgo, hy⟩ := h1 d ed
        refine .inr ⟨hgo, fun H => ∃ ρ G acc xs, State c.nox (F.plus D (.lst xs)) ρ (wipe σ vs) G H ∧ GLe G1 G ∧ RpL c.K G acc xs ∧ acc.length ≤ i + 1 ∧ compM tm cd m vs (ds.drop (i + 1)) acc ρ = .ok ys ρe,
          fun H' ⟨ρ', G', acc', xs', q1, q2, q3, q4, q5⟩ => ⟨ds.length - (i + 1), by omega, rfl, hlt, ρ', G', acc', xs', q1, q2, q3, q4, q5⟩, fun x H' y => ?_⟩
        obtain ⟨G3, S3, gl3, r3⟩ := (hy x H' y).state S2
        have e3 : (tm d ρ2).then (fun _ ρ1 => (cd ρ1).then fun b ρ2 => if b = true then (m ρ2).then fun y ρ3 => compM tm cd m vs (ds.drop (i + 1)) (acc ++ [y]) (wipeE ρ3 vs) else compM tm cd m vs (ds.drop (i + 1)) acc (wipeE ρ2 vs)) = .ok ys ρe := er2
        refine ⟨_, ρ2, G3, d, S3, r3, ?_⟩
        cases et : tm d ρ2 with
        | stuck => rw [et] at e3; cases e3
        | ex e ρ' => rw [et] at e3; cases e3
        | ok u ρ4 =>
          rw [et] at e3
          intro σ4 H4 G4 S4 gl4 ⟨hl4, hk4⟩
          have ew : wipe σ4 vs = wipe σ vs := wipe_eq hl4 fun j hj => hk4 j fun z => hj (hts j z)
          refine ⟨ew, _, ρ4, G4, S4, ?_⟩
          have e4 : (cd ρ4).then (fun b ρ2 => if b = true then (m ρ2).then fun y ρ3 => compM tm cd m vs (ds.drop (i + 1)) (acc ++ [y]) (wipeE ρ3 vs) else compM tm cd m vs (ds.drop (i + 1)) acc (wipeE ρ2 vs)) = .ok ys ρe := e3
          have g24 := gl3.trans gl4
          cases ec : cd ρ4 with
          | stuck => rw [ec] at e4; cases e4
          | ex e ρ' => rw [ec] at e4; cases e4
          | ok b ρ5 =>
            rw [ec] at e4
            intro H5 G5 S5 gl5
            have g25 := g24.trans gl5
            cases b with
            | false =>
              refine ⟨wipeE ρ5 vs, G5, acc, xs, ?_, gl2.trans g25, RpL.mono g25 _ _ racc, by omega, e4⟩
              rw [← ew]
              exact S5.wipe hv
            | true =>
              have e5 : (m ρ5).then (fun y ρ3 => compM tm cd m vs (ds.drop (i + 1)) (acc ++ [y]) (wipeE ρ3 vs)) = .ok ys ρe := e4
              refine ⟨_, ρ5, G5, S5, ?_⟩
              cases em : m ρ5 with
              | stuck => rw [em] at e5; cases e5
              | ex e ρ' => rw [em] at e5; cases e5
              | ok yv ρ6 =>
                rw [em] at e5
                intro v H6 G6 S6 gl6 r6
                have g26 := g25.trans gl6
                obtain ⟨q1, q2⟩ := S6.fg D (.lst xs) (by show upd F.fg D (.lst xs) D = _; exact upd_same)
                refine ⟨xs, q1, ?_, wipeE ρ6 vs, G6, acc ++ [yv], xs ++ [v], ?_, gl2.trans g26, RpL.append (RpL.mono g26 _ _ racc) (.one r6), by rw [List.length_append]; simp; omega, e5⟩
                · rw [racc.length]
                  exact Nat.lt_of_le_of_lt hacc (Nat.lt_of_lt_of_le hlt hz)
                · rw [← ew]
                  exact (State.rePlus (o := .lst xs) (o' := .lst (xs ++ [v])) trivial trivial (fun _ z => nomatch z) (fun k q z => by unfold CodeO at z; cases z) S6).wipe hv
      · have e : i = ds.length := by omega
        subst e
        rw [List.drop_length] at er2
        have e2 : Rs.ok acc ρ2 = Rs.ok ys ρe := er2
        cases e2
        have Sm := S2.yesx.minus nd fgn
        have n2 := NewAt.still nd (ObjD.lst racc) trivial S2.yesx
        refine .inl ⟨h2 rfl, k D H2 G2 (State.unwipe S1 Sm gl2 hv) (gl1.trans gl2) ⟨n2.1, nd, fun j ej hj es => ?_⟩⟩
        rcases unwipe_get hj with ⟨_, z⟩ | ⟨hi, hj⟩
        · exact (keep_own z.symm).elim
        · exact n2.2.2 j ej hj (by rw [wipe_get hi]; exact es)
  · simp only [if_neg hz] at k
    exact k.elim
theorem fe_lc (hc : X.calm = true) (hN : X.N.Nodup) (hv : ∀ v ∈ own.map (·.2), v ∉ c.ios) (hts : ∀ v ∈ ts, v ∈ own.map (·.2)) (hi : PI X tg iter (tI c it)) (ok : BlkOk X.N X.env.scope scope own)
    (hg : ∀ (s : Shared) (H : Hp) (C : Addr) (cl : List (Str × Addr)) (fp : List Addr), PG (X.blk s H scope (compEnvC scope cl C X.env) fp) tg (tG c.nox ts tm)) (ht : ∀ (s : Shared) (H : Hp) (C : Addr) (cl : List (Str × Addr)) (fp : List Addr), PTs (X.blk s H scope (compEnvC scope cl C X.env) fp) ifs (tT c.nox cd))
    (he : ∀ (s : Shared) (H : Hp) (C : Addr) (cl : List (Str × Addr)) (fp : List Addr), PE (X.blk s H scope (compEnvC scope cl C X.env) fp) elt (tE c.nox m)) (hs : ∀ x, foldedSetIterable iter X.env x = pure x := by intro _; rfl) :
    PE X (.ListComp elt [⟨tg, iter, ifs, 0⟩] scope pos) (tF c (mComp it tm cd m (own.map (·.2)))) := pe_conseq (pe_lc hc hN hi ok hg ht he hs) fun σ H Q h => tLc_f hv hts h
theorem st_ownLc {i : Nat} {y : Str} {py spos : Pos} (hc : X.calm = true) (hN : X.N.Nodup) (hy : X.N[i]? = some y) (hyl : X.env.scope.names.lookup y = some .local) (hio : i ∉ c.ios) (hv : ∀ v ∈ own.map (·.2), v ∉ c.ios) (hts : ∀ v ∈ ts, v ∈ own.map (·.2))
    (hsw : swapsWith (.ListComp elt [⟨tg, iter, ifs, 0⟩] scope pos) (some (.Name y py)) spos.line X.env = pure true) (hi : PI X tg iter (tI c it)) (ok : BlkOk X.N X.env.scope scope own)
    (hg : ∀ (s : Shared) (H : Hp) (C : Addr) (cl : List (Str × Addr)) (fp : List Addr), PG (X.blk s H scope (compEnvC scope cl C X.env) fp) tg (tG c.nox ts tm)) (ht : ∀ (s : Shared) (H : Hp) (C : Addr) (cl : List (Str × Addr)) (fp : List Addr), PTs (X.blk s H scope (compEnvC scope cl C X.env) fp) ifs (tT c.nox cd))
    (he : ∀ (s : Shared) (H : Hp) (C : Addr) (cl : List (Str × Addr)) (fp : List Addr), PE (X.blk s H scope (compEnvC scope cl C X.env) fp) elt (tE c.nox m)) (hs : ∀ x, foldedSetIterable iter X.env x = pure x := by intro _; rfl) :
    PS X (.Assign [.Name y py] (.ListComp elt [⟨tg, iter, ifs, 0⟩] scope pos) spos) (tS c (sOwn i (mComp it tm cd m (own.map (·.2))))) := ps_conseq (ps_setLc hc hN hy hyl hsw hi ok hg ht he hs) fun D σ H ⟨F, ρ, G, S, a⟩ =>
  tLc_f hv hts ⟨F, ρ, G, S, (SAsk.sr a).imp (GLe.refl G) fun d ρ' k p H' G' S' gl n => k _ H' G' (S'.setOwn n hio) gl⟩
theorem mts_nil : PTs X [] (tT c bYes) := ⟨fun pins s σ H Q I ⟨F, ρ, G, S, a⟩ => pts_nil.run pins s σ H Q I (a H G S (GLe.refl G))⟩
theorem mts_one {cd : Expr} {t : MB} (h : PT X cd (tT c t)) : PTs X [cd] (tT c t) := pts_one h
end

set_option autoImplicit true
def ioL : Nat → List Sl → List V → List (Nat × Addr)
  | k, .own _ :: ss, .ref p :: vs => (k, p) :: ioL (k + 1) ss vs
  | k, _ :: ss, _ :: vs => ioL (k + 1) ss vs
  | _, _, _ => []
def ownIx : Nat → List Sl → List Nat
  | _, [] => []
  | k, .own _ :: ss => k :: ownIx (k + 1) ss
  | k, _ :: ss => ownIx (k + 1) ss
def backs : List Nat → Env → Option (List D)
  | [], _ => some []
  | i :: is, ρ => match ρ[i]? with
    | some (.own d) => (backs is ρ).map fun r => d :: r
    | _ => none
def fnM (len n : Nat) (ios : List Nat) (m : SM) : FM := fun ss => if ownIx 0 ss = ios then (match m (ss ++ List.replicate (len - n) .no) with
  | .nx ρ => (match backs ios ρ with
    | some b => .ok .none b
    | none => .stuck)
  | .rt d ρ => (match backs ios ρ with
    | some b => .ok d b
    | none => .stuck)
  | .ex e _ => if ios = [] then .ex e else .stuck
  | .stuck => .stuck) else .stuck
theorem ioL_args {K : PySem.W.Frag} {G H : Hp} : ∀ {ss : List Sl} {vs : List V} {k : Nat}, ArgsOk K G H ss vs → (ioL k ss vs).map (·.1) = ownIx k ss ∧ (ioL k ss vs).map (·.2) = owns ss vs ∧ vs.length = ss.length ∧
    (∀ (i : Nat) (d : D), ss[i]? = some (.fz d) → ∃ v, vs[i]? = some v ∧ Rp K G d v) ∧ (∀ (i : Nat) (d : D), ss[i]? = some (.own d) → ∃ p, vs[i]? = some (V.ref p) ∧ Own K G H d p ∧ (k + i, p) ∈ ioL k ss vs) ∧
    (∀ q ∈ ioL k ss vs, ∃ i : Nat, q.1 = k + i ∧ vs[i]? = some (V.ref q.2)) ∧ (∀ p ∈ owns ss vs, ∃ d, Own K G H d p)
  | [], [], k, _ => ⟨rfl, rfl, rfl, fun i d h => by simp at h, fun i d h => by simp at h, fun q hq => (nomatch hq), fun q hq => (nomatch hq)⟩
  | .fz d :: ss, v :: vs, k, h => by
    obtain ⟨h1, h2, h3, h4, h5, h6, h7⟩ := ioL_args (k := k + 1) h.2
    have e1 : ioL k (.fz d :: ss) (v :: vs) = ioL (k + 1) ss vs := by cases v <;> rfl
    have e2 : owns (.fz d :: ss) (v :: vs) = owns ss vs := by cases v <;> rfl
    rw [e1, e2]
    refine ⟨h1, h2, by rw [List.length_cons, List.length_cons, h3], fun i x hi => ?_, fun i x hi => ?_, fun q hq => ?_, h7⟩
    · cases i with
      | zero =>
        cases Option.some.inj hi
        exact ⟨v, rfl, h.1⟩
      | succ i => exact h4 i x hi
    · cases i with
      | zero => cases Option.some.inj hi
      | succ i =>
        obtain ⟨p, a, b, c⟩ := h5 i x hi
        exact ⟨p, a, b, by rw [show k + (i + 1) = k + 1 + i by omega]; exact c⟩
    · obtain ⟨i, a, b⟩ := h6 q hq
      exact ⟨i + 1, by omega, b⟩
  | .own d :: ss, v :: vs, k, h => by
    obtain ⟨⟨p, rfl, ow⟩, hr⟩ := h
    obtain ⟨h1, h2, h3, h4, h5, h6, h7⟩ := ioL_args (k := k + 1) hr
    refine ⟨by show k :: _ = k :: _; rw [h1], by show p :: _ = p :: _; rw [h2], by rw [List.length_cons, List.length_cons, h3], fun i x hi => ?_, fun i x hi => ?_, fun q hq => ?_, fun q hq => ?_⟩
    · cases i with
      | zero => cases Option.some.inj hi
      | succ i => exact h4 i x hi
    · cases i with
      | zero =>
        cases Option.some.inj hi
        exact ⟨p, rfl, ow, List.mem_cons_self⟩
      | succ i =>
        obtain ⟨q, a, b, c⟩ := h5 i x hi
        exact ⟨q, a, b, List.mem_cons_of_mem _ (by rw [show k + (i + 1) = k + 1 + i by omega]; exact c)⟩
    · rcases List.mem_cons.mp hq with e | hq
      · subst e
        exact ⟨0, rfl, rfl⟩
      · obtain ⟨i, a, b⟩ := h6 q hq
        exact ⟨i + 1, by omega, b⟩
    · rcases List.mem_cons.mp hq with e | hq
      · subst e
        exact ⟨d, ow⟩
      · exact h7 q hq
theorem nodup_snd {qs : List (Nat × Addr)} (hn : (qs.map (·.2)).Nodup) {i j : Nat} {p : Addr} (hi : (i, p) ∈ qs) (hj : (j, p) ∈ qs) : i = j := by
  induction qs with
  | nil => cases hi
  | cons q r ih =>
    rw [List.map_cons, List.nodup_cons] at hn
    rcases List.mem_cons.mp hi with e1 | e1
    · rcases List.mem_cons.mp hj with e2 | e2
      · rw [← e2] at e1
        exact congrArg Prod.fst e1
      · exact (hn.1 (List.mem_map.mpr ⟨(j, p), e2, by rw [← e1]⟩)).elim
    · rcases List.mem_cons.mp hj with e2 | e2
      · exact (hn.1 (List.mem_map.mpr ⟨(i, p), e1, by rw [← e2]⟩)).elim
      · exact ih hn.2 e1 e2
open Classical in
/-- the frame's ghost at the entry -/
noncomputable def entryFr (G H : Hp) (ss : List Sl) (vs : List V) : Fr where
  fg := fun a => if (G a = none ∨ ∃ o w, H a = some (.frz o w)) ∧ a ∉ owns ss vs ∧ ∀ ps, H a ≠ some (.tbl ps) then H a else none
  dom := fun a => Dm H a
  io := ioL 0 ss vs
open Classical in
theorem entryFr_fg {G H : Hp} {ss : List Sl} {vs : List V} {a : Addr} {u : HO} : (entryFr G H ss vs).fg a = some u ↔ ((G a = none ∨ ∃ o w, H a = some (.frz o w)) ∧ a ∉ owns ss vs ∧ ∀ ps, H a ≠ some (.tbl ps)) ∧ H a = some u := by
  show (if (G a = none ∨ ∃ o w, H a = some (.frz o w)) ∧ a ∉ owns ss vs ∧ ∀ ps, H a ≠ some (.tbl ps) then H a else none) = some u ↔ _
  by_cases h : (G a = none ∨ ∃ o w, H a = some (.frz o w)) ∧ a ∉ owns ss vs ∧ ∀ ps, H a ≠ some (.tbl ps)
  · rw [if_pos h]
    exact ⟨fun e => ⟨h, e⟩, fun e => e.2⟩
  · rw [if_neg h]
    exact ⟨fun e => (nomatch e), fun e => (h e.1).elim⟩
theorem start_get {N : List Str} {vs : List V} {i : Nat} {v : V} (h : vs[i]? = some v) : (L2.start N vs)[i]? = some (some v) := by
  have hl := (List.getElem?_eq_some_iff.mp h).1
  unfold L2.start
  rw [List.getElem?_append_left (by rw [List.length_map]; exact hl), List.getElem?_map, h]
  rfl
section
variable {c : Ct} {G H : Hp} {ss : List Sl} {vs : List V}
theorem entry_state {N : List Str} (sub : Sub G H) (tab : Tabs c.T H) (tabG : ∀ p ∈ c.T, G p.1 = none) (tupG : ∀ (q : Addr) (ks : List Key), H q = some (.tup (ks.map kV)) → G q = some (.tup (ks.map kV))) (ha : ArgsOk c.K G H ss vs) (hn : (owns ss vs).Nodup)
    (hl : vs.length ≤ N.length) (hio : ownIx 0 ss = c.ios) : State c (entryFr G H ss vs) (ss ++ List.replicate (N.length - vs.length) .no) (L2.start N vs) G H := by
  obtain ⟨h1, h2, h3, h4, h5, h6, h7⟩ := ioL_args (k := 0) ha
  have sg : ∀ (i : Nat) (s : Sl), (ss ++ List.replicate (N.length - vs.length) Sl.no)[i]? = some s → ss[i]? = some s ∨ s = .no := fun i s e => by
    by_cases hi : i < ss.length
    · rw [List.getElem?_append_left hi] at e
      exact .inl e
    · rw [List.getElem?_append_right (by omega), List.getElem?_replicate] at e
      split at e
      · exact .inr (Option.some.inj e).symm
      · cases e
  refine ⟨sub, fun a u e => ?_, fun a u e => ?_, fun a e => e, tab, tabG, ?_, fun i s e => ?_, fun i j p d e e1 e2 e3 e4 => ?_, fun q hq => ?_, by show (ioL 0 ss vs).map (·.1) = _; rw [h1, hio], fun q hq => ?_, tupG⟩
  · obtain ⟨⟨a1, _, _⟩, a2⟩ := entryFr_fg.mp e
    exact ⟨a2, a1.imp id fun ⟨q, w, z⟩ => ⟨q, w, by rw [a2] at z; exact Option.some.inj z⟩⟩
  · obtain ⟨⟨a1, a3, a4⟩, a2⟩ := entryFr_fg.mp e
    refine ⟨⟨u, a2, fun ps z => a4 ps (by rw [a2, z])⟩, fun i hi => ?_, fun ps z => a4 ps (by rw [a2, z])⟩
    have hi' : (i, a) ∈ ioL 0 ss vs := hi
    exact a3 (by rw [← h2]; exact List.mem_map.mpr ⟨_, hi', rfl⟩)
  · rw [List.length_append, List.length_replicate]
    unfold L2.start
    rw [List.length_append, List.length_map, List.length_replicate, h3]
  · rcases sg i s e with e | e
    · cases s with
      | no => trivial
      | fz d =>
        obtain ⟨v, a, b⟩ := h4 i d e
        exact ⟨v, start_get a, b⟩
      | own d =>
        obtain ⟨p, a, b, x⟩ := h5 i d e
        exact ⟨p, start_get a, b, .inr (by rw [Nat.zero_add] at x; exact x)⟩
    · subst e
      trivial
  · have k1 : ss[i]? = some (.own d) := (sg i _ e1).resolve_right (fun z => nomatch z)
    have k2 : ss[j]? = some (.own e) := (sg j _ e2).resolve_right (fun z => nomatch z)
    obtain ⟨p1, a1, _, x1⟩ := h5 i d k1
    obtain ⟨p2, a2, _, x2⟩ := h5 j e k2
    rw [start_get a1] at e3
    rw [start_get a2] at e4
    cases e3
    cases e4
    rw [Nat.zero_add] at x1 x2
    exact nodup_snd (by rw [h2]; exact hn) x1 x2
  · obtain ⟨i, a, b⟩ := h6 q hq
    rw [a, Nat.zero_add]
    exact start_get b
  · obtain ⟨d, ow⟩ := h7 q.2 (by rw [← h2]; exact List.mem_map.mpr ⟨q, hq, rfl⟩)
    obtain ⟨_, o, ho, hd, _⟩ := ow
    exact ⟨o, ho, hd.notTbl.1⟩
/-- what a State at a def's end tells its caller -/
theorem exit_post {ρ : Env} {σ : L2.St} {G' H' : Hp} (gl : GLe G G') (S : State c (entryFr G H ss vs) ρ σ G' H') : Post c.T G H G' H' (owns ss vs) :=
  ⟨gl, S.sub, S.tab, S.tabG, fun a u e1 e2 e3 e4 => S.fg a u (entryFr_fg.mpr ⟨⟨e2.imp id fun ⟨q, w, z⟩ => ⟨q, w, by rw [e1, z]⟩, e3, fun ps z => e4 ps (by rw [e1] at z; exact Option.some.inj z)⟩, e1⟩), fun a e => S.dom a e, S.tupG⟩
theorem exit_back {ρ : Env} {σ : L2.St} {G' H' : Hp} (ha : ArgsOk c.K G H ss vs) (hio : ownIx 0 ss = c.ios) (S : State c (entryFr G H ss vs) ρ σ G' H') {b : List D} (hb : backs c.ios ρ = some b) : BackOk c.K G' H' b (owns ss vs) := by
  obtain ⟨h1, h2, _⟩ := ioL_args (k := 0) ha
  rw [← h2]
  rw [← hio, ← h1] at hb
  have key : ∀ (qs : List (Nat × Addr)) (b : List D), (∀ q ∈ qs, q ∈ ioL 0 ss vs) → backs (qs.map (·.1)) ρ = some b → BackOk c.K G' H' b (qs.map (·.2)) := by
    intro qs
    induction qs with
    | nil =>
      intro b _ hb
      cases hb
      trivial
    | cons q r ih =>
      intro b hq hb
      unfold backs at hb
      simp only [List.map_cons] at hb
      split at hb
      · rename_i d e
        cases er : backs (r.map (·.1)) ρ with
        | none => rw [er] at hb; cases hb
        | some x =>
          rw [er] at hb
          cases hb
          refine ⟨?_, ih x (fun z hz => hq z (List.mem_cons_of_mem _ hz)) er⟩
          obtain ⟨p, e1, ow, _⟩ := S.own_at e
          have := S.io q (hq q List.mem_cons_self)
          rw [this] at e1
          cases e1
          exact ow
      · cases hb
  exact key _ b (fun q hq => hq) hb
end
section
variable {P : Program} {w : World} {K : PySem.W.Frag} {mg : Str → Option Value} {base : Heap} {T : List (Addr × Str)}
/-- THE RULE for a def of the text, its code object known -/
theorem fn_okC {x qual : Str} {st : Stmt} {f : Addr} {N ps : List Str} {k n : Nat} {ios : List Nat} {m : SM} {oc : Value} {od an : Option Addr} {kV doc pm cdv ct : Value} {osl : Array (Option Value)}
    (lk : K.lookup f = some ⟨oc, od, .func (PySem.W.fnOf x qual (defArgs st) (defBody st) (defScope st) .none kV doc pm an cdv ct), osl⟩) (hcd : PySem.W.codeIn K cdv qual = true) (S : FnScope N ps (defScope st)) (hn : ps.length = n := by rfl)
    (hbody : ∀ (A : Around) (outer : List PySem.Env) (s : Shared) (H : Hp) (E : XK) (W : WX), Room k (A.deeper (envOfC qual (defScope st) s.heap.objs.size f cdv)) → Takes (cxOf (L2.CX P w) P w K mg base N qual (defScope st) f cdv A outer s H E) W →
      PassesOwn (model P w) (cxOf (L2.CX P w) P w K mg base N qual (defScope st) f cdv A outer s H E).A (cxOf (L2.CX P w) P w K mg base N qual (defScope st) f cdv A outer s H E).env (cxOf (L2.CX P w) P w K mg base N qual (defScope st) f cdv A outer s H E).xe →
      PSs (cxOf (L2.CX P w) P w K mg base N qual (defScope st) f cdv A outer s H E) (defBody st) (tS ⟨K, T, mg, W, ios⟩ m)) :
    FnOk P w K mg base (L2.CX P w) (k + 1) f (PySem.W.fnOf x qual (defArgs st) (defBody st) (defScope st) .none kV doc pm an cdv ct) ps (spM K T mg n (fnM N.length n ios m)) := by
  have hpl : ps.length ≤ N.length := by have := congrArg List.length S.pre; rw [List.length_take] at this; omega
  refine fn_of lk hcd S (fun vs H Q E h => by rw [h.1, hn]) (fun A outer s H vs Q E hr h => ?_)
  obtain ⟨hl, G, ss, sub, tab, tabG, tupG, ha, hnd, hq⟩ := h
  refine ⟨_, hbody A outer s H E (fun cls d _ H' => E cls d H') hr (takes_of rfl rfl rfl rfl) (passes_of rfl), ?_⟩
  unfold fnM at hq
  by_cases hio : ownIx 0 ss = ios
  · rw [if_pos hio] at hq
    have St := entry_state (c := ⟨K, T, mg, fun cls d _ H' => E cls d H', ios⟩) (N := N) sub tab tabG tupG ha hnd (by rw [hl, ← hn]; exact hpl) hio
    rw [hl] at St
    refine ⟨_, _, G, St, ?_⟩
    cases em : m (ss ++ List.replicate (N.length - n) Sl.no) with
    | stuck => rw [em] at hq; exact False.elim hq
    | nx ρ =>
      rw [em] at hq
      simp only at hq
      intro σ' H' G' S' gl
      cases eb : backs ios ρ with
      | none => rw [eb] at hq; exact False.elim hq
      | some b =>
        rw [eb] at hq
        exact hq .non H' G' (exit_post gl S') rfl (exit_back ha hio S' eb)
    | rt d ρ =>
      rw [em] at hq
      simp only at hq
      intro v σ' H' G' S' gl r
      cases eb : backs ios ρ with
      | none => rw [eb] at hq; exact False.elim hq
      | some b =>
        rw [eb] at hq
        exact hq v H' G' (exit_post gl S') r (exit_back ha hio S' eb)
    | ex e ρ =>
      rw [em] at hq
      simp only at hq
      intro cls dx σ' H' G' S' gl xo
      by_cases h0 : ios = []
      · rw [if_pos h0] at hq
        exact hq cls dx H' G' (exit_post gl S') xo
      · rw [if_neg h0] at hq
        exact hq.elim
  · rw [if_neg hio] at hq
    exact hq.elim
/-- THE RULE for a def of the text -/
theorem fn_ok {x qual : Str} {st : Stmt} {f : Addr} {fd : FuncData} {N ps : List Str} {k n : Nat} {ios : List Nat} {m : SM} (Fn : Fun K x qual st f fd) (S : FnScope N ps (defScope st)) (hn : ps.length = n := by rfl)
    (hbody : ∀ (cdv : Value) (A : Around) (outer : List PySem.Env) (s : Shared) (H : Hp) (E : XK) (W : WX), Room k (A.deeper (envOfC qual (defScope st) s.heap.objs.size f cdv)) → Takes (cxOf (L2.CX P w) P w K mg base N qual (defScope st) f cdv A outer s H E) W →
      PassesOwn (model P w) (cxOf (L2.CX P w) P w K mg base N qual (defScope st) f cdv A outer s H E).A (cxOf (L2.CX P w) P w K mg base N qual (defScope st) f cdv A outer s H E).env (cxOf (L2.CX P w) P w K mg base N qual (defScope st) f cdv A outer s H E).xe →
      PSs (cxOf (L2.CX P w) P w K mg base N qual (defScope st) f cdv A outer s H E) (defBody st) (tS ⟨K, T, mg, W, ios⟩ m)) :
    FnOk P w K mg base (L2.CX P w) (k + 1) f fd ps (spM K T mg n (fnM N.length n ios m)) := by
  obtain ⟨oc, od, kV, doc, pm, an, cdv, ct, osl, rfl, lk, hcd⟩ := Fn.ex
  exact fn_okC lk hcd S hn (hbody cdv)
end

set_option autoImplicit true
def sAsg (m : ME) (tm : TM) : SM := fun ρ => (m ρ).sr fun d ρ1 => (tm d ρ1).sr fun _ ρ2 => .nx ρ2
section
variable {X : Cx} {c : Ct} {F : Fr} {ρ : Env} {σ : L2.St} {G H : Hp} {e tg : Expr} {es : List Expr} {pos : Pos}
theorem st_asg {m : ME} {ts : List Nat} {tm : TM} (he : PE X e (tE c m)) (hg : PG X tg (tG c ts tm)) (hs : swapsWithSole [tg] e pos.line X.env = pure false := by rfl) (hw : swappedStores [tg] e X.env = pure none := by rfl)
    (h1 : (assignEach [tg] X.env).map (·.2) = [assign tg X.env] := by rfl) : PS X (.Assign [tg] e pos) (tS c (sAsg m tm)) := ps_conseq (ps_asg he hg hs hw h1) fun D σ H ⟨F, ρ, G, S, a⟩ => by
  refine ⟨F, ρ, G, S, (SAsk.sr a).imp (GLe.refl G) fun d ρ1 k v H1 G1 S1 gl1 r => ⟨F, ρ1, G1, d, S1, r, ?_⟩⟩
  cases et : tm d ρ1 with
  | stuck => rw [et] at k; exact k
  | ex x ρ2 =>
    rw [et] at k
    exact fun cls dx σ' H' G' S' gl x => k cls dx σ' H' G' S' (gl1.trans gl) x
  | ok u ρ2 =>
    rw [et] at k
    exact fun σ' H' G' S' gl _ => k σ' H' G' S' (gl1.trans gl)
def tPs (c : Ct) : List (Bool × ME) → TA
  | [] => tNil
  | (false, m) :: r => tCons (tE c m) (tPs c r)
  | (true, m) :: r => tCons (tF c m) (tPs c r)
def PVs (c : Ct) (F : Fr) (ρ : Env) (σ : L2.St) (G H : Hp) : List Bool → List D → List V → Prop
  | [], [], [] => True
  | false :: fs, d :: ds, v :: vs => Rp c.K G d v ∧ PVs c F ρ σ G H fs ds vs
  | true :: fs, d :: ds, v :: vs => (∃ p, v = .ref p ∧ NewAt c F ρ σ G H d p) ∧ PVs c F ρ σ G H fs ds vs
  | _, _, _ => False
def newsOf : List Bool → List V → List Addr
  | true :: fs, .ref p :: vs => p :: newsOf fs vs
  | _ :: fs, _ :: vs => newsOf fs vs
  | _, _ => []
theorem PVs.minus {p : Addr} {o : HO} : ∀ {fs : List Bool} {ds : List D} {vs : List V}, PVs c (F.plus p o) ρ σ G H fs ds vs → PVs c F ρ σ G H fs ds vs ∧ p ∉ newsOf fs vs
  | [], [], [], _ => ⟨trivial, fun z => nomatch z⟩
  | false :: fs, d :: ds, v :: vs, h => by
    obtain ⟨h1, h2⟩ := PVs.minus h.2
    have e : newsOf (false :: fs) (v :: vs) = newsOf fs vs := by cases v <;> rfl
    exact ⟨⟨h.1, h1⟩, by rw [e]; exact h2⟩
  | true :: fs, d :: ds, v :: vs, h => by
    obtain ⟨h1, h2⟩ := PVs.minus h.2
    obtain ⟨⟨q, rfl, n1, n2, n3⟩, _⟩ := h
    refine ⟨⟨⟨q, rfl, n1, fun z => n2 (.inl z), n3⟩, h1⟩, fun z => ?_⟩
    rcases List.mem_cons.mp z with e | z
    · exact n2 (.inr e.symm)
    · exact h2 z
theorem tPs_ev : ∀ {ms : List (Bool × ME)} {F : Fr} {ρ : Env} {G H : Hp} {R : List V → Hp → Prop}, State c F ρ σ G H →
    Ask c F σ G (fun ds ρ' => ∀ vs H' G', State c F ρ' σ G' H' → GLe G G' → PVs c F ρ' σ G' H' (ms.map (·.1)) ds vs → (newsOf (ms.map (·.1)) vs).Nodup → R vs H') (evm (ms.map (·.2)) ρ) → tPs c ms σ H R
  | [], F, ρ, G, H, R, S, a => a [] H G S (GLe.refl G) trivial List.nodup_nil
  | (false, m) :: ms, F, ρ, G, H, R, S, a => by
    refine ⟨F, ρ, G, S, (Ask.then a).imp (GLe.refl G) fun d ρ1 a1 v H1 G1 S1 g1 r1 => ?_⟩
    refine tPs_ev S1 ((Ask.then a1).imp g1 fun ds ρ2 k vs H2 G2 S2 g2 r2 n2 => ?_)
    refine k (v :: vs) H2 G2 S2 (g1.trans g2) ⟨Rp.mono g2 d v r1, r2⟩ ?_
    have e : newsOf (((false, m) :: ms).map (·.1)) (v :: vs) = newsOf (ms.map (·.1)) vs := by cases v <;> rfl
    rw [e]
    exact n2
  | (true, m) :: ms, F, ρ, G, H, R, S, a => by
    refine ⟨F, ρ, G, S, (Ask.then a).imp (GLe.refl G) fun d ρ1 a1 p H1 G1 S1 g1 n1 => ?_⟩
    obtain ⟨hg, o, ho, hd, hm⟩ := id n1.1
    have nd := n1.2.1
    have fgn := NewAt.fgn S1 n1
    refine tPs_ev (S1.plus n1 ho) (((Ask.then a1).minus nd fgn).imp g1 fun ds ρ2 k vs H2 G2 S2 g2 r2 n2 => ?_)
    obtain ⟨r3, n3⟩ := PVs.minus r2
    exact k (.ref p :: vs) H2 G2 (S2.minus nd fgn) (g1.trans g2) ⟨⟨p, rfl, NewAt.still nd (hd.mono g2) hm S2⟩, r3⟩ (List.nodup_cons.mpr ⟨n3, n2⟩)
theorem mp_nil : PA X [] (tPs c []) := pa_nil
theorem mp_v {m : ME} {ms : List (Bool × ME)} (h : PE X e (tE c m)) (hr : PA X es (tPs c ms)) (hs : starEach (e :: es) X.env = (false, eval e X.env) :: starEach es X.env := by rfl) : PA X (e :: es) (tPs c ((false, m) :: ms)) := pa_cons h hr hs
theorem mp_f {m : ME} {ms : List (Bool × ME)} (h : PE X e (tF c m)) (hr : PA X es (tPs c ms)) (hs : starEach (e :: es) X.env = (false, eval e X.env) :: starEach es X.env := by rfl) : PA X (e :: es) (tPs c ((true, m) :: ms)) := pa_cons h hr hs
def setP : List Nat → List Bool → List D → Env → Env
  | i :: is, f :: fs, d :: ds, ρ => setP is fs ds (ρ.set i (if f = true then .own d else .fz d))
  | _, _, _, ρ => ρ
def setV : List Nat → List V → L2.St → L2.St
  | i :: is, v :: vs, σ => setV is vs (σ.set i (some v))
  | _, _, σ => σ
theorem setP_state : ∀ {is : List Nat} {fs : List Bool} {ds : List D} {vs : List V} {ρ : Env} {σ : L2.St}, State c F ρ σ G H → is.length = fs.length → PVs c F ρ σ G H fs ds vs → (newsOf fs vs).Nodup → (∀ i ∈ is, i ∉ c.ios) → State c F (setP is fs ds ρ) (setV is vs σ) G H
  | [], [], [], [], ρ, σ, S, _, _, _, _ => S
  | i :: is, false :: fs, d :: ds, v :: vs, ρ, σ, S, hl, h, n, hio => by
    have e : newsOf (false :: fs) (v :: vs) = newsOf fs vs := by cases v <;> rfl
    have S' := S.setFz h.1 (hio i List.mem_cons_self)
    refine setP_state (is := is) (fs := fs) (ds := ds) (vs := vs) S' (by simpa using hl) ?_ (by rw [← e]; exact n) fun j hj => hio j (List.mem_cons_of_mem _ hj)
    have key : ∀ {fs : List Bool} {ds : List D} {vs : List V}, PVs c F ρ σ G H fs ds vs → PVs c F (ρ.set i (.fz d)) (σ.set i (some v)) G H fs ds vs := by
      intro fs
      induction fs with
      | nil => intro ds vs h; cases ds <;> cases vs <;> first | trivial | exact h.elim
      | cons f fs ih =>
        intro ds vs h
        cases ds with
        | nil => cases f <;> exact h.elim
        | cons x ds =>
          cases vs with
          | nil => cases f <;> exact h.elim
          | cons u vs =>
            cases f with
            | false => exact ⟨h.1, ih h.2⟩
            | true =>
              obtain ⟨⟨p, e1, n1, n2, n3⟩, hr⟩ := h
              refine ⟨⟨p, e1, n1, n2, fun j y ej es => ?_⟩, ih hr⟩
              rcases get_set ej with ⟨_, z⟩ | ⟨ne, ej⟩
              · cases z
              · rw [List.getElem?_set_ne ne] at es
                exact n3 j y ej es
    exact key h.2
  | i :: is, true :: fs, d :: ds, v :: vs, ρ, σ, S, hl, h, n, hio => by
    obtain ⟨⟨p, rfl, hn⟩, hr⟩ := h
    have n' := List.nodup_cons.mp n
    have S' := S.setOwn hn (hio i List.mem_cons_self)
    refine setP_state (is := is) (fs := fs) (ds := ds) (vs := vs) S' (by simpa using hl) ?_ n'.2 fun j hj => hio j (List.mem_cons_of_mem _ hj)
    have key : ∀ {fs : List Bool} {ds : List D} {vs : List V}, p ∉ newsOf fs vs → PVs c F ρ σ G H fs ds vs → PVs c F (ρ.set i (.own d)) (σ.set i (some (.ref p))) G H fs ds vs := by
      intro fs
      induction fs with
      | nil => intro ds vs _ h; cases ds <;> cases vs <;> first | trivial | exact h.elim
      | cons f fs ih =>
        intro ds vs np h
        cases ds with
        | nil => cases f <;> exact h.elim
        | cons x ds =>
          cases vs with
          | nil => cases f <;> exact h.elim
          | cons u vs =>
            cases f with
            | false =>
              have e : newsOf (false :: fs) (u :: vs) = newsOf fs vs := by cases u <;> rfl
              rw [e] at np
              exact ⟨h.1, ih np h.2⟩
            | true =>
              obtain ⟨⟨q, rfl, n1, n2, n3⟩, hr⟩ := h
              have np' : ¬ p ∈ q :: newsOf fs vs := np
              rw [List.mem_cons, not_or] at np'
              refine ⟨⟨q, rfl, n1, n2, fun j y ej es => ?_⟩, ih np'.2 hr⟩
              rcases get_set ej with ⟨rfl, _⟩ | ⟨ne, ej⟩
              · have hlt : i < σ.length := by
                  by_cases hlt : i < σ.length
                  · exact hlt
                  · rw [List.getElem?_eq_none (by rw [List.length_set]; omega)] at es
                    cases es
                rw [List.getElem?_set_self hlt] at es
                cases es
                exact np'.1 rfl
              · rw [List.getElem?_set_ne ne] at es
                exact n3 j y ej es
    exact key n'.1 hr
def sPar (is : List Nat) (ms : List (Bool × ME)) : SM := fun ρ => (evm (ms.map (·.2)) ρ).sr fun ds ρ' => .nx (setP is (ms.map (·.1)) ds ρ')
theorem PVs.len : ∀ {fs : List Bool} {ds : List D} {vs : List V}, PVs c F ρ σ G H fs ds vs → vs.length = fs.length
  | [], [], [], _ => rfl
  | false :: fs, d :: ds, v :: vs, h => by rw [List.length_cons, List.length_cons, PVs.len h.2]
  | true :: fs, d :: ds, v :: vs, h => by rw [List.length_cons, List.length_cons, PVs.len h.2]
/-- two, three local names (stored from the right) -/
theorem st_par2 {i j : Nat} {x y : Str} {a b : Expr} {ms : List (Bool × ME)} {px py pt : Pos} {kt k2 : Nat} {pt2 : Pos} (hc : X.calm = true) (hN : X.N.Nodup) (hi : X.N[i]? = some x) (hj : X.N[j]? = some y) (hij : i ≠ j)
    (hx : X.env.scope.names.lookup x = some .local) (hy : X.env.scope.names.lookup y = some .local) (ha : PA X [a, b] (tPs c ms)) (hio : ∀ k ∈ [i, j], k ∉ c.ios) (hl : ms.length = 2)
    (hw : swappedStores [.Tuple [.Name x px, .Name y py] kt pt] (.Tuple [a, b] k2 pt2) X.env = pure (some [x, y]))
    (hs : swapsWithSole [.Tuple [.Name x px, .Name y py] kt pt] (.Tuple [a, b] k2 pt2) pos.line X.env = pure false := by rfl) :
    PS X (.Assign [.Tuple [.Name x px, .Name y py] kt pt] (.Tuple [a, b] k2 pt2) pos) (tS c (sPar [i, j] ms)) := ps_conseq (ps_par hc hN hi hj hij hx hy ha hw hs) fun D σ H ⟨F, ρ, G, S, a⟩ => by
  refine tPs_ev S ((SAsk.sr a).imp (GLe.refl G) fun ds ρ1 k vs H1 G1 S1 gl1 pv n => ?_)
  have h2 := pv.len
  rw [List.length_map, hl] at h2
  match vs, h2, pv, n with
  | [v, u], _, pv, n => exact ⟨v, u, rfl, k _ H1 G1 (setP_state (is := [i, j]) S1 (by rw [List.length_map, hl]; rfl) pv n hio) gl1⟩
theorem st_par3 {i j l : Nat} {x y z : Str} {a b d : Expr} {ms : List (Bool × ME)} {px py pz pt : Pos} {kt k2 : Nat} {pt2 : Pos} (hc : X.calm = true) (hN : X.N.Nodup) (hi : X.N[i]? = some x) (hj : X.N[j]? = some y) (hl : X.N[l]? = some z) (hij : i ≠ j) (hil : i ≠ l) (hjl : j ≠ l)
    (hx : X.env.scope.names.lookup x = some .local) (hy : X.env.scope.names.lookup y = some .local) (hz : X.env.scope.names.lookup z = some .local) (ha : PA X [a, b, d] (tPs c ms)) (hio : ∀ k ∈ [i, j, l], k ∉ c.ios) (hln : ms.length = 3)
    (hw : swappedStores [.Tuple [.Name x px, .Name y py, .Name z pz] kt pt] (.Tuple [a, b, d] k2 pt2) X.env = pure (some [x, y, z]))
    (hs : swapsWithSole [.Tuple [.Name x px, .Name y py, .Name z pz] kt pt] (.Tuple [a, b, d] k2 pt2) pos.line X.env = pure false := by rfl) :
    PS X (.Assign [.Tuple [.Name x px, .Name y py, .Name z pz] kt pt] (.Tuple [a, b, d] k2 pt2) pos) (tS c (sPar [i, j, l] ms)) := ps_conseq (ps_par3 hc hN hi hj hl hij hil hjl hx hy hz ha hw hs) fun D σ H ⟨F, ρ, G, S, a⟩ => by
  refine tPs_ev S ((SAsk.sr a).imp (GLe.refl G) fun ds ρ1 k vs H1 G1 S1 gl1 pv n => ?_)
  have h2 := pv.len
  rw [List.length_map, hln] at h2
  match vs, h2, pv, n with
  | [v, u, w], _, pv, n => exact ⟨v, u, w, rfl, k _ H1 G1 (setP_state (is := [i, j, l]) S1 (by rw [List.length_map, hln]; rfl) pv n hio) gl1⟩
end

set_option autoImplicit true
def toK1 : D → Option Key
  | .int i => some (.inl i)
  | .str x => some (.inr x)
  | _ => none
def toKs : List D → Option (List Key)
  | [] => some []
  | d :: ds => (toK1 d).bind fun k => (toKs ds).map fun r => k :: r
def toKT : D → Option (List Key)
  | .tuple ds => toKs ds
  | _ => none
def dkEq (a b : D) : Bool := match toK1 a, toK1 b with
  | some x, some y => decide (x = y)
  | none, none => (match toKT a, toKT b with
    | some x, some y => decide (x = y)
    | _, _ => false)
  | _, _ => false
theorem toK1_keyD (x : Key) : toK1 (keyD x) = some x := by cases x <;> rfl
theorem of_toK1 {d : D} {x : Key} (h : toK1 d = some x) : d = keyD x := by
  cases d <;> simp only [toK1] at h <;> cases h <;> rfl
theorem toKs_keyD : ∀ xs : List Key, toKs (xs.map keyD) = some xs
  | [] => rfl
  | x :: xs => by
    show (toK1 (keyD x)).bind _ = _
    rw [toK1_keyD, toKs_keyD xs]
    rfl
theorem of_toKs : ∀ {ds : List D} {xs : List Key}, toKs ds = some xs → ds = xs.map keyD
  | [], _, h => by cases h; rfl
  | d :: ds, xs, h => by
    unfold toKs at h
    cases e : toK1 d with
    | none => rw [e] at h; cases h
    | some k =>
      rw [e] at h
      cases e2 : toKs ds with
      | none => rw [e2] at h; cases h
      | some r =>
        rw [e2] at h
        cases h
        rw [of_toK1 e, of_toKs e2]
        rfl
theorem of_toKT {d : D} {xs : List Key} (h : toKT d = some xs) : d = .tuple (xs.map keyD) := by
  cases d <;> simp only [toKT] at h <;> first | cases h | skip
  rw [of_toKs h]
theorem toKT_keyD (xs : List Key) : toKT (.tuple (xs.map keyD)) = some xs := toKs_keyD xs
theorem toK1_tup (ds : List D) : toK1 (.tuple ds) = none := rfl
theorem dkEq_1 (x y : Key) : dkEq (keyD x) (keyD y) = decide (x = y) := by
  unfold dkEq
  rw [toK1_keyD, toK1_keyD]
theorem dkEq_T (xs ys : List Key) : dkEq (.tuple (xs.map keyD)) (.tuple (ys.map keyD)) = decide (xs = ys) := by
  unfold dkEq
  rw [toK1_tup, toK1_tup, toKT_keyD, toKT_keyD]
def dGetV (kvs : List (D × D)) (k : D) : Option D := (kvs.find? fun p => dkEq p.1 k).map (·.2)
def dPutV (kvs : List (D × D)) (k d : D) : List (D × D) := if (kvs.any fun p => dkEq p.1 k) = true then kvs.map (fun p => if dkEq p.1 k = true then (p.1, d) else p) else kvs ++ [(k, d)]
/-- all keys are of the kind of k -/
def keyFits (kvs : List (D × D)) (k : D) : Bool := match toK1 k with
  | some _ => kvs.all fun p => (toK1 p.1).isSome
  | none => (toKT k).isSome && kvs.all fun p => (toKT p.1).isSome
section
variable {K : PySem.W.Frag} {G H : Hp}
theorem RpK.length : ∀ {kvs : List (D × D)} {es : List (Key × V)}, RpK K G kvs es → es.length = kvs.length
  | [], _, h => by cases h; rfl
  | (k, d) :: kvs, _, ⟨x, v, r, e, _, _, t⟩ => by rw [e, List.length_cons, List.length_cons, RpK.length t]
theorem RpT.length : ∀ {kvs : List (D × D)} {es : List (List Key × V)}, RpT K G kvs es → es.length = kvs.length
  | [], _, h => by cases h; rfl
  | (k, d) :: kvs, _, ⟨x, v, r, e, _, _, t⟩ => by rw [e, List.length_cons, List.length_cons, RpT.length t]
theorem RpK.get : ∀ {kvs : List (D × D)} {es : List (Key × V)} {x : Key}, RpK K G kvs es → match dGetV kvs (keyD x) with
    | some d => ∃ v, valV es x = some v ∧ Rp K G d v
    | none => valV es x = none
  | [], _, x, h => by cases h; rfl
  | (k, d) :: kvs, _, x, ⟨y, v, r, e, ek, h, t⟩ => by
    subst e
    subst ek
    have ih := RpK.get (x := x) t
    unfold dGetV at ih ⊢
    simp only [List.find?_cons, dkEq_1]
    by_cases q : y = x
    · rw [valV_pos (p := (y, v)) q]
      simp only [q, decide_true, Option.map_some]
      exact ⟨v, rfl, h⟩
    · rw [valV_neg (p := (y, v)) q]
      simp only [q, decide_false]
      exact ih
theorem RpT.get : ∀ {kvs : List (D × D)} {es : List (List Key × V)} {x : List Key}, RpT K G kvs es → match dGetV kvs (.tuple (x.map keyD)) with
    | some d => ∃ v, valV es x = some v ∧ Rp K G d v
    | none => valV es x = none
  | [], _, x, h => by cases h; rfl
  | (k, d) :: kvs, _, x, ⟨y, v, r, e, ek, h, t⟩ => by
    subst e
    subst ek
    have ih := RpT.get (x := x) t
    unfold dGetV at ih ⊢
    simp only [List.find?_cons, dkEq_T]
    by_cases q : y = x
    · rw [valV_pos (p := (y, v)) q]
      simp only [q, decide_true, Option.map_some]
      exact ⟨v, rfl, h⟩
    · rw [valV_neg (p := (y, v)) q]
      simp only [q, decide_false]
      exact ih
theorem RpK.any : ∀ {kvs : List (D × D)} {es : List (Key × V)} (x : Key), RpK K G kvs es → (kvs.any fun p => dkEq p.1 (keyD x)) = es.any fun kv => decide (kv.1 = x)
  | [], _, x, h => by cases h; rfl
  | (k, d) :: kvs, _, x, ⟨y, v, r, e, ek, h, t⟩ => by
    subst e
    subst ek
    rw [List.any_cons, List.any_cons, RpK.any x t, dkEq_1]
theorem RpT.any : ∀ {kvs : List (D × D)} {es : List (List Key × V)} (x : List Key), RpT K G kvs es → (kvs.any fun p => dkEq p.1 (.tuple (x.map keyD))) = es.any fun kv => decide (kv.1 = x)
  | [], _, x, h => by cases h; rfl
  | (k, d) :: kvs, _, x, ⟨y, v, r, e, ek, h, t⟩ => by
    subst e
    subst ek
    rw [List.any_cons, List.any_cons, RpT.any x t, dkEq_T]
theorem RpK.append : ∀ {kvs ks : List (D × D)} {es fs : List (Key × V)}, RpK K G kvs es → RpK K G ks fs → RpK K G (kvs ++ ks) (es ++ fs)
  | [], _, _, _, h, h' => by cases h; exact h'
  | (k, d) :: kvs, ks, _, fs, ⟨y, v, r, e, ek, h, t⟩, h' => ⟨y, v, r ++ fs, by rw [e]; rfl, ek, h, RpK.append t h'⟩
theorem RpT.append : ∀ {kvs ks : List (D × D)} {es fs : List (List Key × V)}, RpT K G kvs es → RpT K G ks fs → RpT K G (kvs ++ ks) (es ++ fs)
  | [], _, _, _, h, h' => by cases h; exact h'
  | (k, d) :: kvs, ks, _, fs, ⟨y, v, r, e, ek, h, t⟩, h' => ⟨y, v, r ++ fs, by rw [e]; rfl, ek, h, RpT.append t h'⟩
theorem RpK.put {kvs : List (D × D)} {es : List (Key × V)} {x : Key} {d : D} {v : V} (h : RpK K G kvs es) (r : Rp K G d v) : RpK K G (dPutV kvs (keyD x) d) (putK es x v) := by
  unfold dPutV putK
  rw [h.any x]
  split
  · have key : ∀ {kvs : List (D × D)} {es : List (Key × V)}, RpK K G kvs es → RpK K G (kvs.map fun p => if dkEq p.1 (keyD x) = true then (p.1, d) else p) (es.map fun kv => if kv.1 = x then (kv.1, v) else kv) := by
      intro kvs
      induction kvs with
      | nil => intro es h; cases h; rfl
      | cons p kvs ih =>
        obtain ⟨k, d'⟩ := p
        intro es ⟨y, u, rr, e, ek, h, t⟩
        subst e
        subst ek
        simp only [List.map_cons, dkEq_1]
        by_cases q : y = x
        · simp only [q, decide_true, if_true]
          exact ⟨x, v, _, rfl, rfl, r, ih t⟩
        · simp only [q, decide_false, Bool.false_eq_true, if_false]
          exact ⟨y, u, _, rfl, rfl, h, ih t⟩
    exact key h
  · exact h.append ⟨x, v, [], rfl, rfl, r, rfl⟩
theorem RpT.put {kvs : List (D × D)} {es : List (List Key × V)} {x : List Key} {d : D} {v : V} (h : RpT K G kvs es) (r : Rp K G d v) : RpT K G (dPutV kvs (.tuple (x.map keyD)) d) (putK es x v) := by
  unfold dPutV putK
  rw [h.any x]
  split
  · have key : ∀ {kvs : List (D × D)} {es : List (List Key × V)}, RpT K G kvs es → RpT K G (kvs.map fun p => if dkEq p.1 (.tuple (x.map keyD)) = true then (p.1, d) else p) (es.map fun kv => if kv.1 = x then (kv.1, v) else kv) := by
      intro kvs
      induction kvs with
      | nil => intro es h; cases h; rfl
      | cons p kvs ih =>
        obtain ⟨k, d'⟩ := p
        intro es ⟨y, u, rr, e, ek, h, t⟩
        subst e
        subst ek
        simp only [List.map_cons, dkEq_T]
        by_cases q : y = x
        · simp only [q, decide_true, if_true]
          exact ⟨x, v, _, rfl, rfl, r, ih t⟩
        · simp only [q, decide_false, Bool.false_eq_true, if_false]
          exact ⟨y, u, _, rfl, rfl, h, ih t⟩
    exact key h
  · exact h.append ⟨x, v, [], rfl, rfl, r, rfl⟩
theorem RpL.keys : ∀ {ks : List Key} {vs : List V}, RpL K G (ks.map keyD) vs → vs = ks.map kV
  | [], _, h => h
  | k :: ks, _, ⟨v, r, e, h, t⟩ => by
    rw [e, RpL.keys t]
    cases k with
    | inl i => rw [show v = V.int i from h]; rfl
    | inr x => rw [show v = V.str x from h]; rfl
theorem Rp.key {x : Key} {v : V} (h : Rp K G (keyD x) v) : v = kV x := by cases x <;> exact h
theorem Vw.key {x : Key} {v : V} (h : Vw K G H (keyD x) v) : v = kV x := by
  rcases h with h | ⟨p, _, _, o, _, hd, _⟩
  · exact h.key
  · cases x <;> cases hd
theorem Vw.lst {ds : List D} {v : V} (s : Sub G H) (h : Vw K G H (.list ds) v) : ∃ a xs, v = .ref a ∧ H a = some (.lst xs) ∧ RpL K G ds xs := by
  rcases h with ⟨a, xs, e, q, r⟩ | ⟨p, e, _, o, ho, hd, _⟩
  · exact ⟨a, xs, e, s.lst q, r⟩
  · cases hd with
    | lst r => exact ⟨p, _, e, ho, r⟩
theorem Vw.tup {ds : List D} {v : V} (s : Sub G H) (h : Vw K G H (.tuple ds) v) : ∃ a xs, v = .ref a ∧ H a = some (.tup xs) ∧ G a = some (.tup xs) ∧ RpL K G ds xs := by
  rcases h with ⟨a, xs, e, q, r⟩ | ⟨p, e, _, o, ho, hd, hm⟩
  · exact ⟨a, xs, e, s.tup q, q, r⟩
  · cases hd
    exact hm.elim
theorem Vw.keyT {ks : List Key} {v : V} (s : Sub G H) (h : Vw K G H (.tuple (ks.map keyD)) v) : ∃ a, v = .ref a ∧ H a = some (.tup (ks.map kV)) := by
  obtain ⟨a, xs, e, q, _, r⟩ := h.tup s
  exact ⟨a, e, by rw [q, r.keys]⟩
end
theorem Inv.dKT {X : Cx} {pins : List (Addr × Obj)} {σ : L2.St} {H : Hp} {s : Shared} {a : Addr} (I : Inv X pins σ H s) (h : H a = some (.dK [])) : Inv X pins σ (upd H a (.dT [])) s := by
  have new : ObjOk X.prog X.w (upd H a (.dT [])) s.heap a (.dT []) := by
    obtain ⟨z, hs, vs, kv, o, es, ep, ho, hx, hd, hr⟩ := I.hok a _ h
    cases kv
    refine ⟨z, hs, [], .nil, o, es, ep, ho, hx, hd, ?_, List.nodup_nil⟩
    obtain ⟨_, hp, _⟩ := hr
    generalize es.toList = l at hp
    cases hp
    rfl
  exact I.write (t' := s.toks) (by rw [h]; trivial) (.inl rfl) (fun b u _ q => q) (by
    obtain ⟨z, hs, vs, kv, o, es, ep, ho, hx⟩ := I.hok a _ h
    exact ⟨o, ho⟩) new
theorem Inv.dTK {X : Cx} {pins : List (Addr × Obj)} {σ : L2.St} {H : Hp} {s : Shared} {a : Addr} (I : Inv X pins σ H s) (h : H a = some (.dT [])) : Inv X pins σ (upd H a (.dK [])) s := by
  have new : ObjOk X.prog X.w (upd H a (.dK [])) s.heap a (.dK []) := by
    obtain ⟨z, hs, xs, kv, o, es, ep, ho, hx, hd, hr, _⟩ := I.hok a _ h
    cases kv
    have e0 : es.toList = [] := hr
    have e1 : es = #[] := by
      cases es
      simp at e0
      rw [e0]
    subst e1
    exact ⟨z, hs, [], .nil, o, #[], ep, ho, hx, hd, fun e he => absurd he (by simp), .nil, List.nodup_nil⟩
  exact I.write (t' := s.toks) (by rw [h]; trivial) (.inl rfl) (fun b u _ q => q) (by
    obtain ⟨z, hs, xs, kv, o, es, ep, ho, hx⟩ := I.hok a _ h
    exact ⟨o, ho⟩) new
theorem set_either {X : Cx} {t t' : TSet} (h : PSet X t) (h' : PSet X t') : PSet X (fun o i v H Q => t o i v H Q ∨ t' o i v H Q) := fun pins s σ H o i v ov iv u Q I ro ri rv q =>
  q.elim (h pins s σ H o i v ov iv u Q I ro ri rv) (h' pins s σ H o i v ov iv u Q I ro ri rv)
theorem set_conv {X : Cx} {t : TSet} (h : PSet X t) : PSet X (fun o i v H Q => ∃ a, H a = some (.dK []) ∧ t o i v (upd H a (.dT [])) Q) := fun pins s σ H o i v ov iv u Q I ro ri rv ⟨a, ha, q⟩ =>
  h pins s σ _ o i v ov iv u Q (Inv.dKT I ha) ro ri rv q
theorem set_conv2 {X : Cx} {t : TSet} (h : PSet X t) : PSet X (fun o i v H Q => ∃ a, H a = some (.dT []) ∧ t o i v (upd H a (.dK [])) Q) := fun pins s σ H o i v ov iv u Q I ro ri rv ⟨a, ha, q⟩ =>
  h pins s σ _ o i v ov iv u Q (Inv.dTK I ha) ro ri rv q
abbrev rSetA : TSet := fun o i v H Q => rSetL o i v H Q ∨ rSetD o i v H Q ∨ (∃ a, H a = some (.dK []) ∧ rSetD o i v (upd H a (.dT [])) Q) ∨ ∃ a, H a = some (.dT []) ∧ rSetD o i v (upd H a (.dK [])) Q
theorem set_any {X : Cx} (hu : X.A.units + 1 < cLine) : PSet X rSetA := set_either set_list (set_either (set_dict hu) (set_either (set_conv (set_dict hu)) (set_conv2 (set_dict hu))))
def dPutAt : D → D → D → Option D
  | .list ds, .int k, d => (ixN ds.length k).map fun j => .list (ds.set j d)
  | .dict kvs, k, d => if kvs.length < sizeLine ∧ keyFits kvs k = true then some (.dict (dPutV kvs k d)) else none
  | _, _, _ => none
def mPutAt (i : Nat) (ix : Opd) : TM := fun d ρ => match at_ ρ i with
  | none => .stuck
  | some _ => (ix.ev ρ).then fun k ρ' => match ix.fin k ρ', ρ'[i]? with
    | some kd, some (.own c) => (match dPutAt c kd d with
      | some c' => .ok () (ρ'.set i (.own c'))
      | none => .stuck)
    | _, _ => .stuck
section
variable {X : Cx} {c : Ct} {F : Fr} {ρ : Env} {σ : L2.St} {G H : Hp} {e tg : Expr} {es : List Expr} {pos : Pos}
/-- what dPutAt says, at the heap -/
theorem put_at {K : PySem.W.Frag} {p : Addr} {o : HO} {cd kd d c' : D} {y v : V} {Q : Hp → Prop} (s : Sub G H) (ho : H p = some o) (hd : ObjD K G cd o) (hm : Mut (some o)) (hk : Vw K G H kd y) (r : Rp K G d v) (e : dPutAt cd kd d = some c')
    (q : ∀ o' H', (H' = H ∨ ∃ u, H' = upd H p u) → ObjD K G c' o' → Mut (some o') → Q (upd H' p o')) : rSetA (.ref p) y v H Q := by
  cases hd with
  | tup h => exact hm.elim
  | @lst ds xs h =>
    cases kd <;> simp only [dPutAt] at e <;> first | cases e | skip
    rename_i k
    have ey := hk.int
    subst ey
    cases ej : ixN ds.length k with
    | none => rw [ej] at e; cases e
    | some j =>
      rw [ej] at e
      cases e
      exact .inl ⟨p, xs, k, j, rfl, rfl, ho, by rw [h.length]; exact ej, q _ H (.inl rfl) (.lst (h.set j r)) trivial⟩
  | @dK kvs es h =>
    have e' : (if kvs.length < sizeLine ∧ keyFits kvs kd = true then some (PyData.dict (dPutV kvs kd d)) else none) = some c' := by
      cases kd <;> exact e
    by_cases hc : kvs.length < sizeLine ∧ keyFits kvs kd = true
    · rw [if_pos hc] at e'
      cases e'
      obtain ⟨hl, hf⟩ := hc
      unfold keyFits at hf
      cases ek : toK1 kd with
      | some x =>
        have ed := of_toK1 ek
        subst ed
        have ey := hk.key
        subst ey
        exact .inr (.inl ⟨p, _, rfl, DPut.k ho (by rw [h.length]; exact hl), q _ H (.inl rfl) (.dK (h.put r)) trivial⟩)
      | none =>
        simp only [ek, Bool.and_eq_true] at hf
        obtain ⟨h1, h2⟩ := hf
        cases kvs with
        | cons a b =>
          exfalso
          obtain ⟨ak, ad⟩ := a
          obtain ⟨x, u, r2, _, ek2, _, _⟩ := h
          subst ek2
          rw [List.all_cons, Bool.and_eq_true] at h2
          have z : (toKT (keyD x)).isSome = true := h2.1
          cases x <;> cases z
        | nil =>
          have h' : es = [] := h
          subst h'
          cases et : toKT kd with
          | none => rw [et] at h1; cases h1
          | some ks =>
            have ed := of_toKT et
            subst ed
            obtain ⟨b, eb, hb⟩ := hk.keyT s
            subst eb
            have ne : b ≠ p := fun z => by rw [z, ho] at hb; cases hb
            refine .inr (.inr (.inl ⟨p, ho, p, _, rfl, DPut.t upd_same (by rw [upd_ne ne]; exact hb) (by show 0 < sizeLine; decide), ?_⟩))
            exact q _ _ (.inr ⟨_, rfl⟩) (.dT (RpT.put (kvs := []) (es := []) rfl r)) trivial
    · rw [if_neg hc] at e'
      cases e'
  | @dT kvs es h =>
    have e' : (if kvs.length < sizeLine ∧ keyFits kvs kd = true then some (PyData.dict (dPutV kvs kd d)) else none) = some c' := by
      cases kd <;> exact e
    by_cases hc : kvs.length < sizeLine ∧ keyFits kvs kd = true
    · rw [if_pos hc] at e'
      cases e'
      obtain ⟨hl, hf⟩ := hc
      unfold keyFits at hf
      cases ek : toK1 kd with
      | some x =>
        simp only [ek] at hf
        have ed := of_toK1 ek
        subst ed
        have ey := hk.key
        subst ey
        cases kvs with
        | cons a b =>
          exfalso
          obtain ⟨ak, ad⟩ := a
          obtain ⟨x2, u, r2, _, ek2, _, _⟩ := h
          subst ek2
          rw [List.all_cons, Bool.and_eq_true] at hf
          have z : (toK1 (.tuple (x2.map keyD))).isSome = true := hf.1
          cases z
        | nil =>
          have h' : es = [] := h
          subst h'
          refine .inr (.inr (.inr ⟨p, ho, p, _, rfl, DPut.k upd_same (by show 0 < sizeLine; decide), ?_⟩))
          exact q _ _ (.inr ⟨_, rfl⟩) (.dK (RpK.put (kvs := []) (es := []) rfl r)) trivial
      | none =>
        simp only [ek, Bool.and_eq_true] at hf
        cases et : toKT kd with
        | none => rw [et] at hf; cases hf.1
        | some ks =>
          have ed := of_toKT et
          subst ed
          obtain ⟨b, eb, hb⟩ := hk.keyT s
          subst eb
          exact .inr (.inl ⟨p, _, rfl, DPut.t ho hb (by rw [h.length]; exact hl), q _ H (.inl rfl) (.dT (h.put r)) trivial⟩)
    · rw [if_neg hc] at e'
      cases e'
/-- o[ix] = .. as a target, o an owned slot; h: pg_sub's -/
theorem tg_put {i : Nat} {ix : Opd} (h : PG X tg (gSub (tVar i) (tO c ix) rSetA)) : PG X tg (tG c [] (mPutAt i ix)) := pg_conseq h fun v σ H Q ⟨F, ρ, G, d, S, r, k⟩ => by
  unfold mPutAt at k
  cases ea : at_ ρ i with
  | none => simp only [ea] at k
  | some d0 =>
    simp only [ea] at k
    obtain ⟨v0, e0, _⟩ := S.vw ea
    refine ⟨v0, e0, ?_⟩
    refine tO_ev S ?_
    cases ei : ix.ev ρ with
    | stuck => rw [ei] at k; exact k
    | ex x ρ' =>
      rw [ei] at k
      exact fun cls dx H' G' S' gl x => k cls dx σ H' G' S' gl x
    | ok kx ρ1 =>
      rw [ei] at k
      intro y H1 G1 S1 gl1 ov
      have k' : match (match ix.fin kx ρ1, ρ1[i]? with
        | some kd, some (.own cd) => (match dPutAt cd kd d with
          | some c' => Rs.ok () (ρ1.set i (.own c'))
          | none => .stuck)
        | _, _ => .stuck) with
        | .ok _ ρ' => ∀ σ' H' G', State c F ρ' σ' G' H' → GLe G G' → σ'.length = σ.length ∧ (∀ i, i ∉ ([] : List Nat) → σ'[i]? = σ[i]?) → Q σ' H'
        | .ex e ρ' => ∀ cls dx σ' H' G', State c F ρ' σ' G' H' → GLe G G' → ExOk c G' e cls dx H' → c.W cls dx σ' H'
        | .stuck => False := k
      cases ef : ix.fin kx ρ1 with
      | none => rw [ef] at k'; exact k'.elim
      | some kd =>
        rw [ef] at k'
        cases er : ρ1[i]? with
        | none => rw [er] at k'; exact k'.elim
        | some s =>
          rw [er] at k'
          cases s with
          | no => exact k'.elim
          | fz _ => exact k'.elim
          | own cd =>
            cases ep : dPutAt cd kd d with
            | none => simp only [ep] at k'
            | some c' =>
              simp only [ep] at k'
              obtain ⟨p, es, ow, _⟩ := S1.own_at er
              rw [e0] at es
              cases es
              obtain ⟨hg, o, ho, hd, hm⟩ := id ow
              refine put_at S1.sub ho hd hm (ov.vw S1 ef) (Rp.mono gl1 d v r) ep fun o' H' eH hd' hm' => ?_
              have e2 : upd H' p o' = upd H1 p o' := by
                rcases eH with e | ⟨u, e⟩
                · rw [e]
                · rw [e, upd_upd]
              rw [e2]
              exact k' σ _ G1 (S1.change er e0 hd' hm') gl1 ⟨rfl, fun _ _ => rfl⟩
def mApp (i : Nat) (m : ME) : ME := fun ρ => match ρ[i]? with
  | some (.own (.list _)) => (m ρ).then fun d ρ' => (match ρ'[i]? with
    | some (.own (.list ds)) => if ds.length < sizeLine then .ok .none (ρ'.set i (.own (.list (ds ++ [d])))) else .stuck
    | _ => .stuck)
  | _ => .stuck
theorem me_app {i : Nat} {m : ME} (h : PE X e (tBM X.K "list" rAppend (tVar i) (tMs c [m]))) : PE X e (tE c (mApp i m)) := pe_conseq h fun σ H Q ⟨F, ρ, G, S, a⟩ => by
  unfold mApp at a
  split at a
  · rename_i ds0 e0
    obtain ⟨p, es, ow, _⟩ := S.own_at e0
    obtain ⟨hg, o, ho, hd, _⟩ := id ow
    cases hd with
    | @lst _ xs r0 =>
      refine ⟨.ref p, es, .inl ⟨rfl, xs, .of ho⟩, F, ρ, G, S, (Ask.then a).imp (GLe.refl G) fun d ρ1 k v H1 G1 S1 gl1 r1 => ?_⟩
      split at k
      · rename_i ds e1
        obtain ⟨p', es', ow', _⟩ := S1.own_at e1
        rw [es] at es'
        cases es'
        obtain ⟨hg', o', ho', hd', _⟩ := id ow'
        cases hd' with
        | @lst _ ys r2 =>
          by_cases hz : ds.length < sizeLine
          · rw [if_pos hz] at k
            refine ⟨p, ys, v, rfl, rfl, ho', by rw [r2.length]; exact hz, ?_⟩
            exact k .non _ G1 (S1.change e1 es (.lst (r2.append (.one r1))) trivial) gl1 rfl
          · rw [if_neg hz] at k
            exact k.elim
      · exact k.elim
  · exact a.elim
def mPop (i : Nat) : ME := fun ρ => match ρ[i]? with
  | some (.own (.list ds)) => (match ds[ds.length - 1]? with
    | some d => .ok d (ρ.set i (.own (.list ds.dropLast)))
    | none => .stuck)
  | _ => .stuck
theorem RpL.dropLast {K : PySem.W.Frag} {ds : List D} {vs : List V} (h : RpL K G ds vs) : RpL K G ds.dropLast vs.dropLast := by
  rw [List.dropLast_eq_take, List.dropLast_eq_take, h.length]
  exact h.take _
theorem me_pop {i : Nat} (h : PE X e (tBM0 X.K "list" rPop (tVar i))) : PE X e (tE c (mPop i)) := pe_conseq h fun σ H Q ⟨F, ρ, G, S, a⟩ => by
  unfold mPop at a
  split at a
  · rename_i ds e0
    obtain ⟨p, es, ow, _⟩ := S.own_at e0
    obtain ⟨hg, o, ho, hd, _⟩ := id ow
    cases hd with
    | @lst _ xs r0 =>
      split at a
      · rename_i d ed
        obtain ⟨v, ev, rv⟩ := r0.get ed
        refine ⟨.ref p, es, .inl ⟨rfl, xs, .of ho⟩, p, xs, v, rfl, rfl, ho, by rw [r0.length]; exact ev, ?_⟩
        exact a v _ G (S.change e0 es (.lst r0.dropLast) trivial) (GLe.refl G) rv
      · exact a.elim
  · exact a.elim
theorem RpL.erase {K : PySem.W.Frag} : ∀ {ds : List D} {vs : List V} (n : Nat), RpL K G ds vs → RpL K G (ds.eraseIdx n) (vs.eraseIdx n)
  | [], _, n, h => by cases h; rfl
  | d :: ds, _, 0, ⟨v, r, e, h, t⟩ => by rw [e]; exact t
  | d :: ds, _, n + 1, ⟨v, r, e, h, t⟩ => by rw [e]; exact ⟨v, r.eraseIdx n, rfl, h, RpL.erase n t⟩
def sRaise (x : Str) : SM := fun ρ => .ex ⟨x, none⟩ ρ
theorem pmk_own0 {C : Addr} {bmB : List Value} {B newId initId : String} {x : Str} {p : Pos} (Fc : ExcBaseFacts B newId initId bmB) (q : PySem.W.excIn X.K C bmB newId = true) (gC : X.mg x = some (.ref C))
    (kC : PySem.W.keepIn X.K (.ref C) = true) (r : Raises X (.ref C)) (hg : Gl X x) (hdb : (x == ("__debug__" : Str)) = false := by decide) : PMk X (.Call (.Name x p) [] [] pos) (fun _ H Q => Q (.ref C) none H) := by
  intro pins s σ H Q I q1
  refine wpAny_Call_Name_kw (ld_glob I hg gC ?_ hdb)
  refine PySem.W.callWith_K0 I.kIn kC ?_
  show wpAny _ _ (call (.ref C) []) _ _ _
  obtain ⟨bm, N, nm, qn, bs, hdct, sn, sub, ab, col, dd, k0, k1, k2, k3, k5, mN, hC, hN, hni, T⟩ := exc_obj I.kIn q
  exact wpAny_call_exc_subT Fc T hC hN hni (fun h' e hm => mk_of I hm r q1 (I.hok.gone hm.new)) (Nat.zero_le _)
theorem st_raise0 {C : Addr} {bmB : List Value} {B newId initId : String} {x : Str} {p pos' : Pos} (hc : X.calm = true) (tk : Takes X c.W) (Fc : ExcBaseFacts B newId initId bmB) (q : PySem.W.excIn X.K C bmB newId = true) (gC : X.mg x = some (.ref C)) (gm : c.mg x = some (.ref C))
    (kC : PySem.W.keepIn X.K (.ref C) = true) (r : Raises X (.ref C)) (hg : Gl X x) (hdb : (x == ("__debug__" : Str)) = false := by decide) : PS X (.Raise (some (.Call (.Name x p) [] [] pos)) none pos') (tS c (sRaise x)) :=
  ps_conseq (ps_raise hc tk (pmk_own0 Fc q gC kC r hg hdb)) fun D σ H ⟨F, ρ, G, S, a⟩ => a (.ref C) none σ H G S (GLe.refl G) ⟨C, gm, rfl, rfl⟩
end

set_option autoImplicit true
mutual
def noDi : D → Bool
  | .dict _ => false
  | .list ds => noDiL ds
  | .tuple ds => noDiL ds
  | _ => true
def noDiL : List D → Bool
  | [] => true
  | d :: ds => noDi d && noDiL ds
end
mutual
theorem noDi_lay : ∀ d : D, d.canLay0 = true → noDi d = true
  | .none, _ => rfl
  | .bool _, _ => rfl
  | .int _, _ => rfl
  | .str _, _ => rfl
  | .list ds, h => by
    have h' : PyData.canLayAll0 ds = true := by simpa [PyData.canLay0] using h
    exact noDiL_lay ds h'
  | .tuple ds, h => by
    have h' : PyData.canLayAll0 ds = true := by simpa [PyData.canLay0] using h
    exact noDiL_lay ds h'
  | .dict _, h => by simp [PyData.canLay0] at h
theorem noDiL_lay : ∀ ds : List D, PyData.canLayAll0 ds = true → noDiL ds = true
  | [], _ => rfl
  | d :: ds, h => by
    have h' : d.canLay0 = true ∧ PyData.canLayAll0 ds = true := by simpa [PyData.canLayAll0] using h
    simp only [noDiL, noDi_lay d h'.1, noDiL_lay ds h'.2, Bool.and_self]
end
section
variable {K : PySem.W.Frag} {G H : Hp}
mutual
theorem Rp.dp (s : Sub G H) : ∀ (d : D) (v : V), noDi d = true → Rp K G d v → Dp K H v d
  | .none, _, _, h => by cases (show _ = _ from h); exact .non
  | .bool b, _, _, h => by cases (show _ = _ from h); exact .bl b
  | .int b, _, _, h => by cases (show _ = _ from h); exact .int b
  | .str b, _, _, h => by cases (show _ = _ from h); exact .str b
  | .list ds, _, n, ⟨a, xs, e, q, r⟩ => by
    subst e
    exact .lst (.inl (.inl (s.lst q))) (RpL.dp s ds xs n r)
  | .tuple ds, _, n, ⟨a, xs, e, q, r⟩ => by
    subst e
    exact .tup (.inl (.inl (s.tup q))) (RpL.dp s ds xs n r)
  | .dict _, _, n, _ => by cases n
theorem RpL.dp (s : Sub G H) : ∀ (ds : List D) (vs : List V), noDiL ds = true → RpL K G ds vs → DpAll K H vs ds
  | [], _, _, h => by cases (show _ = _ from h); exact .nil
  | d :: ds, _, n, ⟨v, r, e, h, t⟩ => by
    subst e
    have n' := Bool.and_eq_true_iff.mp (show (noDi d && noDiL ds) = true from n)
    exact .cons (Rp.dp s d v n'.1 h) (RpL.dp s ds r n'.2 t)
end
theorem Vw.dp {d : D} {v : V} (s : Sub G H) (n : noDi d = true) (h : Vw K G H d v) : Dp K H v d := by
  rcases h with h | ⟨p, rfl, _, o, ho, hd, _⟩
  · exact Rp.dp s d v n h
  · cases hd with
    | lst r => exact .lst (.inl (.inl ho)) (RpL.dp s _ _ n r)
    | tup r => exact .tup (.inl (.inl ho)) (RpL.dp s _ _ n r)
    | dK _ => cases n
    | dT _ => cases n
def okD (d : D) : Bool := SeqAt.shaped d
theorem okD.no {d : D} (h : okD d = true) : noDi d = true := noDi_lay d (SeqAt.canLay_of_shaped h)
def dEq (a b : D) : Option D := if okD a && okD b then some (.bool (PyData.eqv a b)) else none
def dNe (a b : D) : Option D := if okD a && okD b then some (.bool (!PyData.eqv a b)) else none
theorem p_eq : Prim2 K dEq (rEqD K) := fun G H x y d1 d2 d Q s v1 v2 e q => by
  unfold dEq at e
  split at e
  · rename_i h
    cases e
    rw [Bool.and_eq_true] at h
    exact ⟨d1, d2, v1.dp s (okD.no h.1), v2.dp s (okD.no h.2), h.1, h.2, q _ H (.inl ⟨rfl, rfl⟩)⟩
  · cases e
theorem p_ne : Prim2 K dNe (rNeD K) := fun G H x y d1 d2 d Q s v1 v2 e q => by
  unfold dNe at e
  split at e
  · rename_i h
    cases e
    rw [Bool.and_eq_true] at h
    exact ⟨d1, d2, v1.dp s (okD.no h.1), v2.dp s (okD.no h.2), h.1, h.2, q _ H (.inl ⟨rfl, rfl⟩)⟩
  · cases e
theorem Vw.lst' {ds : List D} {v : V} (s : Sub G H) (h : Vw K G H (.list ds) v) : ∃ a xs, v = .ref a ∧ H a = some (.lst xs) ∧ True ∧ RpL K G ds xs := by
  obtain ⟨a, xs, e, h, r⟩ := h.lst s
  exact ⟨a, xs, e, h, trivial, r⟩
def dLt : D → D → Option D
  | .int i, .int j => some (.bool (decide (i < j)))
  | _, _ => none
def dLe : D → D → Option D
  | .int i, .int j => some (.bool (decide (i ≤ j)))
  | _, _ => none
def dGt : D → D → Option D
  | .int i, .int j => some (.bool (decide (j < i)))
  | _, _ => none
/-- >= of ints, of tuples of ints -/
def dInts : List D → Option (List Int)
  | [] => some []
  | .int i :: r => (dInts r).map fun is => i :: is
  | _ :: _ => none
def geI : List Int → List Int → Bool
  | _, [] => true
  | [], _ :: _ => false
  | x :: xs, y :: ys => if x = y then geI xs ys else decide (y ≤ x)
def dGe : D → D → Option D
  | .int i, .int j => some (.bool (decide (j ≤ i)))
  | .tuple ds, .tuple es => (match dInts ds, dInts es with
    | some is, some js => some (.bool (geI is js))
    | _, _ => none)
  | _, _ => none
theorem dInts_map : ∀ {ds : List D} {is : List Int}, dInts ds = some is → ds = is.map PyData.int
  | [], _, h => by cases h; rfl
  | .int i :: r, _, h => by
    simp only [dInts] at h
    cases e : dInts r with
    | none => rw [e] at h; cases h
    | some is' =>
      rw [e] at h
      cases h
      rw [dInts_map e]; rfl
  | .none :: _, _, h => by cases h
  | .bool _ :: _, _, h => by cases h
  | .str _ :: _, _, h => by cases h
  | .list _ :: _, _, h => by cases h
  | .tuple _ :: _, _, h => by cases h
  | .dict _ :: _, _, h => by cases h
theorem dInts_of : ∀ is : List Int, dInts (is.map PyData.int) = some is
  | [] => rfl
  | i :: is => by
    show (dInts (is.map PyData.int)).map _ = _
    rw [dInts_of is]; rfl
theorem p_lt : Prim2 K dLt (rI0 fun i j => .bl (decide (i < j))) := fun G H x y d1 d2 d Q s v1 v2 e q => by
  cases d1 <;> cases d2 <;> simp only [dLt] at e <;> first | cases e | skip
  exact ⟨_, _, v1.int, v2.int, q _ H (.inl ⟨rfl, rfl⟩)⟩
theorem p_le : Prim2 K dLe (rI0 fun i j => .bl (decide (i ≤ j))) := fun G H x y d1 d2 d Q s v1 v2 e q => by
  cases d1 <;> cases d2 <;> simp only [dLe] at e <;> first | cases e | skip
  exact ⟨_, _, v1.int, v2.int, q _ H (.inl ⟨rfl, rfl⟩)⟩
theorem p_gt : Prim2 K dGt (rI0 fun i j => .bl (decide (j < i))) := fun G H x y d1 d2 d Q s v1 v2 e q => by
  cases d1 <;> cases d2 <;> simp only [dGt] at e <;> first | cases e | skip
  exact ⟨_, _, v1.int, v2.int, q _ H (.inl ⟨rfl, rfl⟩)⟩
def rGeT (K : PySem.W.Frag) : R2 := fun x y H Q => ∃ (a b : Addr) (ns ms : List Int), x = .ref a ∧ y = .ref b ∧ SqT K H a (ns.map V.int) ∧ SqT K H b (ms.map V.int) ∧
  Q (.bl (Ob.lexAt (fun j => decide (ns.getD j 0 = ms.getD j 0)) (fun j => decide (ms.getD j 0 ≤ ns.getD j 0)) (decide (ns.length ≥ ms.length)) 0 (min ns.length ms.length))) H
theorem op_geT {X : Cx} (hu : X.A.units < cLine) : OpR X (compareOp .GtE) (rGeT X.K) := by
  intro pins s σ H x y v u Q I rx ry h
  obtain ⟨a, b, ns, ms, rfl, rfl, ha, hb, q⟩ := h
  cases rx
  cases ry
  obtain ⟨itA, r1, p1, _⟩ := I.tuple ha
  obtain ⟨itB, r2, p2, _⟩ := I.tuple hb
  have i1 : IntsAre itA ns := Vals.ints r1
  have i2 : IntsAre itB ms := Vals.ints r2
  have e1 : itA.toArray.size = ns.length := by rw [List.size_toArray]; exact i1.length
  have e2 : itB.toArray.size = ms.length := by rw [List.size_toArray]; exact i2.length
  have at1 : ∀ j (h1 : j < itA.toArray.size), ∃ t, itA.toArray[j] = .int (ns.getD j 0) t := fun j h1 => IntsAre.int_at i1 _ _ (by simp at h1; simp [h1])
  have at2 : ∀ j (h1 : j < itB.toArray.size), ∃ t, itB.toArray[j] = .int (ms.getD j 0) t := fun j h1 => IntsAre.int_at i2 _ _ (by simp at h1; simp [h1])
  have R := Ob.RcOp.tuples_ge (A := X.A) (s := s) (e := fun j => decide (ns.getD j 0 = ms.getD j 0)) (r := fun j => decide (ms.getD j 0 ≤ ns.getD j 0)) p1 p2 hu (fun j h1 h2 => by
    obtain ⟨t, et⟩ := at1 j h1
    obtain ⟨t', et'⟩ := at2 j h2
    have z : decide (ns.getD j 0 = ms.getD j 0) = (ns.getD j 0 == ms.getD j 0) := by
      by_cases q : ns.getD j 0 = ms.getD j 0
      · rw [q]; simp
      · rw [decide_eq_false q, beq_eq_false_iff_ne.mpr q]
    rw [et, et', z]
    exact SeqAt.EqAt.int_int _ _ _ _) (fun j h1 h2 _ => by
    obtain ⟨t, et⟩ := at1 j h1
    obtain ⟨t', et'⟩ := at2 j h2
    rw [et, et']
    exact Ob.RcOp.ge_int _ _ _ _)
  rw [e1, e2] at R
  exact R X.prog X.w X.xe (EP X pins σ Q) ⟨.bl _, H, I, rfl, q⟩
theorem ge_lex : ∀ (ns ms : List Int) (k : Nat), k ≤ min ns.length ms.length → Ob.lexAt (fun j => decide (ns.getD j 0 = ms.getD j 0)) (fun j => decide (ms.getD j 0 ≤ ns.getD j 0)) (decide (ns.length ≥ ms.length)) k (min ns.length ms.length - k) = geI (ns.drop k) (ms.drop k) := by
  intro ns ms k hk
  generalize hm : min ns.length ms.length - k = m
  induction m generalizing k with
  | zero =>
    rw [Ob.lexAt_zero]
    by_cases h : ms.length ≤ k
    · rw [List.drop_eq_nil_of_le h]
      have z : ns.length ≥ ms.length ∨ ns.length < ms.length := by omega
      rcases z with z | z
      · rw [decide_eq_true z]
        cases ns.drop k <;> rfl
      · have h2 : ns.length ≤ k := by omega
        omega
    · have h2 : ns.length ≤ k := by omega
      rw [List.drop_eq_nil_of_le h2, decide_eq_false (by omega)]
      rw [List.drop_eq_getElem_cons (show k < ms.length by omega)]
      rfl
  | succ m ih =>
    have h1 : k < ns.length := by omega
    have h2 : k < ms.length := by omega
    rw [Ob.lexAt_succ, List.drop_eq_getElem_cons h1, List.drop_eq_getElem_cons h2, ih (k + 1) (by omega) (by omega)]
    have g1 : ns.getD k 0 = ns[k] := by simp [h1]
    have g2 : ms.getD k 0 = ms[k] := by simp [h2]
    simp only [geI, g1, g2, decide_eq_true_eq]
theorem p_ge : Prim2 K dGe (fun x y H Q => rI0 (fun i j => .bl (decide (j ≤ i))) x y H Q ∨ rGeT K x y H Q) := fun G H x y d1 d2 d Q s v1 v2 e q => by
  cases d1 <;> cases d2 <;> simp only [dGe] at e <;> first | cases e | skip
  · exact .inl ⟨_, _, v1.int, v2.int, q _ H (.inl ⟨rfl, rfl⟩)⟩
  · rename_i ds es
    split at e
    · rename_i is js e1 e2
      cases e
      obtain ⟨a, xs, rfl, ha, _, ra⟩ := v1.tup s
      obtain ⟨b, ys, rfl, hb, _, rb⟩ := v2.tup s
      rw [dInts_map e1] at ra
      rw [dInts_map e2] at rb
      rw [ra.ints] at ha
      rw [rb.ints] at hb
      refine .inr ⟨a, b, is, js, rfl, rfl, .inl (.inl ha), .inl (.inl hb), q _ H (.inl ⟨rfl, ?_⟩)⟩
      have z := ge_lex is js 0 (Nat.zero_le _)
      rw [Nat.sub_zero, List.drop_zero, List.drop_zero] at z
      rw [z]
      rfl
    · cases e
abbrev rIsNo : R2 := fun x y H Q => y = .non ∧ Q (.bl (decide (x = .non))) H
abbrev rNotNo : R2 := fun x y H Q => y = .non ∧ Q (.bl (!decide (x = .non))) H
def dIsN : D → D → Option D
  | d, .none => some (.bool (match d with | .none => true | _ => false))
  | _, _ => none
def dNotN : D → D → Option D
  | d, .none => some (.bool (match d with | .none => false | _ => true))
  | _, _ => none
theorem vw_non {d : D} {v : V} (h : Vw K G H d v) : decide (v = .non) = (match d with | .none => true | _ => false) := by
  rcases h with h | ⟨p, rfl, ow⟩
  · cases d with
    | none => cases (show _ = _ from h); rfl
    | bool b => cases (show _ = _ from h); rfl
    | int b => cases (show _ = _ from h); rfl
    | str b => cases (show _ = _ from h); rfl
    | list ds => obtain ⟨a, xs, rfl, _⟩ := h; rfl
    | tuple ds => obtain ⟨a, xs, rfl, _⟩ := h; rfl
    | dict kvs => obtain ⟨a, rfl, _⟩ := h; rfl
  · obtain ⟨_, o, _, hd, _⟩ := ow
    cases hd <;> rfl
theorem p_isN : Prim2 K dIsN rIsNo := fun G H x y d1 d2 d Q s v1 v2 e q => by
  cases d2 <;> simp only [dIsN] at e <;> first | cases e | skip
  refine ⟨v2.non, ?_⟩
  rw [vw_non v1]
  cases d1 <;> exact q _ H (.inl ⟨rfl, rfl⟩)
theorem p_notN : Prim2 K dNotN rNotNo := fun G H x y d1 d2 d Q s v1 v2 e q => by
  cases d2 <;> simp only [dNotN] at e <;> first | cases e | skip
  refine ⟨v2.non, ?_⟩
  rw [vw_non v1]
  cases d1 <;> exact q _ H (.inl ⟨rfl, rfl⟩)
def dAdd : D → D → Option D
  | .int i, .int j => some (.int (i + j))
  | .str a, .str b => if a.length + b.length ≤ sizeLine then some (.str (a ++ b)) else none
  | .tuple a, .tuple b => if a.length + b.length ≤ sizeLine then some (.tuple (a ++ b)) else none
  | .list a, .list b => if a.length + b.length ≤ sizeLine then some (.list (a ++ b)) else none
  | _, _ => none
def dCat : D → D → Option D
  | .list a, .list b => if a.length + b.length ≤ sizeLine then some (.list (a ++ b)) else none
  | _, _ => none
abbrev rAddA (K : PySem.W.Frag) : R2 := fun x y H Q => rI0 (fun i j => .int (i + j)) x y H Q ∨ (∃ i j, x = .str i ∧ y = .str j ∧ i.length + j.length ≤ sizeLine ∧ Q (.str (i ++ j)) H) ∨ rCatA K x y H Q ∨ rCat x y H Q
theorem op_addA {X : Cx} : OpR X (binaryOp .Add) (rAddA X.K) := op_add.or (op_add_str.or (op_catA.or op_cat))
theorem p_add : Prim2 K dAdd (rAddA K) := fun G H x y d1 d2 d Q s v1 v2 e q => by
  cases d1 <;> cases d2 <;> simp only [dAdd] at e <;> first | cases e | skip
  · exact .inl ⟨_, _, v1.int, v2.int, q _ H (.inl ⟨rfl, rfl⟩)⟩
  · split at e
    · rename_i h
      cases e
      exact .inr (.inl ⟨_, _, v1.str, v2.str, h, q _ H (.inl ⟨rfl, rfl⟩)⟩)
    · cases e
  · split at e
    · rename_i h
      cases e
      obtain ⟨a, xs, rfl, ha, _, ra⟩ := v1.lst' s
      obtain ⟨b, ys, rfl, hb, _, rb⟩ := v2.lst' s
      exact .inr (.inr (.inr ⟨a, b, xs, ys, rfl, rfl, ha, hb, by rw [ra.length, rb.length]; exact h, fun p hp => q _ _ (.inr ⟨p, _, rfl, hp, rfl, .lst (ra.append rb)⟩)⟩))
    · cases e
  · split at e
    · rename_i h
      cases e
      obtain ⟨a, xs, rfl, ha, ga, ra⟩ := v1.tup s
      obtain ⟨b, ys, rfl, hb, gb, rb⟩ := v2.tup s
      refine .inr (.inr (.inl ⟨a, b, xs, ys, rfl, rfl, .inl (.inl ha), .inl (.inl hb), by rw [ra.length, rb.length]; exact h, fun hx => ?_, fun hx hy => ?_, fun _ _ p hp => q _ _ (.inr ⟨p, _, rfl, hp, rfl, .tup (ra.append rb)⟩)⟩))
      · refine q _ H (.inl ⟨rfl, b, ys, rfl, gb, ?_⟩)
        have z := ra.append rb
        rw [hx] at z
        exact z
      · refine q _ H (.inl ⟨rfl, a, xs, rfl, ga, ?_⟩)
        have z := ra.append rb
        rw [hy, List.append_nil] at z
        exact z
    · cases e
theorem p_cat : PrimN2 K dCat rCat := fun G H x y d1 d2 d Q s v1 v2 e q => by
  cases d1 <;> cases d2 <;> simp only [dCat] at e <;> first | cases e | skip
  split at e
  · rename_i h
    cases e
    obtain ⟨a, xs, rfl, ha, _, ra⟩ := v1.lst' s
    obtain ⟨b, ys, rfl, hb, _, rb⟩ := v2.lst' s
    exact ⟨a, b, xs, ys, rfl, rfl, ha, hb, by rw [ra.length, rb.length]; exact h, fun p hp => q _ _ ⟨p, _, rfl, hp, rfl, .lst (ra.append rb), trivial⟩⟩
  · cases e
def dSub : D → D → Option D
  | .int i, .int j => some (.int (i - j))
  | _, _ => none
theorem p_sub : Prim2 K dSub (rI0 fun i j => .int (i - j)) := fun G H x y d1 d2 d Q s v1 v2 e q => by
  cases d1 <;> cases d2 <;> simp only [dSub] at e <;> first | cases e | skip
  exact ⟨_, _, v1.int, v2.int, q _ H (.inl ⟨rfl, rfl⟩)⟩
def dMod : D → D → Option D
  | .int i, .int j => if 0 < j then some (.int (i % j)) else none
  | _, _ => none
theorem p_mod : Prim2 K dMod (rI (fun _ j => 0 < j) fun i j => .int (i % j)) := fun G H x y d1 d2 d Q s v1 v2 e q => by
  cases d1 <;> cases d2 <;> simp only [dMod] at e <;> first | cases e | skip
  split at e
  · rename_i h
    cases e
    exact ⟨_, _, v1.int, v2.int, h, q _ H (.inl ⟨rfl, rfl⟩)⟩
  · cases e
def dFdiv : D → D → Option D
  | .int i, .int j => if 0 < j ∧ j.natAbs.log2 < 9000 then some (.int (i / j)) else none
  | _, _ => none
theorem p_fdiv : Prim2 K dFdiv (rI CDivW fun i j => .int (i / j)) := fun G H x y d1 d2 d Q s v1 v2 e q => by
  cases d1 <;> cases d2 <;> simp only [dFdiv] at e <;> first | cases e | skip
  split at e
  · rename_i h
    cases e
    exact ⟨_, _, v1.int, v2.int, h, q _ H (.inl ⟨rfl, rfl⟩)⟩
  · cases e
def dPow : D → D → Option D
  | .int i, .int j => if 0 ≤ j ∧ j ≤ 1000000 ∧ i.natAbs < 2 ^ 64 then some (.int (i ^ j.toNat)) else none
  | _, _ => none
theorem p_pow : Prim2 K dPow (rI CPow fun i j => .int (i ^ j.toNat)) := fun G H x y d1 d2 d Q s v1 v2 e q => by
  cases d1 <;> cases d2 <;> simp only [dPow] at e <;> first | cases e | skip
  split at e
  · rename_i h
    cases e
    exact ⟨_, _, v1.int, v2.int, h, q _ H (.inl ⟨rfl, rfl⟩)⟩
  · cases e
def reps (ds : List D) (k : Int) : List D := (List.replicate k.toNat ds).flatten
theorem RpL.reps {ds : List D} {vs : List V} (h : RpL K G ds vs) : ∀ n : Nat, RpL K G (List.replicate n ds).flatten (List.replicate n vs).flatten
  | 0 => rfl
  | n + 1 => by
    rw [List.replicate_succ, List.replicate_succ, List.flatten_cons, List.flatten_cons]
    exact h.append (RpL.reps h n)
def repFits (n : Nat) (k : Int) : Bool := decide (-(2 ^ 63) ≤ k) && decide (k < 2 ^ 63) && decide (n * k.toNat ≤ sizeLine)
def dRep : D → D → Option D
  | .list a, .int k => if repFits a.length k then some (.list (reps a k)) else none
  | _, _ => none
theorem p_repL : PrimN2 K dRep rRep := fun G H x y d1 d2 d Q s v1 v2 e q => by
  cases d1 <;> cases d2 <;> simp only [dRep] at e <;> first | cases e | skip
  split at e
  · rename_i h
    cases e
    unfold repFits at h
    rw [Bool.and_eq_true, Bool.and_eq_true, decide_eq_true_eq, decide_eq_true_eq, decide_eq_true_eq] at h
    obtain ⟨a, xs, rfl, ha, _, ra⟩ := v1.lst' s
    exact ⟨a, _, xs, rfl, v2.int, ha, h.1.1, h.1.2, by rw [ra.length]; exact h.2, fun p hp => q _ _ ⟨p, _, rfl, hp, rfl, .lst (ra.reps _), trivial⟩⟩
  · cases e
def mulFits (i j : Int) : Bool := (decide (-(2 ^ 64) < i) && decide (i < 2 ^ 64)) || (decide (-(2 ^ 64) < j) && decide (j < 2 ^ 64))
def dMul : D → D → Option D
  | .int i, .int j => if mulFits i j then some (.int (i * j)) else none
  | .list a, .int k => if repFits a.length k then some (.list (reps a k)) else none
  | _, _ => none
abbrev rMulA (K : PySem.W.Frag) : R2 := fun x y H Q => rI CMul (fun i j => .int (i * j)) x y H Q ∨ rRep x y H Q
theorem op_mulA {X : Cx} : OpR X (binaryOp .Mult) (rMulA X.K) := op_mul.or op_rep
theorem p_mul : Prim2 K dMul (rMulA K) := fun G H x y d1 d2 d Q s v1 v2 e q => by
  cases d1 <;> cases d2 <;> simp only [dMul] at e <;> first | cases e | skip
  · split at e
    · rename_i h
      cases e
      unfold mulFits at h
      rw [Bool.or_eq_true, Bool.and_eq_true, Bool.and_eq_true, decide_eq_true_eq, decide_eq_true_eq, decide_eq_true_eq, decide_eq_true_eq] at h
      exact .inl ⟨_, _, v1.int, v2.int, h, q _ H (.inl ⟨rfl, rfl⟩)⟩
    · cases e
  · exact .inr (p_repL G H x y _ _ d Q s v1 v2 e fun v H' po => q v H' po.out)
end

set_option autoImplicit false
section
variable {X : Cx} {K : PySem.W.Frag} {G H : Hp}
def inAny (ds : List D) (x : D) : Bool := ds.any fun z => PyData.eqv z x
def dHas : D → D → Option Bool
  | x, .list ds => if okD x && okD (.list ds) then some (inAny ds x) else none
  | x, .tuple ds => if okD x && okD (.tuple ds) then some (inAny ds x) else none
  | .str x, .str z => (match x.cps.toList with
    | [c] => some (decide (c ∈ z.cps.toList))
    | _ => none)
  | k, .dict kvs => if keyFits kvs k then some (dGetV kvs k).isSome else none
  | _, _ => none
def dIn (x y : D) : Option D := (dHas x y).map PyData.bool
def dNotIn (x y : D) : Option D := (dHas x y).map fun b => .bool (!b)
def rInT2 (K : PySem.W.Frag) (f : Bool → Bool) : R2 := fun x y H Q => ∃ d ds, Dp K H x d ∧ Dp K H y (.tuple ds) ∧ SeqAt.shaped d = true ∧ SeqAt.shaped (.tuple ds) = true ∧ Q (.bl (f (ds.any fun z => PyData.eqv z d))) H
theorem op_inT2 (hu : X.A.units + 65 < cLine) : OpR X (compareOp .In) (rInT2 X.K id) := by
  intro pins s σ H x y v u Q I rx ry h
  obtain ⟨d, ds, hd, he, sd, se, q⟩ := h
  obtain ⟨as, r1⟩ := Dp.reads I d x v hd rx
  obtain ⟨bs, r2⟩ := Dp.reads I (.tuple ds) y u he ry
  exact SeqAt.in_tuple_reads r2 r1 (SeqAt.canLay_of_shaped se) (SeqAt.canLay_of_shaped sd) (room_in_shaped sd hu) ⟨.bl _, H, I, rfl, q⟩
theorem op_notInT2 (hu : X.A.units + 65 < cLine) : OpR X (compareOp .NotIn) (rInT2 X.K not) := by
  intro pins s σ H x y v u Q I rx ry h
  obtain ⟨d, ds, hd, he, sd, se, q⟩ := h
  obtain ⟨as, r1⟩ := Dp.reads I d x v hd rx
  obtain ⟨bs, r2⟩ := Dp.reads I (.tuple ds) y u he ry
  exact SeqAt.notIn_tuple_reads r2 r1 (SeqAt.canLay_of_shaped se) (SeqAt.canLay_of_shaped sd) (room_in_shaped sd hu) ⟨.bl _, H, I, rfl, q⟩
def AskD (H : Hp) (a : Addr) (y : V) (o : Option V) : Prop := DGet H a y o ∨ (H a = some (.dK []) ∧ DGet (upd H a (.dT [])) a y o) ∨ (H a = some (.dT []) ∧ DGet (upd H a (.dK [])) a y o)
theorem upd_back {H : Hp} {a : Addr} {o o' : HO} (h : H a = some o) : upd (upd H a o') a o = H := by
  funext b
  by_cases z : b = a
  · subst z; rw [upd_same, h]
  · rw [upd_ne z, upd_ne z]
def rInK (f : Bool → Bool) : R2 := fun x y H Q => ∃ a o, y = .ref a ∧ AskD H a x o ∧ Q (.bl (f o.isSome)) H
theorem op_inK (hu : X.A.units + 1 < cLine) : OpR X (compareOp .In) (rInK id) := by
  intro pins s σ H x y v u Q I rx ry h
  obtain ⟨a, o, rfl, hd, q⟩ := h
  cases ry
  rcases hd with hd | ⟨e, hd⟩ | ⟨e, hd⟩
  · exact d_in hu I hd rx fun s3 I3 => ⟨.bl o.isSome, H, I3, rfl, q⟩
  · exact d_in hu (Inv.dKT I e) hd rx fun s3 I3 => ⟨.bl o.isSome, H, by have z := Inv.dTK I3 upd_same; rw [upd_back e] at z; exact z, rfl, q⟩
  · exact d_in hu (Inv.dTK I e) hd rx fun s3 I3 => ⟨.bl o.isSome, H, by have z := Inv.dKT I3 upd_same; rw [upd_back e] at z; exact z, rfl, q⟩
theorem op_notInK (hu : X.A.units + 1 < cLine) : OpR X (compareOp .NotIn) (rInK not) := by
  intro pins s σ H x y v u Q I rx ry h
  obtain ⟨a, o, rfl, hd, q⟩ := h
  cases ry
  rcases hd with hd | ⟨e, hd⟩ | ⟨e, hd⟩
  · exact d_notIn hu I hd rx fun s3 I3 => ⟨.bl (!o.isSome), H, I3, rfl, q⟩
  · exact d_notIn hu (Inv.dKT I e) hd rx fun s3 I3 => ⟨.bl (!o.isSome), H, by have z := Inv.dTK I3 upd_same; rw [upd_back e] at z; exact z, rfl, q⟩
  · exact d_notIn hu (Inv.dTK I e) hd rx fun s3 I3 => ⟨.bl (!o.isSome), H, by have z := Inv.dKT I3 upd_same; rw [upd_back e] at z; exact z, rfl, q⟩
/-- a dict's object, and what a key finds -/
theorem Vw.dict {kvs : List (D × D)} {v : V} (s : Sub G H) (h : Vw K G H (.dict kvs) v) : ∃ a, v = .ref a ∧ ((∃ es, Rd H a (.dK es) ∧ (es = [] → H a = some (.dK es)) ∧ RpK K G kvs es) ∨ (∃ es, Rd H a (.dT es) ∧ (es = [] → H a = some (.dT es)) ∧ RpT K G kvs es) ∨ ∃ ns : List Int, kvs = [(.none, .list (ns.map PyData.int))] ∧ SqL K H a (ns.map V.int)) := by
  rcases h with ⟨a, e, ⟨es, q, r⟩ | ⟨es, q, r⟩ | ⟨ns, q, r⟩⟩ | ⟨p, e, _, o, ho, hd, _⟩
  · exact ⟨a, e, .inl ⟨es, s.rd q, (fun z => by subst z; rcases s.1 a _ q with h | ⟨z, _⟩ <;> first | exact h | cases z), r⟩⟩
  · exact ⟨a, e, .inr (.inl ⟨es, s.rd q, (fun z => by subst z; rcases s.1 a _ q with h | ⟨z, _⟩ <;> first | exact h | cases z), r⟩)⟩
  · exact ⟨a, e, .inr (.inr ⟨ns, q, s.sqL r⟩)⟩
  · cases hd with
    | dK r => exact ⟨p, e, .inl ⟨_, .inl ho, fun _ => ho, r⟩⟩
    | dT r => exact ⟨p, e, .inr (.inl ⟨_, .inl ho, fun _ => ho, r⟩)⟩
/-- what the reading of a key gives -/
theorem ask_dict {kvs : List (D × D)} {k : D} {x y : V} (s : Sub G H) (hd : Vw K G H (.dict kvs) y) (hk : Vw K G H k x) (hf : keyFits kvs k = true) :
    ∃ a o, y = .ref a ∧ AskD H a x o ∧ o.isSome = (dGetV kvs k).isSome ∧ ∀ d, dGetV kvs k = some d → ∃ v, o = some v ∧ Rp K G d v := by
  obtain ⟨a, rfl, h⟩ := hd.dict s
  refine ⟨a, ?_⟩
  unfold keyFits at hf
  rcases h with ⟨es, hr, hl, r⟩ | ⟨es, hr, hl2, r⟩ | ⟨ns, e, _⟩
  · cases ek : toK1 k with
    | some z =>
      have ed := of_toK1 ek
      subst ed
      have ey := hk.key
      subst ey
      refine ⟨valV es z, rfl, .inl (.inl ⟨es, z, hr, rfl, rfl⟩), ?_, fun d hd => ?_⟩
      · have g := r.get (x := z)
        cases e : dGetV kvs (keyD z) with
        | none => rw [e] at g; rw [g]; rfl
        | some d => rw [e] at g; obtain ⟨v, g1, _⟩ := g; rw [g1]; rfl
      · have g := r.get (x := z)
        rw [hd] at g
        exact g
    | none =>
      simp only [ek, Bool.and_eq_true] at hf
      cases kvs with
      | cons p q =>
        exfalso
        obtain ⟨ak, ad⟩ := p
        obtain ⟨x0, u, r2, _, ek2, _, _⟩ := r
        subst ek2
        rw [List.all_cons, Bool.and_eq_true] at hf
        have z : (toKT (keyD x0)).isSome = true := hf.2.1
        cases x0 <;> cases z
      | nil =>
        have h' : es = [] := r
        subst h'
        cases et : toKT k with
        | none => rw [et] at hf; cases hf.1
        | some ks =>
          have ed := of_toKT et
          subst ed
          obtain ⟨b, eb, hb⟩ := hk.keyT s
          subst eb
          have ha := hl rfl
          have ne : b ≠ a := fun z => by rw [z, ha] at hb; cases hb
          exact ⟨none, rfl, .inr (.inl ⟨ha, .inr ⟨[], ks, b, .inl upd_same, rfl, by rw [upd_ne ne]; exact hb, rfl⟩⟩), rfl, fun d hd => by cases hd⟩
  · cases ek : toK1 k with
    | some z =>
      simp only [ek] at hf
      have ed := of_toK1 ek
      subst ed
      have ey := hk.key
      subst ey
      cases kvs with
      | cons p q =>
        exfalso
        obtain ⟨ak, ad⟩ := p
        obtain ⟨x2, u, r2, _, ek2, _, _⟩ := r
        subst ek2
        rw [List.all_cons, Bool.and_eq_true] at hf
        have z : (toK1 (.tuple (x2.map keyD))).isSome = true := hf.1
        cases z
      | nil =>
        have h' : es = [] := r
        subst h'
        have ha := hl2 rfl
        exact ⟨none, rfl, .inr (.inr ⟨ha, .inl ⟨[], z, .inl upd_same, rfl, rfl⟩⟩), rfl, fun d hd => by cases hd⟩
    | none =>
      simp only [ek, Bool.and_eq_true] at hf
      cases et : toKT k with
      | none => rw [et] at hf; cases hf.1
      | some ks =>
        have ed := of_toKT et
        subst ed
        obtain ⟨b, eb, hb⟩ := hk.keyT s
        subst eb
        refine ⟨valV es ks, rfl, .inl (.inr ⟨es, ks, b, hr, rfl, hb, rfl⟩), ?_, fun d hd => ?_⟩
        · have g := r.get (x := ks)
          cases e : dGetV kvs (.tuple (ks.map keyD)) with
          | none => rw [e] at g; rw [g]; rfl
          | some d => rw [e] at g; obtain ⟨v, g1, _⟩ := g; rw [g1]; rfl
        · have g := r.get (x := ks)
          rw [hd] at g
          exact g
  · exfalso
    subst e
    cases ek : toK1 k with
    | some z =>
      simp only [ek, List.all_cons, Bool.and_eq_true] at hf
      cases hf.1
    | none =>
      simp only [ek, List.all_cons, Bool.and_eq_true] at hf
      cases hf.2.1
theorem p_inAny {f : Bool → Bool} : Prim2 K (fun x y => (dHas x y).map fun b => .bool (f b)) (fun x y H Q =>
    (∃ d ds, Dp K H x d ∧ Dp K H y (.list ds) ∧ SeqAt.shaped d = true ∧ SeqAt.shaped (.list ds) = true ∧ Q (.bl (f (ds.any fun z => PyData.eqv z d))) H) ∨ rInT2 K f x y H Q ∨
    (∃ (c : Nat) (z : Str), x = .str ⟨#[c]⟩ ∧ y = .str z ∧ Q (.bl (f (decide (c ∈ z.cps.toList)))) H) ∨ rInK f x y H Q) := fun G H x y d1 d2 d Q s v1 v2 e q => by
  cases eh : dHas d1 d2 with
  | none => simp only [eh] at e; cases e
  | some b =>
    simp only [eh] at e
    cases e
    have q := q (.bl (f b)) H (.inl ⟨rfl, rfl⟩)
    unfold dHas at eh
    split at eh
    · split at eh
      · rename_i h
        cases eh
        rw [Bool.and_eq_true] at h
        exact .inl ⟨d1, _, v1.dp s (okD.no h.1), v2.dp s (okD.no h.2), h.1, h.2, q⟩
      · cases eh
    · split at eh
      · rename_i h
        cases eh
        rw [Bool.and_eq_true] at h
        exact .inr (.inl ⟨d1, _, v1.dp s (okD.no h.1), v2.dp s (okD.no h.2), h.1, h.2, q⟩)
      · cases eh
    · rename_i x' z
      split at eh
      · rename_i c hc
        cases eh
        have ex : x' = ⟨#[c]⟩ := by
          obtain ⟨a⟩ := x'
          have : a = #[c] := Array.ext' hc
          rw [this]
        subst ex
        exact .inr (.inr (.inl ⟨c, z, v1.str, v2.str, q⟩))
      · cases eh
    · split at eh
      · rename_i h
        cases eh
        obtain ⟨a, o, ea, hk, hs, _⟩ := ask_dict s v2 v1 h
        exact .inr (.inr (.inr ⟨a, o, ea, hk, by rw [hs]; exact q⟩))
      · cases eh
    · cases eh
theorem op_inAny (hu : X.A.units + 65 < cLine) : OpR X (compareOp .In) (fun x y H Q =>
    (∃ d ds, Dp X.K H x d ∧ Dp X.K H y (.list ds) ∧ SeqAt.shaped d = true ∧ SeqAt.shaped (.list ds) = true ∧ Q (.bl (id (ds.any fun z => PyData.eqv z d))) H) ∨ rInT2 X.K id x y H Q ∨
    (∃ (c : Nat) (z : Str), x = .str ⟨#[c]⟩ ∧ y = .str z ∧ Q (.bl (id (decide (c ∈ z.cps.toList)))) H) ∨ rInK id x y H Q) := (op_inD hu).or ((op_inT2 hu).or (op_in_sign.or (op_inK (by omega))))
theorem op_notInAny (hu : X.A.units + 65 < cLine) : OpR X (compareOp .NotIn) (fun x y H Q =>
    (∃ d ds, Dp X.K H x d ∧ Dp X.K H y (.list ds) ∧ SeqAt.shaped d = true ∧ SeqAt.shaped (.list ds) = true ∧ Q (.bl (not (ds.any fun z => PyData.eqv z d))) H) ∨ rInT2 X.K not x y H Q ∨
    (∃ (c : Nat) (z : Str), x = .str ⟨#[c]⟩ ∧ y = .str z ∧ Q (.bl (not (decide (c ∈ z.cps.toList)))) H) ∨ rInK not x y H Q) := (op_notInD hu).or ((op_notInT2 hu).or (op_notIn_sign.or (op_notInK (by omega))))
def dAt : D → D → Option D
  | .list ds, .int i => atI ds i
  | .tuple ds, .int i => atI ds i
  | .str z, .int i => if z.length ≤ sizeLine then (atI z.cps.toList i).map fun c => .str ⟨#[c]⟩ else none
  | .dict [(.none, .list ds)], .int i => atI ds i
  | .dict kvs, k => if keyFits kvs k then dGetV kvs k else none
  | _, _ => none
def rIxK : R2 := fun x y H Q => ∃ a v, x = .ref a ∧ DGet H a y (some v) ∧ Q v H
theorem ix_dict (hu : X.A.units + 1 < cLine) : IxR X rIxK := by
  intro value slice pins s σ H x y v u Q I rx ry h hs
  obtain ⟨a, z, rfl, g, q⟩ := h
  obtain rfl : v = Value.ref a := rx
  exact tail_any (dict_typeIs I g) slot_dict_getitem.lookup (d_getItem hu I g ry fun w' s3 I3 rw' => ⟨z, H, I3, rw', q⟩) hs
theorem ix_any (hu : X.A.units + 1 < cLine) : IxR X (fun x y H Q => rIx X.K x y H Q ∨ rIxK x y H Q) := ix_seq.or (ix_dict hu)
theorem RpL.atI {ds : List D} {vs : List V} {i : Int} {d : D} (h : RpL K G ds vs) (e : L2.atI ds i = some d) : ∃ v, L2.atI vs i = some v ∧ Rp K G d v := by
  unfold L2.atI at e ⊢
  rw [h.length]
  cases ej : ixN ds.length i with
  | none => rw [ej] at e; cases e
  | some j =>
    rw [ej] at e
    exact h.get e
theorem p_at : Prim2 K dAt (fun x y H Q => rIx K x y H Q ∨ rIxK x y H Q) := fun G H x y d1 d2 d Q s v1 v2 e q => by
  have dictCase : ∀ kvs, d1 = .dict kvs → keyFits kvs d2 = true → dGetV kvs d2 = some d → rIxK x y H Q := fun kvs e1 hf hg => by
    subst e1
    obtain ⟨a, o, ea, hk, hs, hv⟩ := ask_dict s v1 v2 hf
    obtain ⟨v, ev, rv⟩ := hv d hg
    subst ev
    rcases hk with hk | ⟨_, hk⟩ | ⟨_, hk⟩
    · exact ⟨a, v, ea, hk, q v H (.inl ⟨rfl, rv⟩)⟩
    · rcases hk with ⟨kvs2, k, e2, _, l⟩ | ⟨kvs2, k, b, e2, _, _, l⟩
      · rcases e2 with e2 | ⟨_, e2⟩ <;> (rw [upd_same] at e2; cases e2)
      · rcases e2 with e2 | ⟨_, e2⟩ <;> (rw [upd_same] at e2; cases e2 <;> cases l)
    · rcases hk with ⟨kvs2, k, e2, _, l⟩ | ⟨kvs2, k, b, e2, _, _, l⟩
      · rcases e2 with e2 | ⟨_, e2⟩ <;> (rw [upd_same] at e2; cases e2 <;> cases l)
      · rcases e2 with e2 | ⟨_, e2⟩ <;> (rw [upd_same] at e2; cases e2)
  unfold dAt at e
  split at e
  · rename_i ds i
    obtain ⟨a, xs, rfl, ha, ra⟩ := v1.lst s
    obtain ⟨v, ev, rv⟩ := ra.atI e
    exact .inl (.inl ⟨a, xs, i, v, rfl, v2.int, .inl (.inl ha), ev, q v H (.inl ⟨rfl, rv⟩)⟩)
  · rename_i ds i
    obtain ⟨a, xs, rfl, ha, _, ra⟩ := v1.tup s
    obtain ⟨v, ev, rv⟩ := ra.atI e
    exact .inl (.inr (.inl ⟨a, xs, i, v, rfl, v2.int, .inl (.inl ha), ev, q v H (.inl ⟨rfl, rv⟩)⟩))
  · rename_i z i
    split at e
    · rename_i hz
      cases ec : L2.atI z.cps.toList i with
      | none => rw [ec] at e; cases e
      | some c =>
        rw [ec] at e
        cases e
        exact .inl (.inr (.inr ⟨z, i, c, v1.str, v2.int, hz, ec, q _ H (.inl ⟨rfl, rfl⟩)⟩))
    · cases e
  · rename_i ds i
    obtain ⟨a, rfl, h⟩ := v1.dict s
    rcases h with ⟨es, hr, _, r⟩ | ⟨es, hr, _, r⟩ | ⟨ns, e1, h⟩
    · exfalso
      obtain ⟨x0, u, r2, _, ek2, _, _⟩ := r
      cases x0 <;> cases ek2
    · exfalso
      obtain ⟨x0, u, r2, _, ek2, _, _⟩ := r
      cases ek2
    · cases e1
      obtain ⟨v, ev, rv⟩ := (RpL.of_ints (K := K) (G := G) ns).atI e
      exact .inl (.inl ⟨a, _, i, v, rfl, v2.int, h, ev, q v H (.inl ⟨rfl, rv⟩)⟩)
  · rename_i kvs _
    split at e
    · rename_i hf
      exact .inr (dictCase kvs rfl hf e)
    · cases e
  · cases e
def dLen : List D → Option D
  | [.list ds] => some (.int ds.length)
  | [.tuple ds] => some (.int ds.length)
  | [.str z] => if z.length ≤ sizeLine then some (.int z.length) else none
  | [.dict [(.none, .list ds)]] => some (.int ds.length)
  | _ => none
abbrev rLenA (K : PySem.W.Frag) : List V → Hp → VK → Prop := fun xs H Q => (∃ p ys, xs = [.ref p] ∧ (SqL K H p ys ∨ SqT K H p ys) ∧ Q (.int ys.length) H) ∨ (∃ z, xs = [.str z] ∧ z.length ≤ sizeLine ∧ Q (.int z.length) H)
theorem call_lenA : CallR X (.builtin "len") (rLenA X.K) := call_len_seq.or call_len_str
theorem vwl1 {d : D} {xs : List V} (h : VwL K G H [d] xs) : ∃ v, xs = [v] ∧ Vw K G H d v := by
  match xs, h with
  | [v], ⟨h, _⟩ => exact ⟨v, rfl, h⟩
  | [], h => exact h.elim
  | _ :: _ :: _, ⟨_, h⟩ => exact h.elim
theorem p_len : PrimL K dLen (rLenA K) := fun G H xs ds d Q s vw e q => by
  unfold dLen at e
  split at e
  · cases e
    obtain ⟨v, rfl, v⟩ := vwl1 vw
    obtain ⟨a, xs, rfl, ha, ra⟩ := v.lst s
    exact .inl ⟨a, xs, rfl, .inl (.inl (.inl ha)), by rw [ra.length]; exact q _ H (.inl ⟨rfl, rfl⟩)⟩
  · cases e
    obtain ⟨v, rfl, v⟩ := vwl1 vw
    obtain ⟨a, xs, rfl, ha, _, ra⟩ := v.tup s
    exact .inl ⟨a, xs, rfl, .inr (.inl (.inl ha)), by rw [ra.length]; exact q _ H (.inl ⟨rfl, rfl⟩)⟩
  · split at e
    · rename_i hz
      cases e
      obtain ⟨v, rfl, v⟩ := vwl1 vw
      have ev := v.str
      subst ev
      exact .inr ⟨_, rfl, hz, q _ H (.inl ⟨rfl, rfl⟩)⟩
    · cases e
  · cases e
    obtain ⟨v, rfl, v⟩ := vwl1 vw
    obtain ⟨a, rfl, h⟩ := v.dict s
    rcases h with ⟨es, hr, _, r⟩ | ⟨es, hr, _, r⟩ | ⟨ns, e1, h⟩
    · exfalso
      obtain ⟨x0, u, r2, _, ek2, _, _⟩ := r
      cases x0 <;> cases ek2
    · exfalso
      obtain ⟨x0, u, r2, _, ek2, _, _⟩ := r
      cases ek2
    · cases e1
      refine .inl ⟨a, _, rfl, .inl h, ?_⟩
      have z := q (.int (ns.map PyData.int).length) H (.inl ⟨rfl, rfl⟩)
      rw [List.length_map] at z ⊢
      exact z
  · cases e
end

set_option autoImplicit false
section
variable {X : Cx} {c : Ct} {F : Fr} {ρ : Env} {σ : L2.St} {G H : Hp} {K : PySem.W.Frag} {e a b d : Expr} {pos p p2 : Pos}
def mNeg (m : ME) : ME := fun ρ => (m ρ).then fun d ρ' => match d with
  | .int i => .ok (.int (-i)) ρ'
  | _ => .stuck
theorem me_neg {m : ME} (h : PE X a (tE c m)) : PE X (.UnaryOp .USub a pos) (tE c (mNeg m)) := pe_conseq (pe_un un_neg h) fun σ H Q ⟨F, ρ, G, S, q⟩ =>
  ⟨F, ρ, G, S, (Ask.then q).imp (GLe.refl G) fun d ρ' k v H' G' S' gl r => by
    split at k
    · exact ⟨_, r, k _ H' G' S' gl rfl⟩
    · exact k.elim⟩
def mChain (g g' : D → D → Option D) (o1 o2 o3 : Opd) : ME := fun ρ => (o1.ev ρ).then fun x1 ρ1 => (o2.ev ρ1).then fun x2 ρ2 =>
  match o1.fin x1 ρ2, o2.fin x2 ρ2 with
  | some d1, some d2 => (match g d1 d2 with
    | some (.bool true) => (o3.ev ρ2).then fun x3 ρ3 => (match o2.fin x2 ρ3, o3.fin x3 ρ3 with
      | some d2', some d3 => (match g' d2' d3 with
        | some d => .ok d ρ3
        | none => .stuck)
      | _, _ => .stuck)
    | some (.bool false) => .ok (.bool false) ρ2
    | _ => .stuck)
  | _, _ => .stuck
theorem tChain_e {o1 o2 o3 : Opd} {g g' : D → D → Option D} {r r' : R2} (hp : Prim2 c.K g r) (hp' : Prim2 c.K g' r') {Q : VK} (h : tE c (mChain g g' o1 o2 o3) σ H Q) : tChain r r' (tO c o1) (tO c o2) (tO c o3) σ H Q := by
  obtain ⟨F, ρ, G, S, a⟩ := h
  refine tO_ev S ((Ask.then a).imp (GLe.refl G) fun x1 ρ1 a1 v H1 G1 S1 g1 p1 => ?_)
  refine tO_ev S1 ((Ask.then a1).imp g1 fun x2 ρ2 a2 u H2 G2 S2 g2 p2 => ?_)
  cases e1 : o1.fin x1 ρ2 with
  | none => rw [e1] at a2; exact a2.elim
  | some d1 =>
    rw [e1] at a2
    cases e2 : o2.fin x2 ρ2 with
    | none => rw [e2] at a2; exact a2.elim
    | some d2 =>
      rw [e2] at a2
      simp only at a2
      have v1 := (p1.mono g2).vw S2 e1
      have v2 := p2.vw S2 e2
      split at a2
      · rename_i eg
        refine hp G2 H2 v u d1 d2 _ _ S2.sub v1 v2 eg fun z H3 po => ?_
        obtain ⟨G3, S3, g3, r3⟩ := po.state S2
        have ez : z = .bl true := r3
        subst ez
        refine ⟨true, rfl, ?_⟩
        rw [if_pos rfl]
        refine tO_ev S3 ((Ask.then a2).imp ((g1.trans g2).trans g3) fun x3 ρ3 a3 w H4 G4 S4 g4 p4 => ?_)
        cases e4 : o2.fin x2 ρ3 with
        | none => rw [e4] at a3; exact a3.elim
        | some d2' =>
          rw [e4] at a3
          cases e5 : o3.fin x3 ρ3 with
          | none => rw [e5] at a3; exact a3.elim
          | some d3 =>
            rw [e5] at a3
            cases e6 : g' d2' d3 with
            | none => simp only [e6] at a3; exact a3.elim
            | some d =>
              simp only [e6] at a3
              refine hp' G4 H4 u w d2' d3 d Q S4.sub (((p2.mono g3).mono g4).vw S4 e4) (p4.vw S4 e5) e6 fun v' H' po' => ?_
              obtain ⟨G', S', gl', r⟩ := po'.state S4
              exact a3 v' H' G' S' ((((g1.trans g2).trans g3).trans g4).trans gl') r
      · rename_i eg
        refine hp G2 H2 v u d1 d2 _ _ S2.sub v1 v2 eg fun z H3 po => ?_
        obtain ⟨G3, S3, g3, r3⟩ := po.state S2
        have ez : z = .bl false := r3
        subst ez
        refine ⟨false, rfl, ?_⟩
        rw [if_neg Bool.false_ne_true]
        exact a2 _ H3 G3 S3 ((g1.trans g2).trans g3) rfl
      · exact a2.elim
theorem me_chain {op op' : CmpOp} {o1 o2 o3 : Opd} {g g' : D → D → Option D} {r r' : R2} (ho : OpR X (compareOp op) r) (ho' : OpR X (compareOp op') r') (hp : Prim2 c.K g r) (hp' : Prim2 c.K g' r') (ha : PE X a (tO c o1)) (hb : PE X b (tO c o2)) (hd : PE X d (tO c o3))
    (hm : lastMarks [op, op'] [b, d] = false := by with_unfolding_all rfl) : PE X (.Compare a [op, op'] [b, d] pos) (tE c (mChain g g' o1 o2 o3)) :=
  pe_conseq (pe_chain ho ho' ha hb hd hm) fun _ _ _ h => tChain_e hp hp' h
theorem me_at {o1 o2 : Opd} (hu : X.A.units + 1 < cLine) (hK : X.K = c.K) (ha : PE X a (tO c o1)) (hb : PE X b (tO c o2)) (hs : PlainIx b := by intro _ _; rfl) : PE X (.Subscript a b pos) (tE c (mOp2 dAt o1 o2)) :=
  pe_conseq (pe_ix (ix_any hu) ha hb hs) fun _ _ _ h => by rw [hK]; exact tOp_e p_at h
def oI : Option ME → Env → Rs (Option Int)
  | none, ρ => .ok none ρ
  | some m, ρ => (m ρ).then fun d ρ' => match d with
    | .int i => .ok (some i) ρ'
    | _ => .stuck
def tOI (c : Ct) : Option ME → TO
  | none => tNoPart
  | some m => tPart (tE c m)
theorem tOI_ev {m : Option ME} {R : Option Int → Hp → Prop} (S : State c F ρ σ G H) (a : Ask c F σ G (fun x ρ' => ∀ H' G', State c F ρ' σ G' H' → GLe G G' → R x H') (oI m ρ)) : tOI c m σ H R := by
  cases m with
  | none => exact a H G S (GLe.refl G)
  | some m =>
    refine ⟨F, ρ, G, S, (Ask.then a).imp (GLe.refl G) fun d ρ' k v H' G' S' gl r => ?_⟩
    split at k
    · exact ⟨_, r, k H' G' S' gl⟩
    · exact k.elim
def dCut (d : D) (lo hi : Option Int) : Option D := match d with
  | .list ds => some (.list (cutV' ds lo hi))
  | .tuple ds => some (.tuple (cutV' ds lo hi))
  | .str z => if z.length ≤ sizeLine then some (.str (cutS z lo hi)) else none
  | _ => none
where cutV' (ds : List D) (lo hi : Option Int) : List D := (ds.drop (HT.sIx ds.length 0 lo)).take (HT.sIx ds.length ds.length hi - HT.sIx ds.length 0 lo)
def mCut (o : Opd) (lo hi : Option ME) : ME := fun ρ => (o.ev ρ).then fun x ρ1 => (oI lo ρ1).then fun l ρ2 => (oI hi ρ2).then fun h ρ3 => match (o.fin x ρ3).bind fun d => dCut d l h with
  | some d => .ok d ρ3
  | none => .stuck
abbrev rSlAll (K : PySem.W.Frag) : V → Option Int → Option Int → Hp → VK → Prop := fun x lo hi H Q => rSlL K x lo hi H Q ∨ rSlA K x lo hi H Q ∨ rSlS x lo hi H Q
theorem sl_all : L2.SlR X (rSlAll X.K) := SlR.or sl_list (SlR.or sl_tupA sl_str)
theorem RpL.cut {ds : List D} {vs : List V} (h : RpL K G ds vs) (lo hi : Option Int) : RpL K G (dCut.cutV' ds lo hi) (cutV vs lo hi) := by
  unfold dCut.cutV' cutV
  rw [h.length]
  exact (h.drop _).take _
theorem p_cut {x : V} {d d' : D} {lo hi : Option Int} {Q : VK} (s : Sub G H) (v : Vw K G H d x) (e : dCut d lo hi = some d') (q : ∀ v H', POut K G H d' v H' → Q v H') : rSlAll K x lo hi H Q := by
  cases d <;> simp only [dCut] at e <;> first | cases e | skip
  · split at e
    · rename_i z hz
      cases e
      exact .inr (.inr ⟨_, v.str, hz, q _ H (.inl ⟨rfl, rfl⟩)⟩)
    · cases e
  · obtain ⟨a, xs, rfl, ha, ra⟩ := v.lst s
    exact .inl ⟨a, xs, rfl, .inl (.inl ha), fun p hp => q _ _ (.inr ⟨p, _, rfl, hp, rfl, .lst (ra.cut lo hi)⟩)⟩
  · obtain ⟨a, xs, rfl, ha, ga, ra⟩ := v.tup s
    refine .inr (.inl ⟨a, xs, rfl, .inl (.inl ha), fun hw => ?_, fun hw p hp => q _ _ (.inr ⟨p, _, rfl, hp, rfl, .tup (ra.cut lo hi)⟩)⟩)
    refine q _ H (.inl ⟨rfl, a, xs, rfl, ga, ?_⟩)
    have z := ra.cut lo hi
    unfold cutV at z
    rw [hw.1, hw.2] at z
    simpa using z
theorem me_cut {o : Opd} {lo hi : Option Expr} {ml mh : Option ME} (hK : X.K = c.K) (he : PE X e (tO c o)) (hl : PO X lo (tOI c ml)) (hh : PO X hi (tOI c mh)) : PE X (.Subscript e (.Slice lo hi none p2) pos) (tE c (mCut o ml mh)) :=
  pe_conseq (pe_slice sl_all he hl hh) fun σ H Q ⟨F, ρ, G, S, a⟩ => by
    rw [hK]
    refine tO_ev S ((Ask.then a).imp (GLe.refl G) fun x ρ1 a1 v H1 G1 S1 g1 p1 => ?_)
    refine tOI_ev S1 ((Ask.then a1).imp g1 fun l ρ2 a2 H2 G2 S2 g2 => ?_)
    refine tOI_ev S2 ((Ask.then a2).imp (g1.trans g2) fun h ρ3 a3 H3 G3 S3 g3 => ?_)
    cases ef : o.fin x ρ3 with
    | none => rw [ef] at a3; exact a3.elim
    | some d =>
      rw [ef] at a3
      cases ec : dCut d l h with
      | none => simp only [Option.bind_some, ec] at a3; exact a3.elim
      | some d' =>
        simp only [Option.bind_some, ec] at a3
        refine p_cut S3.sub (((p1.mono g2).mono g3).vw S3 ef) ec fun v' H' po => ?_
        obtain ⟨G', S', gl', r⟩ := po.state S3
        exact a3 v' H' G' S' (((g1.trans g2).trans g3).trans gl') r
theorem po_no : PO X none (tOI c none) := po_none
theorem po_at {m : ME} (h : PE X e (tE c m)) : PO X (some e) (tOI c (some m)) := po_some h
end

set_option autoImplicit false
section
variable {X : Cx} {c : Ct} {F : Fr} {ρ : Env} {σ : L2.St} {G H : Hp} {K : PySem.W.Frag} {e a b d : Expr} {es : List Expr} {pos p p2 : Pos}
theorem vwl2 {d e : D} {xs : List V} (h : VwL K G H [d, e] xs) : ∃ v u, xs = [v, u] ∧ Vw K G H d v ∧ Vw K G H e u := by
  match xs, h with
  | [v, u], ⟨h, h2, _⟩ => exact ⟨v, u, rfl, h, h2⟩
  | [], h => exact h.elim
  | [_], ⟨_, h⟩ => exact h.elim
  | _ :: _ :: _ :: _, ⟨_, _, h⟩ => exact h.elim
theorem me_fnB {x : Str} {id : String} {os : List Opd} {g : List D → Option D} {r : List V → Hp → VK → Prop} (hc : CallR X (.builtin id) r) (hp : PrimL c.K g r) (hg : Gl X x) (hm : X.mg x = none) (hv : bootBuiltins x = some (.builtin id)) (ha : PA X (e :: es) (tOs c os)) (hn : x ≠ "__name__" := by decide) (hdb : (x == ("__debug__" : Str)) = false := by decide)
    (he : starEach (e :: es) X.env = (false, eval e X.env) :: starEach es X.env := by rfl) (hpl : (backTo pos (starEach es X.env)).any (·.1) = false := by rfl) : PE X (.Call (.Name x p) (e :: es) [] pos) (tE c (mFn g os)) :=
  pe_conseq (pe_callB hc hg hm hv ha hn hdb he hpl) fun _ _ _ h => tCB_e hp h
theorem fe_fnB {x : Str} {id : String} {os : List Opd} {g : List D → Option D} {r : List V → Hp → VK → Prop} (hc : CallR X (.builtin id) r) (hp : PrimNL c.K g r) (hg : Gl X x) (hm : X.mg x = none) (hv : bootBuiltins x = some (.builtin id)) (ha : PA X (e :: es) (tOs c os)) (hn : x ≠ "__name__" := by decide) (hdb : (x == ("__debug__" : Str)) = false := by decide)
    (he : starEach (e :: es) X.env = (false, eval e X.env) :: starEach es X.env := by rfl) (hpl : (backTo pos (starEach es X.env)).any (·.1) = false := by rfl) : PE X (.Call (.Name x p) (e :: es) [] pos) (tF c (mFn g os)) :=
  pe_conseq (pe_callB hc hg hm hv ha hn hdb he hpl) fun _ _ _ h => tCB_f hp h
theorem me_fnT {x : Str} {T : String} {os : List Opd} {g : List D → Option D} {r : List V → Hp → VK → Prop} (hc : CallR X (.type T) r) (hp : PrimL c.K g r) (hg : Gl X x) (hm : X.mg x = none) (hv : bootBuiltins x = some (.type T)) (ha : PA X (e :: es) (tOs c os)) (hn : x ≠ "__name__" := by decide) (hdb : (x == ("__debug__" : Str)) = false := by decide)
    (he : starEach (e :: es) X.env = (false, eval e X.env) :: starEach es X.env := by rfl) (hpl : (backTo pos (starEach es X.env)).any (·.1) = false := by rfl) : PE X (.Call (.Name x p) (e :: es) [] pos) (tE c (mFn g os)) :=
  pe_conseq (pe_callTy hc hg hm hv ha hn hdb he hpl) fun _ _ _ h => tCB_e hp h
def TG (G H : Hp) : Prop := ∀ (q : Addr) (ks : List Key), H q = some (.tup (ks.map kV)) → G q = some (.tup (ks.map kV))
def dList : List D → Option D
  | [.list ds] => some (.list ds)
  | [.tuple ds] => some (.list ds)
  | _ => none
/-- list(d) of an owned or frozen dict -/
def mKeys (o : Opd) : ME := fun ρ => (o.ev ρ).then fun x ρ' => match o.fin x ρ' with
  | some (.dict kvs) => if (kvs.all fun p => (toK1 p.1).isSome) || (kvs.all fun p => (toKT p.1).isSome) then .ok (.list (kvs.map (·.1))) ρ' else .stuck
  | _ => .stuck
theorem RpK.keys : ∀ {kvs : List (D × D)} {es : List (Key × V)}, RpK K G kvs es → RpL K G (kvs.map (·.1)) (es.map fun kv => kV kv.1)
  | [], _, h => by cases (show _ = _ from h); rfl
  | (k, d) :: r, _, ⟨x, v, r', e, ek, h, t⟩ => by
    subst e ek
    exact ⟨kV x, _, rfl, by cases x <;> rfl, RpK.keys t⟩
theorem RpL.of_keys : ∀ ks : List Key, RpL K G (ks.map keyD) (ks.map kV)
  | [] => rfl
  | k :: ks => ⟨kV k, _, rfl, by cases k <;> rfl, RpL.of_keys ks⟩
theorem RpT.keys (hg : TG G H) : ∀ {kvs : List (D × D)} {es : List (List Key × V)} {bs : List Addr}, RpT K G kvs es → IsKeys H es bs → RpL K G (kvs.map (·.1)) (bs.map V.ref)
  | [], _, bs, h, q => by
    cases (show _ = _ from h)
    cases q
    rfl
  | (k, d) :: r, _, bs, ⟨x, v, r', e, ek, h, t⟩, q => by
    subst e ek
    cases q with
    | cons q1 q2 => exact ⟨V.ref _, _, rfl, ⟨_, _, rfl, hg _ _ q1, .of_keys x⟩, RpT.keys hg t q2⟩
theorem call_listK (hc : X.calm = true) : CallR X (.type "list") (fun xs H Q => ∃ p kvs, xs = [.ref p] ∧ Rd H p (.dK kvs) ∧ ∀ q, H q = none → Q (.ref q) (upd H q (.lst (kvs.map fun kv => kV kv.1)))) := by
  intro pins s σ H xs us Q I r ⟨p, kvs, e0, hrd, q⟩
  subst e0
  obtain ⟨u, eu, rx⟩ := vals1 r
  subst eu
  obtain rfl : u = Value.ref p := rx
  obtain ⟨z0, lo0, vs0, rk0, hd0⟩ := (show ObjOk X.prog X.w H s.heap p (.dK kvs) from hrd.ok I.hok)
  obtain ⟨ep0, at0⟩ := hd0.dictAt
  have len0 : kvs.length = vs0.length := Paired.length rk0
  refine PySem.W.kdl_call (PySem.W.kdl_dict (knd := mixKind X.prog X.w) (kvs := vs0) (ep := ep0) lo0) (I.ok.hd hc) at0 (len0 ▸ z0) fun h2 tk2 acc2 c2 keep2 S2 got2 => ?_
  have vals2 : Vals (kvs.map fun kv => kV kv.1) acc2.toList := by
    have sz2 : acc2.toList.length = acc2.size := by simp
    refine vals_of_at (by rw [List.length_map, sz2, got2.1, len0]) fun j x w h1 h2 => ?_
    obtain ⟨k, y, ky, hi⟩ := got2.2 j w (by rw [← Array.getElem?_toList]; exact h2)
    have e1 : (kvs.map (·.1))[j]? = some k := by
      rw [KV.keys rk0, List.getElem?_map, ky]; rfl
    have e2 : (kvs.map fun kv => kV kv.1) = (kvs.map (·.1)).map kV := by rw [List.map_map]; rfl
    rw [e2, List.getElem?_map, e1] at h1
    cases h1
    exact keyIs_rel hi
  exact ⟨.ref s.heap.objs.size, _, I.laid keep2 (Nat.le_refl _) (show ObjOk X.prog X.w _ _ _ (.lst (kvs.map fun kv => kV kv.1)) from ⟨by rw [List.length_map]; exact z0, acc2.toList, c2, vals2, by rw [Array.toArray_toList]; exact S2⟩), rfl, q _ (I.hok.fresh (Nat.le_refl _))⟩
abbrev rKeysA : List V → Hp → VK → Prop := fun xs H Q => (∃ p kvs, xs = [.ref p] ∧ Rd H p (.dK kvs) ∧ ∀ q, H q = none → Q (.ref q) (upd H q (.lst (kvs.map fun kv => kV kv.1)))) ∨
  (∃ d kvs, xs = [V.ref d] ∧ Rd H d (.dT kvs) ∧ ∀ p bs, H p = none → IsKeys H kvs bs → Q (.ref p) (upd H p (.lst (bs.map V.ref))))
theorem tKeys {o : Opd} {Q : VK} (hK : X.K = c.K) (h : tF c (mKeys o) σ H Q) : tCB rKeysA (tOs c [o]) σ H Q := by
  obtain ⟨F, ρ, G, S, a⟩ := h
  refine tO_ev S ((Ask.then a).imp (GLe.refl G) fun x ρ1 a1 v H1 G1 S1 g1 p1 => ?_)
  split at a1
  · rename_i kvs ef
    split at a1
    · rename_i hk
      obtain ⟨a, ev, h⟩ := (p1.vw S1 ef).dict S1.sub
      subst ev
      rcases h with ⟨es, hr, _, r⟩ | ⟨es, hr, _, r⟩ | ⟨ns, e1, h⟩
      · refine .inl ⟨a, es, rfl, hr, fun q hq => ?_⟩
        exact a1 q _ G1 (S1.alloc hq trivial) g1 (NewAt.of S1 hq (.lst r.keys) trivial)
      · refine .inr ⟨a, es, rfl, hr, fun q bs hq hb => ?_⟩
        exact a1 q _ G1 (S1.alloc hq trivial) g1 (NewAt.of S1 hq (.lst (r.keys S1.tupG hb)) trivial)
      · exfalso
        subst e1
        cases hk
    · exact a1.elim
  · exact a1.elim
theorem fe_keys {o : Opd} (hK : X.K = c.K) (hc : X.calm = true) (hg : Gl X "list") (hm : X.mg "list" = none) (ha : PA X [e] (tOs c [o]))
    (he : starEach [e] X.env = (false, eval e X.env) :: starEach [] X.env := by rfl) : PE X (.Call (.Name "list" p) [e] [] pos) (tF c (mKeys o)) :=
  pe_conseq (pe_callTy ((call_listK hc).or (call_list_dT hc)) hg hm boot_list ha (he := he)) fun _ _ _ h => tKeys hK h
def dTuple : List D → Option D
  | [.list ds] => some (.tuple ds)
  | [.tuple ds] => some (.tuple ds)
  | _ => none
abbrev rTupleA (K : PySem.W.Frag) : List V → Hp → VK → Prop := fun xs H Q => ∃ p ys, xs = [.ref p] ∧ ((SqL K H p ys ∧ ∀ l, H l = none → Q (.ref l) (upd H l (.tup ys))) ∨ (SqT K H p ys ∧ Q (.ref p) H))
theorem p_tuple : PrimL K dTuple (rTupleA K) := fun G H xs ds d Q s vw e q => by
  unfold dTuple at e
  split at e
  · cases e
    obtain ⟨v, rfl, v⟩ := vwl1 vw
    obtain ⟨a, xs, rfl, ha, ra⟩ := v.lst s
    exact ⟨a, xs, rfl, .inl ⟨.inl (.inl ha), fun l hl => q _ _ (.inr ⟨l, _, rfl, hl, rfl, .tup ra⟩)⟩⟩
  · cases e
    obtain ⟨v, rfl, v⟩ := vwl1 vw
    obtain ⟨a, xs, rfl, ha, ga, ra⟩ := v.tup s
    exact ⟨a, xs, rfl, .inr ⟨.inl (.inl ha), q _ H (.inl ⟨rfl, a, xs, rfl, ga, ra⟩)⟩⟩
  · cases e
def dInt : List D → Option D
  | [.int i] => some (.int i)
  | [.bool b] => some (.int (if b then 1 else 0))
  | _ => none
theorem p_int : PrimL K dInt (fun xs H Q => (∃ i, xs = [.int i] ∧ Q (.int i) H) ∨ ∃ k, xs = [.bl k] ∧ Q (.int (if k then 1 else 0)) H) := fun G H xs ds d Q s vw e q => by
  unfold dInt at e
  split at e
  · cases e
    obtain ⟨v, rfl, v⟩ := vwl1 vw
    exact .inl ⟨_, by rw [v.int], q _ H (.inl ⟨rfl, rfl⟩)⟩
  · cases e
    obtain ⟨v, rfl, v⟩ := vwl1 vw
    exact .inr ⟨_, by rw [v.bl], q _ H (.inl ⟨rfl, rfl⟩)⟩
  · cases e
def dAbs : List D → Option D
  | [.int i] => some (.int (if i < 0 then -i else i))
  | _ => none
def dMin2 : List D → Option D
  | [.int i, .int j] => some (.int (if j < i then j else i))
  | _ => none
def dMax2 : List D → Option D
  | [.int i, .int j] => some (.int (if j > i then j else i))
  | _ => none
theorem p_min2 : PrimL K dMin2 (fun xs H Q => ∃ i j, xs = [.int i, .int j] ∧ Q (.int (if j < i then j else i)) H) := fun G H xs ds d Q s vw e q => by
  unfold dMin2 at e
  split at e
  · cases e
    obtain ⟨v, u, rfl, v, u⟩ := vwl2 vw
    exact ⟨_, _, by rw [v.int, u.int], q _ H (.inl ⟨rfl, rfl⟩)⟩
  · cases e
theorem p_max2 : PrimL K dMax2 (fun xs H Q => ∃ i j, xs = [.int i, .int j] ∧ Q (.int (if j > i then j else i)) H) := fun G H xs ds d Q s vw e q => by
  unfold dMax2 at e
  split at e
  · cases e
    obtain ⟨v, u, rfl, v, u⟩ := vwl2 vw
    exact ⟨_, _, by rw [v.int, u.int], q _ H (.inl ⟨rfl, rfl⟩)⟩
  · cases e
def maxI : List Int → Option Int
  | [] => none
  | i :: r => some (r.foldl max i)
theorem foldl_max_of : ∀ (r : List Int) (i m : Int), m ∈ i :: r → (∀ y ∈ i :: r, y ≤ m) → r.foldl max i = m
  | [], i, m, h, _ => (List.mem_singleton.mp h).symm
  | j :: r, i, m, h, hm => by
    refine foldl_max_of r (max i j) m ?_ fun y hy => ?_
    · have h1 := hm i List.mem_cons_self
      have h2 := hm j (List.mem_cons_of_mem _ List.mem_cons_self)
      rcases List.mem_cons.mp h with e | h
      · rw [e] at h2 ⊢
        rw [show max i j = i by omega]; exact List.mem_cons_self
      · rcases List.mem_cons.mp h with e | h
        · rw [e] at h1 ⊢
          rw [show max i j = j by omega]; exact List.mem_cons_self
        · exact List.mem_cons_of_mem _ h
    · rcases List.mem_cons.mp hy with e | hy
      · have h1 := hm i List.mem_cons_self
        have h2 := hm j (List.mem_cons_of_mem _ List.mem_cons_self)
        omega
      · exact hm y (List.mem_cons_of_mem _ (List.mem_cons_of_mem _ hy))
def dFold (f : List Int → Option Int) : List D → Option D
  | [.list ds] => ((dInts ds).bind f).map PyData.int
  | _ => none
theorem fold_ints {f : List Int → Option Int} {ds : List D} {d : D} {xs : List V} (e : dFold f ds = some d) (s : Sub G H) (vw : VwL K G H ds xs) : ∃ (a : Addr) (ns : List Int) (i : Int), xs = [.ref a] ∧ SqL K H a (ns.map V.int) ∧ f ns = some i ∧ d = .int i := by
  unfold dFold at e
  split at e
  · rename_i ds
    obtain ⟨v, rfl, v⟩ := vwl1 vw
    obtain ⟨a, xs, rfl, ha, ra⟩ := v.lst s
    cases ei : dInts ds with
    | none => rw [ei] at e; cases e
    | some ns =>
      rw [ei] at e
      rw [dInts_map ei] at ra
      rw [ra.ints] at ha
      cases ef : f ns with
      | none => simp only [Option.bind_some, ef] at e; cases e
      | some i =>
        simp only [Option.bind_some, ef] at e
        cases e
        exact ⟨a, ns, i, rfl, .inl (.inl ha), ef, rfl⟩
  · cases e
theorem p_max : PrimL K (dFold maxI) (rMax K) := fun G H xs ds d Q s vw e q => by
  obtain ⟨a, ns, i, ex, ha, ef, ed⟩ := fold_ints e s vw
  subst ed
  cases ns with
  | nil => cases ef
  | cons n r =>
    refine ⟨a, n :: r, ex, ha, Nat.succ_pos _, fun m hm hy => ?_⟩
    rw [← foldl_max_of r n m hm hy]
    cases ef
    exact q _ H (.inl ⟨rfl, rfl⟩)
theorem p_sum : PrimL K (dFold fun ns => some ns.sum) (rSum K) := fun G H xs ds d Q s vw e q => by
  obtain ⟨a, ns, i, ex, ha, ef, ed⟩ := fold_ints e s vw
  subst ed
  cases ef
  exact ⟨a, ns, ex, ha, q _ H (.inl ⟨rfl, rfl⟩)⟩
def dBls : List D → Option (List Bool)
  | [] => some []
  | .bool i :: r => (dBls r).map fun is => i :: is
  | _ :: _ => none
theorem dBls_vals : ∀ {ds : List D} {bs : List Bool} {vs : List V}, dBls ds = some bs → RpL K G ds vs → vs = bs.map V.bl
  | [], _, _, h, r => by cases h; exact r
  | .bool i :: ds, _, vs, h, ⟨v, r', e, h1, t⟩ => by
    simp only [dBls] at h
    cases eb : dBls ds with
    | none => rw [eb] at h; cases h
    | some bs =>
      rw [eb] at h
      cases h
      rw [e, (show v = .bl i from h1), dBls_vals eb t]; rfl
  | .none :: _, _, _, h, _ => by cases h
  | .int _ :: _, _, _, h, _ => by cases h
  | .str _ :: _, _, _, h, _ => by cases h
  | .list _ :: _, _, _, h, _ => by cases h
  | .tuple _ :: _, _, _, h, _ => by cases h
  | .dict _ :: _, _, _, h, _ => by cases h
theorem dBls_of : ∀ bs : List Bool, dBls (bs.map PyData.bool) = some bs
  | [] => rfl
  | i :: is => by
    show (dBls (is.map PyData.bool)).map _ = _
    rw [dBls_of is]; rfl
def dAll : List D → Option D
  | [.list ds] => (dBls ds).map fun bs => .bool (bs.all id)
  | _ => none
def dAny : List D → Option D
  | [.list ds] => (dBls ds).map fun bs => .bool (bs.any id)
  | _ => none
theorem p_all : PrimL K dAll (rAll K) := fun G H xs ds d Q s vw e q => by
  unfold dAll at e
  split at e
  · rename_i ds
    obtain ⟨v, rfl, v⟩ := vwl1 vw
    obtain ⟨a, xs, rfl, ha, ra⟩ := v.lst s
    cases eb : dBls ds with
    | none => rw [eb] at e; cases e
    | some bs =>
      rw [eb] at e
      cases e
      rw [dBls_vals eb ra] at ha
      exact ⟨a, bs, rfl, .inl (.inl ha), q _ H (.inl ⟨rfl, rfl⟩)⟩
  · cases e
theorem p_any : PrimL K dAny (rAny K) := fun G H xs ds d Q s vw e q => by
  unfold dAny at e
  split at e
  · rename_i ds
    obtain ⟨v, rfl, v⟩ := vwl1 vw
    obtain ⟨a, xs, rfl, ha, ra⟩ := v.lst s
    cases eb : dBls ds with
    | none => rw [eb] at e; cases e
    | some bs =>
      rw [eb] at e
      cases e
      rw [dBls_vals eb ra] at ha
      exact ⟨a, bs, rfl, .inl (.inl ha), q _ H (.inl ⟨rfl, rfl⟩)⟩
  · cases e
end

set_option autoImplicit false
section
variable {X : Cx} {c : Ct} {F : Fr} {ρ : Env} {σ : L2.St} {G H : Hp} {K : PySem.W.Frag} {e a b d : Expr} {es : List Expr} {pos p p2 p3 tpos : Pos}
def dTy : D → Option String
  | .none => some "NoneType"
  | .bool _ => some "bool"
  | .int _ => some "int"
  | .str _ => some "str"
  | .list _ => some "list"
  | .tuple _ => some "tuple"
  | .dict _ => none
def isB (t T : String) : Bool := t == T || (t == "bool" && T == "int")
theorem Vw.ty {d : D} {v : V} {t : String} (s : Sub G H) (h : Vw K G H d v) (e : dTy d = some t) : TyX K H v (.type t) := by
  cases d with
  | none => cases e; rw [h.non]; exact .base .non
  | bool b => cases e; rw [h.bl]; exact .base (.bl b)
  | int b => cases e; rw [h.int]; exact .base (.int b)
  | str b => cases e; rw [h.str]; exact .base (.str b)
  | list ds => cases e; obtain ⟨a, xs, rfl, ha, _⟩ := h.lst s; exact .base (.lst ha)
  | tuple ds => cases e; obtain ⟨a, xs, rfl, ha, _⟩ := h.tup s; exact .base (.tup ha)
  | dict _ => cases e
theorem kit_isB {d : D} {t T : String} (e : dTy d = some t) (hT : T = "int" ∨ T = "bool" ∨ T = "str" ∨ T = "list" ∨ T = "tuple") : PySem.W.kitOne K (.type t) (.type T) = some (isB t T) := by
  refine kit_ty ?_
  cases d <;> cases e <;> rcases hT with rfl | rfl | rfl | rfl | rfl <;> decide +kernel
def mIsi (Ts : List String) (o : Opd) : ME := fun ρ => (o.ev ρ).then fun x ρ' => match (o.fin x ρ').bind dTy with
  | some t => .ok (.bool (Ts.any fun T => isB t T)) ρ'
  | none => .stuck
theorem pa_ty {T : String} {x : Str} (hg : Gl X x) (hm : X.mg x = none) (hv : bootBuiltins x = some (.type T)) (hn : x ≠ "__name__" := by decide) (hd : (x == ("__debug__" : Str)) = false := by decide) : PE X (.Name x pos) (tC (.ty T)) := pe_bltn hg hm hv rfl hn hd
theorem me_isi {o : Opd} {T : String} {x : Str} (hK : X.K = c.K) (hi : Gl X "isinstance") (hmi : X.mg "isinstance" = none) (hg : Gl X x) (hm : X.mg x = none) (hv : bootBuiltins x = some (.type T)) (he : PE X e (tO c o)) (hT : T = "int" ∨ T = "bool" ∨ T = "str" ∨ T = "list" ∨ T = "tuple" := by decide) (hn : x ≠ "__name__" := by decide) (hd : (x == ("__debug__" : Str)) = false := by decide)
    (hs : starEach [e, .Name x p2] X.env = (false, eval e X.env) :: starEach [.Name x p2] X.env := by rfl) (hs2 : starEach [.Name x p2] X.env = (false, eval (.Name x p2) X.env) :: starEach [] X.env := by rfl) (hpl : (backTo pos (starEach [.Name x p2] X.env)).any (·.1) = false := by rfl) :
    PE X (.Call (.Name "isinstance" p) [e, .Name x p2] [] pos) (tE c (mIsi [T] o)) :=
  pe_conseq (pe_callB call_isi hi hmi boot_isinstance (pa_cons he (pa_cons (pa_ty hg hm hv hn hd) pa_nil hs2) hs) (he := hs) (hpl := hpl)) fun σ H Q ⟨F, ρ, G, S, a⟩ => by
    show tO c o σ H fun x H1 => rIsi X.K [x, .ty T] H1 Q
    refine tO_ev S ((Ask.then a).imp (GLe.refl G) fun x ρ1 a1 v H1 G1 S1 g1 p1 => ?_)
    cases ef : o.fin x ρ1 with
    | none => rw [ef] at a1; exact a1.elim
    | some d =>
      rw [ef] at a1
      cases et : dTy d with
      | none => simp only [Option.bind_some, et] at a1; exact a1.elim
      | some t =>
        simp only [Option.bind_some, et] at a1
        rw [hK]
        refine ⟨v, .ty T, .type t, .type T, isB t T, rfl, .ty T, (p1.vw S1 ef).ty S1.sub et, kit_isB et hT, ?_⟩
        have z := a1 (.bl (isB t T)) H1 G1 S1 g1
        simp only [List.any_cons, List.any_nil, Bool.or_false] at z
        exact z rfl
theorem me_isi2 {o : Opd} {T T2 : String} {x y : Str} {k : Nat} (hK : X.K = c.K) (hi : Gl X "isinstance") (hmi : X.mg "isinstance" = none) (hg : Gl X x) (hm : X.mg x = none) (hv : bootBuiltins x = some (.type T)) (hg2 : Gl X y) (hm2 : X.mg y = none) (hv2 : bootBuiltins y = some (.type T2)) (he : PE X e (tO c o)) (hT : T = "int" ∨ T = "bool" ∨ T = "str" ∨ T = "list" ∨ T = "tuple" := by decide) (hT2 : T2 = "int" ∨ T2 = "bool" ∨ T2 = "str" ∨ T2 = "list" ∨ T2 = "tuple" := by decide)
    (hn : x ≠ "__name__" := by decide) (hd : (x == ("__debug__" : Str)) = false := by decide) (hn2 : y ≠ "__name__" := by decide) (hd2 : (y == ("__debug__" : Str)) = false := by decide)
    (hs : starEach [e, .Tuple [.Name x p2, .Name y p3] k tpos] X.env = (false, eval e X.env) :: starEach [.Tuple [.Name x p2, .Name y p3] k tpos] X.env := by rfl) (hs2 : starEach [.Tuple [.Name x p2, .Name y p3] k tpos] X.env = (false, eval (.Tuple [.Name x p2, .Name y p3] k tpos) X.env) :: starEach [] X.env := by rfl)
    (hs3 : starEach [.Name x p2, .Name y p3] X.env = (false, eval (.Name x p2) X.env) :: starEach [.Name y p3] X.env := by rfl) (hs4 : starEach [.Name y p3] X.env = (false, eval (.Name y p3) X.env) :: starEach [] X.env := by rfl) (hpl : (backTo pos (starEach [.Tuple [.Name x p2, .Name y p3] k tpos] X.env)).any (·.1) = false := by rfl) :
    PE X (.Call (.Name "isinstance" p) [e, .Tuple [.Name x p2, .Name y p3] k tpos] [] pos) (tE c (mIsi [T, T2] o)) :=
  pe_conseq (pe_callB call_isiT hi hmi boot_isinstance (pa_cons he (pa_cons (pe_tup (pa_cons (pa_ty hg hm hv hn hd) (pa_cons (pa_ty hg2 hm2 hv2 hn2 hd2) pa_nil hs4) hs3)) pa_nil hs2) hs) (he := hs) (hpl := hpl)) fun σ H Q ⟨F, ρ, G, S, a⟩ => by
    show tO c o σ H fun x H1 => _
    refine tO_ev S ((Ask.then a).imp (GLe.refl G) fun x ρ1 a1 v H1 G1 S1 g1 p1 => ?_)
    cases ef : o.fin x ρ1 with
    | none => rw [ef] at a1; exact a1.elim
    | some d =>
      rw [ef] at a1
      cases et : dTy d with
      | none => simp only [Option.bind_some, et] at a1; exact a1.elim
      | some t =>
        simp only [Option.bind_some, et] at a1
        refine (show _ ∧ _ from ⟨by show 2 ≤ sizeLine; rw [sizeLine_eq]; omega, fun q hq => ?_⟩)
        have S2 := S1.add (o := .tup [V.ty T, V.ty T2]) hq
        have gl2 : GLe G1 (upd G1 q (.tup [V.ty T, V.ty T2])) := GLe.upd (S1.gnone hq)
        rw [hK]
        have ka : PySem.W.kitAny c.K (.type t) [.type T, .type T2] = some (isB t T || isB t T2) := by
          refine kitAny_cons (kit_isB et hT) (fun h => ?_) fun h => by rw [h]; rfl
          rw [h, Bool.false_or]
          exact kitAny_cons (kit_isB et hT2) (fun h => by rw [h]; rfl) fun h => h
        refine ⟨v, q, [V.ty T, V.ty T2], .type t, [.type T, .type T2], _, rfl, upd_same, .cons (.ty T) (.cons (.ty T2) .nil), ((p1.mono gl2).vw S2 (d := d) ef).ty S2.sub et, ka, ?_⟩
        · have z := a1 (.bl (isB t T || isB t T2)) _ _ S2 (g1.trans gl2)
          simp only [List.any_cons, List.any_nil, Bool.or_false] at z
          exact z rfl
variable {α : Type}
def ins (le : α → α → Bool) (a : α) : List α → List α
  | [] => [a]
  | b :: l => if le a b = true then a :: b :: l else b :: ins le a l
def isort (le : α → α → Bool) : List α → List α
  | [] => []
  | a :: l => ins le a (isort le l)
theorem ins_perm (le : α → α → Bool) (a : α) : ∀ l : List α, (ins le a l).Perm (a :: l)
  | [] => List.Perm.refl _
  | b :: l => by
    unfold ins
    by_cases h : le a b = true
    · rw [if_pos h]
    · rw [if_neg h]
      exact ((ins_perm le a l).cons b).trans (List.Perm.swap a b l)
theorem isort_perm (le : α → α → Bool) : ∀ l : List α, (isort le l).Perm l
  | [] => List.Perm.refl _
  | a :: l => (ins_perm le a (isort le l)).trans ((isort_perm le l).cons a)
theorem ins_sorted {le : α → α → Bool} (tr : ∀ a b c, le a b = true → le b c = true → le a c = true) (tot : ∀ a b, le a b = true ∨ le b a = true) (a : α) : ∀ {l : List α}, l.Pairwise (fun x y => le x y = true) → (ins le a l).Pairwise fun x y => le x y = true
  | [], _ => List.pairwise_singleton _ _
  | b :: l, h => by
    unfold ins
    have hb := List.pairwise_cons.mp h
    by_cases q : le a b = true
    · rw [if_pos q]
      refine List.pairwise_cons.mpr ⟨fun z hz => ?_, h⟩
      rcases List.mem_cons.mp hz with e | hz
      · rw [e]; exact q
      · exact tr _ _ _ q (hb.1 z hz)
    · rw [if_neg q]
      refine List.pairwise_cons.mpr ⟨fun z hz => ?_, ins_sorted tr tot a hb.2⟩
      rcases List.mem_cons.mp ((ins_perm le a l).mem_iff.mp hz) with e | hz
      · rw [e]; exact (tot a b).resolve_left q
      · exact hb.1 z hz
theorem isort_sorted {le : α → α → Bool} (tr : ∀ a b c, le a b = true → le b c = true → le a c = true) (tot : ∀ a b, le a b = true ∨ le b a = true) : ∀ l : List α, (isort le l).Pairwise fun x y => le x y = true
  | [] => List.Pairwise.nil
  | a :: l => ins_sorted tr tot a (isort_sorted tr tot l)
def sortI (ns : List Int) : List Int := isort (fun a b => decide (a ≤ b)) ns
theorem sortI_uniq {ns ms : List Int} (h : ms.Perm ns) (hs : ms.Pairwise (· ≤ ·)) : ms = sortI ns := by
  refine List.Perm.eq_of_pairwise (le := (· ≤ ·)) (fun a b _ _ h1 h2 => Int.le_antisymm h1 h2) hs ?_ (h.trans (isort_perm _ _).symm)
  exact (isort_sorted (le := fun a b : Int => decide (a ≤ b)) (fun a b c h1 h2 => by simp at *; omega) (fun a b => by simp; omega) ns).imp fun h => by simpa using h
def leP (p q : Int × Int) : Bool := !SrtO.lexB q p
theorem leP_iff {p q : Int × Int} : leP p q = true ↔ p.1 < q.1 ∨ (p.1 = q.1 ∧ p.2 ≤ q.2) := by
  unfold leP
  rw [Bool.not_eq_true', SrtO.lexB_no]
  omega
def sortP (ps : List (Int × Int)) : List (Int × Int) := isort leP ps
theorem sortP_uniq {ns ms : List (Int × Int)} (h : ms.Perm ns) (hs : ms.Pairwise fun x y => leP x y = true) : ms = sortP ns := by
  refine List.Perm.eq_of_pairwise (le := fun x y => leP x y = true) (fun a b _ _ h1 h2 => ?_) hs (isort_sorted (fun a b c h1 h2 => ?_) (fun a b => ?_) ns) (h.trans (isort_perm _ _).symm)
  · rw [leP_iff] at h1 h2
    obtain ⟨a1, a2⟩ := a
    obtain ⟨b1, b2⟩ := b
    simp only at h1 h2
    rw [show a1 = b1 by omega, show a2 = b2 by omega]
  · rw [leP_iff] at *
    omega
  · rw [leP_iff, leP_iff]
    omega
def pairD (p : Int × Int) : D := .tuple [.int p.1, .int p.2]
def dPairs : List D → Option (List (Int × Int))
  | [] => some []
  | .tuple [.int i, .int j] :: r => (dPairs r).map fun is => (i, j) :: is
  | _ :: _ => none
theorem dPairs_of : ∀ is : List (Int × Int), dPairs (is.map pairD) = some is
  | [] => rfl
  | i :: is => by
    show (dPairs (is.map pairD)).map _ = _
    rw [dPairs_of is]; rfl
theorem dPairs_map : ∀ {ds : List D} {is : List (Int × Int)}, dPairs ds = some is → ds = is.map pairD
  | [], _, h => by cases h; rfl
  | d :: r, is, h => by
    unfold dPairs at h
    split at h
    · rename_i e0; cases e0
    · rename_i i j r' e1
      cases e1
      cases e : dPairs r with
      | none => rw [e] at h; cases h
      | some is' =>
        rw [e] at h
        cases h
        rw [dPairs_map e]; rfl
    · cases h
def dSort : List D → Option D
  | [.list ds] => (match dInts ds with
    | some is => some (.list ((sortI is).map PyData.int))
    | none => (match dPairs ds with
      | some ps => some (.list ((sortP ps).map pairD))
      | none => none))
  | _ => none
/-- the ints of a pair's value -/
noncomputable def keyOf (H : Hp) : V → Int × Int
  | .ref a => (match H a with
    | some (.tup [.int i, .int j]) => (i, j)
    | _ => (0, 0))
  | _ => (0, 0)
theorem RpL.pairs (s : Sub G H) : ∀ {ps : List (Int × Int)} {vs : List V}, RpL K G (ps.map pairD) vs → vs.map (keyOf H) = ps ∧ ∀ x ∈ vs, ∃ t, x = V.ref t ∧ H t = some (.tup [.int (keyOf H x).1, .int (keyOf H x).2]) ∧ Rp K G (pairD (keyOf H x)) x
  | [], _, h => by cases (show _ = _ from h); exact ⟨rfl, fun x hx => by cases hx⟩
  | p :: ps, _, ⟨v, r, e, h, t⟩ => by
    subst e
    obtain ⟨h1, h2⟩ := RpL.pairs s t
    have h' := h
    obtain ⟨a, xs, e, q, v1, r1, ex, e1, v2, r2, ey, e2, e3⟩ := h
    have e3' : r2 = [] := e3
    have e1' : v1 = .int p.1 := e1
    have e2' : v2 = .int p.2 := e2
    subst e ex ey e3' e1' e2'
    have ha := s.tup q
    have ek : keyOf H (V.ref a) = p := by
      show (match H a with
        | some (.tup [.int i, .int j]) => (i, j)
        | _ => (0, 0)) = p
      rw [ha]
    refine ⟨by rw [List.map_cons, h1, ek], fun x hx => ?_⟩
    rcases List.mem_cons.mp hx with e | hx
    · subst e
      exact ⟨a, rfl, by rw [ek]; exact ha, by rw [ek]; exact h'⟩
    · exact h2 x hx
theorem RpL.mem : ∀ {ds : List D} {vs : List V} , RpL K G ds vs → ∀ v ∈ vs, ∃ d ∈ ds, Rp K G d v
  | [], _, h, v, hv => by cases (show _ = _ from h); cases hv
  | d :: ds, _, ⟨u, r, e, h, t⟩, v, hv => by
    subst e
    rcases List.mem_cons.mp hv with e | hv
    · exact ⟨d, List.mem_cons_self, by rw [e]; exact h⟩
    · obtain ⟨d', h1, h2⟩ := RpL.mem t v hv
      exact ⟨d', List.mem_cons_of_mem _ h1, h2⟩
theorem RpL.build {f : V → D} : ∀ {vs : List V}, (∀ v ∈ vs, Rp K G (f v) v) → RpL K G (vs.map f) vs
  | [], _ => rfl
  | v :: vs, h => ⟨v, vs, rfl, h v List.mem_cons_self, RpL.build fun u hu => h u (List.mem_cons_of_mem _ hu)⟩
theorem p_sort : PrimNL K dSort (fun vs H Q => rSortedI K vs H Q ∨ rSortedPO K vs H Q) := fun G H xs ds d Q s vw e q => by
  unfold dSort at e
  split at e
  · rename_i ds
    obtain ⟨v, rfl, v⟩ := vwl1 vw
    obtain ⟨a, xs, rfl, ha, ra⟩ := v.lst s
    split at e
    · rename_i is ei
      cases e
      rw [dInts_map ei] at ra
      rw [ra.ints] at ha
      refine .inl ⟨a, is, rfl, .inl (.inl ha), fun ns p hp hs hn => ?_⟩
      rw [sortI_uniq hp hs]
      exact q _ _ ⟨p, _, rfl, hn, rfl, .lst (.of_ints _), trivial⟩
    · split at e
      · rename_i ps ep
        cases e
        rw [dPairs_map ep] at ra
        obtain ⟨h1, h2⟩ := ra.pairs s
        refine .inr ⟨a, xs, keyOf H, rfl, .inl (.inl ha), fun x hx => ?_, fun ys p hs hb hn => ?_⟩
        · obtain ⟨t, e1, e2, _⟩ := h2 x hx
          exact ⟨t, e1, e2⟩
        · have er : (ys.map (keyOf H)) = sortP ps := by
            refine sortP_uniq (by rw [← h1]; exact hb.perm.map _) ?_
            refine List.pairwise_map.mpr (hs.imp fun {x y} h => ?_)
            have h' : SrtO.lexB (keyOf H y) (keyOf H x) = false := h
            unfold leP
            rw [h']; rfl
          refine q _ _ ⟨p, _, rfl, hn, rfl, .lst ?_, trivial⟩
          rw [← er, List.map_map]
          exact RpL.build fun v hv => (h2 v (hb.perm.mem_iff.mp hv)).choose_spec.2.2
      · cases e
  · cases e
theorem fe_sort {o : Opd} (hK : X.K = c.K) (hg : Gl X "sorted") (hm : X.mg "sorted" = none) (ha : PA X [e] (tOs c [o]))
    (he : starEach [e] X.env = (false, eval e X.env) :: starEach [] X.env := by rfl) : PE X (.Call (.Name "sorted" p) [e] [] pos) (tF c (mFn dSort [o])) := by
  refine fe_fnB (c := c) (r := fun vs H Q => rSortedI X.K vs H Q ∨ rSortedPO X.K vs H Q) (cr_sortedI.or cr_sortedPO) ?_ hg hm boot_sorted ha (he := he)
  rw [hK]
  exact p_sort
end

set_option autoImplicit false
section
variable {X : Cx} {c : Ct} {F : Fr} {ρ : Env} {σ : L2.St} {G H : Hp} {K : PySem.W.Frag} {e a b d : Expr} {es : List Expr} {pos p p2 p3 tpos : Pos}
def mDict0 : ME := fun ρ => .ok (.dict []) ρ
theorem fe_dict0 : PE X (.Dict [] [] pos) (tF c mDict0) := pe_conseq pe_dnewK fun σ H Q ⟨F, ρ, G, S, a⟩ p hp =>
  a p _ G (S.alloc (o := .dK []) hp trivial) (GLe.refl G) (NewAt.of S hp (.dK rfl) trivial)
def RpP (K : PySem.W.Frag) (G : Hp) : List (D × D) → List (V × V) → Prop
  | [], ps => ps = []
  | (k, d) :: r, ps => ∃ x y t, ps = (x, y) :: t ∧ Rp K G k x ∧ Rp K G d y ∧ RpP K G r t
theorem RpP.keys : ∀ {ds : List (D × D)} {ps : List (V × V)}, RpP K G ds ps → (ds.all fun p => (toK1 p.1).isSome) = true →
    ∃ es : List (Key × V), ps = es.map (fun kv => (kV kv.1, kv.2)) ∧ es.length = ds.length ∧ ∀ (kvs : List (D × D)) (fs : List (Key × V)), RpK K G kvs fs → RpK K G (ds.foldl (fun acc p => dPutV acc p.1 p.2) kvs) (mergeK fs es)
  | [], ps, h, _ => by
    cases (show _ = _ from h)
    exact ⟨[], rfl, rfl, fun kvs fs r => r⟩
  | (k, d) :: r, ps, ⟨x, y, t, e, hk, hd, ht⟩, h => by
    rw [List.all_cons, Bool.and_eq_true] at h
    obtain ⟨es, e1, e2, e3⟩ := RpP.keys ht h.2
    cases ek : toK1 k with
    | none => rw [ek] at h; cases h.1
    | some z =>
      have ed := of_toK1 ek
      subst ed
      have ex := Rp.key hk
      subst ex
      refine ⟨(z, y) :: es, by rw [e, e1]; rfl, by rw [List.length_cons, List.length_cons, e2], fun kvs fs q => ?_⟩
      exact e3 _ _ (q.put hd)
def Cal (P : Program) (w : World) (K : PySem.W.Frag) (mg : Str → Option Value) (base : Heap) (T : List (Addr × Str)) (x : Str) (k n : Nat) (f : FM) : Prop :=
  ∃ (fa : Addr) (fd : FuncData) (ps : List Str), FnOk P w K mg base (L2.CX P w) k fa fd ps (spM K T mg n f) ∧ mg x = some (.ref fa) ∧ PySem.W.keepIn K (.ref fa) = true ∧ Binds K fd ps []
theorem me_cal {k j : Nat} {x : Str} {n : Nat} {m : FM} {as : List Arg} (C : Cal X.prog X.w X.K X.mg X.base c.T x j n m) (hK : c.K = X.K) (hG : c.mg = X.mg) (hr : Room k X.A) (tk : Takes X c.W) (hg : Gl X x) (ha : PA X (e :: es) (tAs c as)) (hj : j ≤ k := by decide) (hl : as.length = n := by rfl) (hnd : (ioIx as).Nodup := by decide)
    (hdb : (x == ("__debug__" : Str)) = false := by decide) (he : starEach (e :: es) X.env = (false, eval e X.env) :: starEach es X.env := by rfl) (hpl : (backTo pos (starEach es X.env)).any (·.1) = false := by rfl) :
    PE X (.Call (.Name x p) (e :: es) [] pos) (tE c (mCall m as)) := by
  obtain ⟨fa, fd, ps, Fn, hm, hk, hb⟩ := C
  rw [← hK, ← hG] at Fn
  refine me_call (k := j) ?_ (hr.mono hj) tk hg hm hk hb ha hl hnd hdb he hpl
  rw [hK, hG] at Fn ⊢
  exact Fn
theorem room65 {k : Nat} {A : Around} (hr : Room k A) : A.units + 65 < cLine := by have := hr.un; omega
theorem room1 {k : Nat} {A : Around} (hr : Room k A) : A.units + 1 < cLine := by have := hr.un; omega
theorem room64 {k : Nat} {A : Around} (hr : Room k A) : A.units + 64 < cLine := by have := hr.un; omega
theorem room0 {k : Nat} {A : Around} (hr : Room k A) : A.units < cLine := by have := hr.un; omega
end

set_option autoImplicit false
section
variable {X : Cx} {c : Ct} {F : Fr} {ρ : Env} {σ : L2.St} {G H : Hp} {e a b d : Expr} {es : List Expr} {pos pos' p p2 p3 tpos : Pos}
def vbm : List Value := [.type "ValueError", .type "Exception", .type "BaseException", .type "object"]
/-- an own error of the text, without an __init__ -/
def ER (K : PySem.W.Frag) (mg : Str → Option Value) (x : Str) : Prop := ∃ C : Addr, mg x = some (.ref C) ∧ PySem.W.excIn K C vbm "ValueError.__new__" = true ∧ PySem.W.keepIn K (.ref C) = true ∧
  PySem.W.subIn K (.ref C) (.type "BaseException") = some true ∧ PySem.W.typeIn K (.ref C) = some (.type "type")
theorem st_raiseE {x : Str} (hc : X.calm = true) (tk : Takes X c.W) (h : ER X.K X.mg x) (hG : c.mg = X.mg) (hg : Gl X x) (hdb : (x == ("__debug__" : Str)) = false := by decide) : PS X (.Raise (some (.Call (.Name x p) [] [] pos)) none pos') (tS c (sRaise x)) := by
  obtain ⟨C, gC, q, kC, bC, tC⟩ := h
  exact st_raise0 hc tk PySem.F.excBase_ValueError q gC (by rw [hG]; exact gC) kC (raises_own bC tC) hg hdb
theorem takes_no : Takes X (fun _ _ _ _ => False) := fun u s' ⟨a, B, sI, pins, σ, H, cls, d, e, I, nb, up, sky, na, os, ag, w⟩ => w.elim
end

set_option autoImplicit false
structure FrLe (F F' : Fr) : Prop where
  fg : ∀ a u, F.fg a = some u → F'.fg a = some u
  dom : ∀ a, F.dom a → F'.dom a
  io : F'.io = F.io
  wf : ∀ a u, F.fg a = some u → F.dom a
  ioD : ∀ q ∈ F.io, F.dom q.2
theorem FrLe.plus {F F' : Fr} (h : FrLe F F') {q : Addr} {o : HO} (n : ¬ F.dom q) : FrLe F (F'.plus q o) := by
  refine ⟨fun a u e => ?_, fun a e => .inl (h.dom a e), h.io, h.wf, h.ioD⟩
  have ne : a ≠ q := fun z => n (by rw [← z]; exact h.wf a u e)
  show upd F'.fg q o a = some u
  rw [upd_ne ne]
  exact h.fg a u e
section
variable {X : Cx} {c : Ct} {F F' : Fr} {ρ : Env} {σ : L2.St} {G H : Hp} {e a b : Expr} {pos pos' p2 p3 apos : Pos}
theorem State.down (h : FrLe F F') (S : State c F' ρ σ G H) : State c F ρ σ G H where
  sub := S.sub
  fg := fun a u e => S.fg a u (h.fg a u e)
  wf := fun a u e => by
    obtain ⟨_, h2, h3⟩ := S.wf a u (h.fg a u e)
    exact ⟨h.wf a u e, fun i => by rw [← h.io]; exact h2 i, h3⟩
  dom := fun a e => S.dom a (h.dom a e)
  tab := S.tab
  tabG := S.tabG
  len := S.len
  sl := fun i s e => by
    have z := S.sl i s e
    cases s with
    | no => trivial
    | fz d => exact z
    | own d =>
      obtain ⟨p, e1, e2, e3⟩ := z
      exact ⟨p, e1, e2, e3.imp (fun n hd => n (h.dom p hd)) fun m => by rw [← h.io]; exact m⟩
  apart := S.apart
  io := fun q hq => S.io q (by rw [h.io]; exact hq)
  ios := by rw [← h.io]; exact S.ios
  ioD := h.ioD
  tupG := S.tupG
theorem State.frLe (S : State c F ρ σ G H) : FrLe F F := ⟨fun _ _ h => h, fun _ h => h, rfl, fun a u e => (S.wf a u e).1, S.ioD⟩
theorem plus_same {q : Addr} {o : HO} (h : F.fg q = some o) (hd : F.dom q) : F.plus q o = F := by
  have e1 : upd F.fg q o = F.fg := by
    funext a
    by_cases z : a = q
    · subst z; rw [upd_same, h]
    · rw [upd_ne z]
  have e2 : (fun a => F.dom a ∨ a = q) = F.dom := by
    funext a
    exact propext ⟨fun z => z.elim id fun e => by rw [e]; exact hd, .inl⟩
  show (⟨upd F.fg q o, fun a => F.dom a ∨ a = q, F.io⟩ : Fr) = F
  rw [e1, e2]
/-- a foreign object's contents change -/
theorem State.reFg {q : Addr} {o o' : HO} (S : State c F ρ σ G H) (h : F.fg q = some o) (hm : Mut (some o)) (hm' : Mut (some o')) (ht : ∀ ps, o' ≠ .tbl ps) (hcd : ∀ k r, o ≠ CodeO k r) : State c (F.plus q o') ρ σ G (upd H q o') := by
  rw [← plus_same h (S.wf q o h).1] at S
  have z := State.rePlus hm hm' ht hcd S
  have e : (F.plus q o).plus q o' = F.plus q o' := by
    have e1 : upd (upd F.fg q o) q o' = upd F.fg q o' := upd_upd
    have e2 : (fun a => (F.dom a ∨ a = q) ∨ a = q) = fun a => F.dom a ∨ a = q := by
      funext a
      exact propext ⟨fun z => z.elim id .inr, .inl⟩
    show (⟨upd (upd F.fg q o) q o', fun a => (F.dom a ∨ a = q) ∨ a = q, F.io⟩ : Fr) = ⟨upd F.fg q o', fun a => F.dom a ∨ a = q, F.io⟩
    rw [e1, e2]
  exact z
theorem nodup_ix {α : Type} {l : List α} (h : l.Nodup) {i j : Nat} {a : α} (hi : l[i]? = some a) (hj : l[j]? = some a) : i = j := by
  obtain ⟨l1, g1⟩ := List.getElem?_eq_some_iff.mp hi
  obtain ⟨l2, g2⟩ := List.getElem?_eq_some_iff.mp hj
  have q := List.pairwise_iff_getElem.mp h
  rcases Nat.lt_trichotomy i j with z | z | z
  · exact absurd (g1.trans g2.symm) (q i j l1 l2 z)
  · exact z
  · exact absurd (g2.trans g1.symm) (q j i l2 l1 z)
/-- the list of lists at p, its lists at qs -/
structure DL (K : PySem.W.Frag) (F' : Fr) (G : Hp) (p : Addr) (qs : List Addr) (dss : List (List D)) : Prop where
  top : F'.fg p = some (.lst (qs.map V.ref))
  nd : (p :: qs).Nodup
  len : qs.length = dss.length
  inn : ∀ (j : Nat) (q : Addr) (ds : List D), qs[j]? = some q → dss[j]? = some ds → ∃ xs, F'.fg q = some (.lst xs) ∧ RpL K G ds xs
theorem DL.mono {K : PySem.W.Frag} {G G' : Hp} {p : Addr} {qs : List Addr} {dss : List (List D)} (h : DL K F' G p qs dss) (g : GLe G G') : DL K F' G' p qs dss :=
  ⟨h.top, h.nd, h.len, fun j q ds e1 e2 => by
    obtain ⟨xs, h1, h2⟩ := h.inn j q ds e1 e2
    exact ⟨xs, h1, RpL.mono g _ _ h2⟩⟩
/-- one of its lists changes -/
theorem DL.set {K : PySem.W.Frag} {p q : Addr} {qs : List Addr} {dss : List (List D)} {j : Nat} {ds : List D} {xs : List V} (h : DL K F' G p qs dss) (ej : qs[j]? = some q) (r : RpL K G ds xs) : DL K (F'.plus q (.lst xs)) G p qs (dss.set j ds) := by
  have nd := List.nodup_cons.mp h.nd
  have mq : q ∈ qs := List.mem_of_getElem? ej
  refine ⟨?_, h.nd, by rw [List.length_set]; exact h.len, fun i r' es e1 e2 => ?_⟩
  · show upd F'.fg q (.lst xs) p = _
    rw [upd_ne (fun z => nd.1 (by rw [z]; exact mq))]
    exact h.top
  · by_cases z : i = j
    · subst z
      rw [ej] at e1
      cases e1
      have hl : i < dss.length := by rw [← h.len]; exact (List.getElem?_eq_some_iff.mp ej).1
      rw [List.getElem?_set_self hl] at e2
      cases e2
      exact ⟨xs, by show upd F'.fg q (.lst xs) q = _; exact upd_same, r⟩
    · rw [List.getElem?_set_ne (fun w => z w.symm)] at e2
      obtain ⟨ys, h1, h2⟩ := h.inn i r' es e1 e2
      refine ⟨ys, ?_, h2⟩
      have ne : r' ≠ q := fun w => by
        subst w
        exact z (nodup_ix nd.2 e1 ej)
      show upd F'.fg q (.lst xs) r' = _
      rw [upd_ne ne]
      exact h1
inductive DR where
  | nx (dss : List (List D)) (ρ : Env) | stuck
abbrev DM := List (List D) → Env → DR
def Rs.dr {α : Type} : Rs α → (α → Env → DR) → DR
  | .ok a ρ, f => f a ρ
  | _, _ => .stuck
structure DS (c : Ct) (i : Nat) (F F' : Fr) (ρ : Env) (σ : L2.St) (G H : Hp) (p : Addr) (qs : List Addr) (dss : List (List D)) : Prop where
  st : State c F' ρ σ G H
  le : FrLe F F'
  dl : DL c.K F' G p qs dss
  nd : ∀ a ∈ p :: qs, ¬ F.dom a
  at_ : σ[i]? = some (some (.ref p))
def DAsk (c : Ct) (i : Nat) (F : Fr) (G : Hp) (p : Addr) (qs : List Addr) (D : Ends) : DR → Prop
  | .nx dss ρ => ∀ F' σ H G', DS c i F F' ρ σ G' H p qs dss → GLe G G' → D.nx σ H
  | .stuck => False
theorem DAsk.mono {i : Nat} {G1 : Hp} {p : Addr} {qs : List Addr} {D : Ends} {r : DR} (g : GLe G G1) (h : DAsk c i F G p qs D r) : DAsk c i F G1 p qs D r := by
  cases r with
  | nx dss ρ => exact fun F' σ H G' d gl => h F' σ H G' d (g.trans gl)
  | stuck => exact h
def tD (c : Ct) (i : Nat) (m : DM) : TS := fun D σ H => ∃ F F' ρ G p qs dss, DS c i F F' ρ σ G H p qs dss ∧ DAsk c i F G p qs D (m dss ρ)
theorem DAsk.dr {i : Nat} {p : Addr} {qs : List Addr} {D : Ends} {α : Type} {r : Rs α} {f : α → Env → DR} (h : DAsk c i F G p qs D (r.dr f)) : Ask c F' σ G (fun a ρ => DAsk c i F G p qs D (f a ρ)) r := by
  cases r with
  | ok a ρ => exact h
  | ex e ρ => exact False.elim h
  | stuck => exact h
def dSeq (a b : DM) : DM := fun dss ρ => match a dss ρ with
  | .nx dss' ρ' => b dss' ρ'
  | .stuck => .stuck
theorem sd_cons {i : Nat} {st : Stmt} {rest : List Stmt} {m n : DM} (h : PS X st (tD c i m)) (h2 : PSs X rest (tD c i n)) : PSs X (st :: rest) (tD c i (dSeq m n)) := pss_conseq (pss_cons h h2) fun D σ H ⟨F, F', ρ, G, p, qs, dss, S, q⟩ => by
  unfold dSeq at q
  refine ⟨F, F', ρ, G, p, qs, dss, S, ?_⟩
  cases em : m dss ρ with
  | stuck => rw [em] at q; exact False.elim q
  | nx dss' ρ' =>
    rw [em] at q
    exact fun F2 σ' H' G' S' gl => ⟨F, F2, ρ', G', p, qs, dss', S', DAsk.mono gl q⟩
theorem sd_one {i : Nat} {st : Stmt} {m : DM} (h : PS X st (tD c i m)) : PSs X [st] (tD c i m) := pss_one h
def dForM (tm : TM) (b : DM) : List D → DM
  | [], dss, ρ => .nx dss ρ
  | d :: ds, dss, ρ => (tm d ρ).dr fun _ ρ1 => match b dss ρ1 with
    | .nx dss' ρ2 => dForM tm b ds dss' ρ2
    | .stuck => .stuck
def dFor (it : MI) (tm : TM) (b : DM) : DM := fun dss ρ => (it ρ).dr fun ds ρ' => dForM tm b ds dss ρ'
theorem sd_for {i : Nat} {tg iter : Expr} {body : List Stmt} {it : MI} {ts : List Nat} {tm : TM} {b : DM} (hp : PassesOwn (model X.prog X.w) X.A X.env X.xe) (hc : X.calm = true) (hi : PI X tg iter (tI c it)) (hg : PG X tg (tG c ts tm)) (hb : PSs X body (tD c i b)) (hit : i ∉ ts := by decide)
    (hs : ∀ x, foldedSetIterable iter X.env x = pure x := by intro _; rfl) : PS X (.For tg iter body [] pos) (tD c i (dFor it tm b)) := ps_conseq (ps_for hp hc hi hg hb hs) fun D σ H ⟨F, F', ρ, G, p, qs, dss, S, a⟩ => by
  refine ⟨F', ρ, G, S.st, (DAsk.dr a).imp (GLe.refl G) fun ds ρ1 k J H1 G1 S1 gl1 ito => ?_⟩
  refine ⟨fun n m σ H => m = ds.length - n ∧ n ≤ ds.length ∧ ∃ F' ρ G dss, DS c i F F' ρ σ G H p qs dss ∧ GLe G1 G ∧ DAsk c i F G p qs D (dForM tm b (ds.drop n) dss ρ), ⟨ds.length, rfl, Nat.zero_le _, F', ρ1, G1, dss, ⟨S1, S.le, S.dl.mono gl1, S.nd, S.at_⟩, GLe.refl _, DAsk.mono gl1 k⟩, ?_⟩
  rintro n m σ2 H2 ⟨rfl, hile, F2, ρ2, G2, dss2, S2, gl2, a2⟩
  obtain ⟨h1, h2⟩ := ito n H2 G2 gl2 S2.st.sub
  by_cases hlt : n < ds.length
  · obtain ⟨d, ed, edr⟩ := drop_at hlt
    rw [edr] at a2
    obtain ⟨hgo, hy⟩ := h1 d ed
    refine .inr ⟨hgo, fun σ' H' => ∃ F' ρ' G' dss', DS c i F F' ρ' σ' G' H' p qs dss' ∧ GLe G1 G' ∧ DAsk c i F G' p qs D (dForM tm b (ds.drop (n + 1)) dss' ρ'), fun σ' H' ⟨F', ρ', G', dss', S', gl', a'⟩ => ⟨ds.length - (n + 1), by omega, rfl, hlt, F', ρ', G', dss', S', gl', a'⟩, fun x H' y => ?_⟩
    obtain ⟨G3, S3, gl3, r3⟩ := (hy x H' y).state S2.st
    refine ⟨F2, ρ2, G3, d, S3, r3, ?_⟩
    have a3 : DAsk c i F G2 p qs D ((tm d ρ2).dr fun _ ρ1 => match b dss2 ρ1 with
      | .nx dss' ρ2 => dForM tm b (ds.drop (n + 1)) dss' ρ2
      | .stuck => .stuck) := a2
    cases et : tm d ρ2 with
    | stuck => rw [et] at a3; exact a3
    | ex e ρ' => rw [et] at a3; exact False.elim a3
    | ok u ρ' =>
      rw [et] at a3
      intro σ' H4 G4 S4 gl4 ⟨_, hk⟩
      have g34 := gl3.trans gl4
      refine ⟨F, F2, ρ', G4, p, qs, dss2, ⟨S4, S2.le, S2.dl.mono g34, S2.nd, by rw [hk i hit]; exact S2.at_⟩, ?_⟩
      have a4 : DAsk c i F G2 p qs D (match b dss2 ρ' with
        | .nx dss' ρ2 => dForM tm b (ds.drop (n + 1)) dss' ρ2
        | .stuck => .stuck) := a3
      cases eb : b dss2 ρ' with
      | nx dss' ρ5 =>
        rw [eb] at a4
        exact fun F5 σ5 H5 G5 S5 gl5 => ⟨F5, ρ5, G5, dss', S5, gl2.trans (g34.trans gl5), DAsk.mono (g34.trans gl5) a4⟩
      | stuck => rw [eb] at a4; exact a4
  · have e : n = ds.length := by omega
    subst e
    rw [List.drop_length] at a2
    exact .inl ⟨h2 rfl, a2 F2 σ2 H2 G2 S2 (GLe.refl _)⟩
/-- the list that is meant -/
theorem DS.get {i : Nat} {p : Addr} {qs : List Addr} {dss : List (List D)} {k : Int} {j : Nat} {ds : List D} (S : DS c i F F' ρ σ G H p qs dss) (ek : ixN dss.length k = some j) (ed : dss[j]? = some ds) :
    ∃ q xs, H p = some (.lst (qs.map V.ref)) ∧ L2.atI (qs.map V.ref) k = some (.ref q) ∧ qs[j]? = some q ∧ F'.fg q = some (.lst xs) ∧ H q = some (.lst xs) ∧ RpL c.K G ds xs := by
  have hp := (S.st.fg p _ S.dl.top).1
  have hl : j < qs.length := by rw [S.dl.len]; exact (List.getElem?_eq_some_iff.mp ed).1
  have eq : qs[j]? = some qs[j] := List.getElem?_eq_getElem hl
  obtain ⟨xs, h1, h2⟩ := S.dl.inn j _ ds eq ed
  refine ⟨qs[j], xs, hp, ?_, eq, h1, (S.st.fg _ _ h1).1, h2⟩
  unfold L2.atI
  rw [List.length_map, S.dl.len, ek]
  show (qs.map V.ref)[j]? = _
  rw [List.getElem?_map, eq]
  rfl
/-- l[ix].append(e) -/
def dApp (ix : Opd) (m : ME) : DM := fun dss ρ => (ix.ev ρ).dr fun kx ρ1 => match ix.fin kx ρ1 with
  | some (.int k) => (match ixN dss.length k with
    | some j => (m ρ1).dr fun d ρ2 => (match dss[j]? with
      | some ds => if ds.length < sizeLine then .nx (dss.set j (ds ++ [d])) ρ2 else .stuck
      | none => .stuck)
    | none => .stuck)
  | _ => .stuck
theorem sd_app {i : Nat} {ix : Opd} {m : ME} {st : Stmt} (hK : X.K = c.K) (h : PS X st (tDrop (tBM X.K "list" rAppend (tOp (fun x y H Q => rIx X.K x y H Q ∨ rIxK x y H Q) (tVar i) (tO c ix)) (tMs c [m])))) : PS X st (tD c i (dApp ix m)) := ps_conseq h fun D σ H ⟨F, F', ρ, G, p, qs, dss, S, a⟩ => by
  rw [hK]
  refine ⟨.ref p, S.at_, ?_⟩
  refine tO_ev S.st ((DAsk.dr (F' := F') (σ := σ) a).imp (GLe.refl G) fun kx ρ1 a1 v H1 G1 S1 g1 p1 => ?_)
  have S1' : DS c i F F' ρ1 σ G1 H1 p qs dss := ⟨S1, S.le, S.dl.mono g1, S.nd, S.at_⟩
  split at a1
  · rename_i k ef
    split at a1
    · rename_i j ej
      have hj : j < dss.length := (ixN_seq ej).2.1
      obtain ⟨q, xs, hp, hat, hq, hf, hx, rx⟩ := S1'.get ej (List.getElem?_eq_getElem hj)
      have ev := (p1.vw S1 ef).int
      subst ev
      refine .inl (.inl ⟨p, _, k, _, rfl, rfl, .inl (.inl hp), hat, .inl ⟨rfl, xs, .inl (.inl hx)⟩, ?_⟩)
      refine ⟨F', ρ1, G1, S1, (DAsk.dr (F' := F') (σ := σ) a1).imp g1 fun d ρ2 a2 u H2 G2 S2 g2 r2 => ?_⟩
      have S2' : DS c i F F' ρ2 σ G2 H2 p qs dss := ⟨S2, S.le, S1'.dl.mono g2, S.nd, S.at_⟩
      rw [List.getElem?_eq_getElem hj] at a2
      simp only at a2
      by_cases hz : dss[j].length < sizeLine
      · rw [if_pos hz] at a2
        obtain ⟨q', xs', _, _, hq', hf', hx', rx'⟩ := S2'.get ej (List.getElem?_eq_getElem hj)
        rw [hq] at hq'
        cases hq'
        refine ⟨q, xs', u, rfl, rfl, hx', by rw [rx'.length]; exact hz, ?_⟩
        refine a2 _ σ _ G2 ⟨S2.reFg hf' trivial trivial (fun _ z => nomatch z) (fun k r z => by unfold CodeO at z; cases z), S.le.plus (S.nd q (List.mem_cons_of_mem _ (List.mem_of_getElem? hq))), S2'.dl.set hq (rx'.append (.one r2)), S.nd, S.at_⟩ (g1.trans g2)
      · rw [if_neg hz] at a2
        exact a2.elim
    · exact a1.elim
  · exact a1.elim
def asList : D → Option (List D)
  | .list l => some l
  | _ => none
theorem asList_eq {d : D} {l : List D} (h : asList d = some l) : d = .list l := by
  cases d <;> cases h
  rfl
def makeM (tm : TM) (mk : ME) (vs : List Nat) : List D → List (List D) → Env → Rs (List (List D))
  | [], acc, ρ => .ok acc ρ
  | d :: ds, acc, ρ => (tm d ρ).then fun _ ρ1 => (mk ρ1).then fun y ρ2 => match asList y with
    | some l => makeM tm mk vs ds (acc ++ [l]) (wipeE ρ2 vs)
    | none => .stuck
def sDeep (i : Nat) (it : MI) (tm : TM) (mk : ME) (vs : List Nat) (b : DM) (m3 : SM) : SM := fun ρ => (it ρ).sr fun ds ρ1 => if ds.length ≤ sizeLine ∧ i < ρ1.length then
    (match makeM tm mk vs ds [] (wipeE ρ1 vs) with
    | .ok dss ρe => (match b dss ((unwipe ρ1 ρe vs).set i .no) with
      | .nx dss' ρ2 => m3 (ρ2.set i (.fz (.list (dss'.map PyData.list))))
      | .stuck => .stuck)
    | _ => .stuck) else .stuck
theorem State.setNo (S : State c F ρ σ G H) {i : Nat} {v : V} (hi : i ∉ c.ios) : State c F (ρ.set i .no) (σ.set i (some v)) G H := by
  refine ⟨S.sub, S.fg, S.wf, S.dom, S.tab, S.tabG, by rw [List.length_set, List.length_set]; exact S.len, fun j s e => ?_, fun j k p x y h1 h2 h3 h4 => ?_, fun q hq => ?_, S.ios, S.ioD, S.tupG⟩
  · rcases get_set e with ⟨rfl, rfl⟩ | ⟨ne, e⟩
    · trivial
    · have q := S.sl j s e
      cases s with
      | no => trivial
      | fz d =>
        obtain ⟨u, e1, e2⟩ := q
        exact ⟨u, by rw [List.getElem?_set_ne ne]; exact e1, e2⟩
      | own d =>
        obtain ⟨p, e1, e2⟩ := q
        exact ⟨p, by rw [List.getElem?_set_ne ne]; exact e1, e2⟩
  · rcases get_set h1 with ⟨_, z⟩ | ⟨n1, h1⟩
    · cases z
    · rcases get_set h2 with ⟨_, z⟩ | ⟨n2, h2⟩
      · cases z
      · rw [List.getElem?_set_ne n1] at h3
        rw [List.getElem?_set_ne n2] at h4
        exact S.apart j k p x y h1 h2 h3 h4
  · rw [List.getElem?_set_ne (fun z => mem_ios S hi q hq z.symm)]
    exact S.io q hq
theorem DL.top_set {K : PySem.W.Frag} {p q : Addr} {qs : List Addr} {dss : List (List D)} {l : List D} {xs : List V} (h : DL K F' G p qs dss) (hq : q ∉ p :: qs) (r : RpL K G l xs) :
    DL K ((F'.plus q (.lst xs)).plus p (.lst ((qs ++ [q]).map V.ref))) G p (qs ++ [q]) (dss ++ [l]) := by
  have nd := List.nodup_cons.mp h.nd
  rw [List.mem_cons, not_or] at hq
  refine ⟨by show upd _ p _ p = _; exact upd_same, ?_, by rw [List.length_append, List.length_append, h.len]; rfl, fun j r' ds e1 e2 => ?_⟩
  · refine List.nodup_cons.mpr ⟨fun z => ?_, List.nodup_append.mpr ⟨nd.2, by simp, fun a ha b hb => ?_⟩⟩
    · rcases List.mem_append.mp z with z | z
      · exact nd.1 z
      · exact hq.1 (List.mem_singleton.mp z).symm
    · rw [List.mem_singleton.mp hb]
      exact fun z => hq.2 (by rw [← z]; exact ha)
  · have lt : j < qs.length + 1 := by
      have := (List.getElem?_eq_some_iff.mp e1).1
      rw [List.length_append] at this
      exact this
    have nep : r' ≠ p := fun z => by
      have m := List.mem_of_getElem? e1
      rw [z] at m
      rcases List.mem_append.mp m with m | m
      · exact nd.1 m
      · exact hq.1 (List.mem_singleton.mp m).symm
    by_cases z : j < qs.length
    · rw [List.getElem?_append_left z] at e1
      rw [List.getElem?_append_left (by rw [← h.len]; exact z)] at e2
      obtain ⟨ys, h1, h2⟩ := h.inn j r' ds e1 e2
      refine ⟨ys, ?_, h2⟩
      show upd (upd F'.fg q _) p _ r' = _
      rw [upd_ne nep, upd_ne (fun w => hq.2 (by rw [← w]; exact List.mem_of_getElem? e1))]
      exact h1
    · have ej : j = qs.length := by omega
      subst ej
      rw [List.getElem?_append_right (Nat.le_refl _), Nat.sub_self] at e1
      rw [h.len, List.getElem?_append_right (Nat.le_refl _), Nat.sub_self] at e2
      cases e1
      cases e2
      refine ⟨xs, ?_, r⟩
      show upd (upd F'.fg q _) p _ q = _
      rw [upd_ne nep, upd_same]
theorem frz_all : ∀ (qs : List Addr) (dss : List (List D)) {F : Fr} {ρ : Env} {G : Hp}, State c F ρ σ G H → qs.Nodup → qs.length = dss.length → (∀ (j : Nat) (q : Addr) (ds : List D), qs[j]? = some q → dss[j]? = some ds → NewAt c F ρ σ G H (.list ds) q) →
    ∃ G', State c F ρ σ G' H ∧ GLe G G' ∧ RpL c.K G' (dss.map PyData.list) (qs.map V.ref) ∧ ∀ a, a ∉ qs → G' a = G a
  | [], dss, F, ρ, G, S, _, hl, _ => by
    cases dss with
    | nil => exact ⟨G, S, GLe.refl _, rfl, fun _ _ => rfl⟩
    | cons _ _ => cases hl
  | q :: qs, dss, F, ρ, G, S, hn, hl, h => by
    cases dss with
    | nil => cases hl
    | cons ds dss =>
      have nd := List.nodup_cons.mp hn
      have n0 := h 0 q ds rfl rfl
      obtain ⟨hg, o, ho, hd, hm⟩ := id n0.1
      obtain ⟨S1, g1, r1⟩ := n0.freezeAt S ho
      have rest : ∀ (j : Nat) (r : Addr) (es : List D), qs[j]? = some r → dss[j]? = some es → NewAt c F ρ σ (upd G q o) H (.list es) r := fun j r es e1 e2 => by
        obtain ⟨⟨h1, o2, h2, h3, h4⟩, h5, h6⟩ := h (j + 1) r es e1 e2
        have ne : r ≠ q := fun z => nd.1 (by rw [← z]; exact List.mem_of_getElem? e1)
        exact ⟨⟨by rw [upd_ne ne]; exact h1, o2, h2, h3.mono g1, h4⟩, h5, h6⟩
      obtain ⟨G2, S2, g2, r2, k2⟩ := frz_all qs dss S1 nd.2 (by simpa using hl) rest
      refine ⟨G2, S2, g1.trans g2, ⟨.ref q, _, rfl, Rp.mono g2 _ _ r1, r2⟩, fun a ha => ?_⟩
      rw [List.mem_cons, not_or] at ha
      rw [k2 a ha.2, upd_ne ha.1]
theorem not_own {i : Nat} {q : Addr} {p : Addr} {qs : List Addr} {dss : List (List D)} (S : DS c i F F' ρ σ G H p qs dss) (hq : q ∈ p :: qs) : ∀ (j : Nat) (e : D), ρ[j]? = some (.own e) → σ[j]? ≠ some (some (V.ref q)) := fun j e ej es => by
  obtain ⟨r, e1, _, e3⟩ := S.st.own_at ej
  rw [es] at e1
  cases e1
  have hd : ∃ u, F'.fg q = some u := by
    rcases List.mem_cons.mp hq with z | z
    · exact ⟨_, by rw [z]; exact S.dl.top⟩
    · obtain ⟨k, hk⟩ := List.getElem?_of_mem z
      have hl : k < dss.length := by rw [← S.dl.len]; exact (List.getElem?_eq_some_iff.mp hk).1
      obtain ⟨xs, h1, _⟩ := S.dl.inn k q _ hk (List.getElem?_eq_getElem hl)
      exact ⟨_, h1⟩
  obtain ⟨u, hu⟩ := hd
  rcases e3 with e3 | e3
  · exact e3 (S.st.wf q u hu).1
  · exact (S.st.wf q u hu).2.1 j e3
/-- behind the loop: all is frozen, the slot holds the whole -/
theorem DS.close {i : Nat} {p : Addr} {qs : List Addr} {dss : List (List D)} (S : DS c i F F' ρ σ G H p qs dss) (hi : i ∉ c.ios) : ∃ G', State c F (ρ.set i (.fz (.list (dss.map PyData.list)))) σ G' H ∧ GLe G G' := by
  have S0 := S.st.down S.le
  have nd := List.nodup_cons.mp S.dl.nd
  have hp := S.st.fg p _ S.dl.top
  obtain ⟨G1, S1, g1, r1, k1⟩ := frz_all qs dss S0 nd.2 S.dl.len fun j q ds e1 e2 => by
    obtain ⟨xs, h1, h2⟩ := S.dl.inn j q ds e1 e2
    have hq := S.st.fg q _ h1
    have mq : q ∈ p :: qs := List.mem_cons_of_mem _ (List.mem_of_getElem? e1)
    exact ⟨⟨hq.2.none (fun _ _ z => nomatch z), _, hq.1, .lst h2, trivial⟩, S.nd q mq, not_own S mq⟩
  have np : NewAt c F ρ σ G1 H (.list (dss.map PyData.list)) p := ⟨⟨by rw [k1 p nd.1]; exact hp.2.none (fun _ _ z => nomatch z), _, hp.1, .lst r1, trivial⟩, S.nd p List.mem_cons_self, not_own S List.mem_cons_self⟩
  obtain ⟨S2, g2, r2⟩ := np.freezeAt S1 hp.1
  have z := S2.setFz (i := i) r2 hi
  have e : σ.set i (some (V.ref p)) = σ := by
    obtain ⟨hl, he⟩ := List.getElem?_eq_some_iff.mp S.at_
    rw [← he]
    exact List.set_getElem_self hl
  rw [e] at z
  exact ⟨_, z, g1.trans g2⟩
theorem ss_deep {i : Nat} {y : Str} {py spos : Pos} {elt tg iter : Expr} {scope : Scope} {own : List (Str × Nat)} {it : MI} {ts : List Nat} {tm : TM} {mk : ME} {st2 : Stmt} {rest : List Stmt} {b : DM} {m3 : SM} (hc : X.calm = true) (hN : X.N.Nodup) (hy : X.N[i]? = some y) (hyl : X.env.scope.names.lookup y = some .local) (hio : i ∉ c.ios) (hv : ∀ v ∈ own.map (·.2), v ∉ c.ios) (hts : ∀ v ∈ ts, v ∈ own.map (·.2))
    (hsw : swapsWith (.ListComp elt [⟨tg, iter, [], 0⟩] scope pos) (some (.Name y py)) spos.line X.env = pure true) (hi : PI X tg iter (tI c it)) (ok : BlkOk X.N X.env.scope scope own)
    (hg : ∀ (s : Shared) (H : Hp) (C : Addr) (cl : List (Str × Addr)) (fp : List Addr), PG (X.blk s H scope (compEnvC scope cl C X.env) fp) tg (tG c.nox ts tm))
    (he : ∀ (s : Shared) (H : Hp) (C : Addr) (cl : List (Str × Addr)) (fp : List Addr), PE (X.blk s H scope (compEnvC scope cl C X.env) fp) elt (tF c.nox mk))
    (h2 : PS X st2 (tD c i b)) (h3 : PSs X rest (tS c m3)) (hs : ∀ x, foldedSetIterable iter X.env x = pure x := by intro _; rfl) :
    PSs X (.Assign [.Name y py] (.ListComp elt [⟨tg, iter, [], 0⟩] scope pos) spos :: st2 :: rest) (tS c (sDeep i it tm mk (own.map (·.2)) b m3)) :=
  pss_conseq (pss_cons (ps_setLc hc hN hy hyl hsw hi ok hg (fun _ _ _ _ _ => mts_nil (c := c.nox)) he hs) (pss_cons h2 h3)) fun D σ H ⟨F, ρ, G, S, a⟩ => by
  generalize own.map (·.2) = vs at *
  refine ⟨F, ρ, G, S, (SAsk.sr a).imp (GLe.refl G) fun ds ρ1 k J H1 G1 S1 gl1 ito P hP => ?_⟩
  by_cases hz0 : ds.length ≤ sizeLine ∧ i < ρ1.length
  · rw [if_pos hz0] at k
    have hz := hz0.1
    cases er : makeM tm mk vs ds [] (wipeE ρ1 vs) with
    | stuck => rw [er] at k; exact False.elim k
    | ex e ρ' => rw [er] at k; exact False.elim k
    | ok dss ρe =>
      rw [er] at k
      simp only at k
      have n0 : NewAt c F ρ1 σ G1 (upd H1 P (.lst [])) (.list []) P := NewAt.of S1 hP (.lst rfl) trivial
      have S1' := S1.alloc (o := .lst []) hP trivial
      have nd := n0.2.1
      refine ⟨fun n m' H => m' = ds.length - n ∧ n ≤ ds.length ∧ ∃ F' ρ G acc qs, State c.nox F' ρ (L2.wipe σ vs) G H ∧ FrLe F F' ∧ F'.io = F.io ∧ DL c.K F' G P qs acc ∧ (∀ a ∈ P :: qs, ¬ F.dom a) ∧ GLe G1 G ∧ acc.length ≤ n ∧ makeM tm mk vs (ds.drop n) acc ρ = .ok dss ρe,
        ⟨ds.length, rfl, Nat.zero_le _, F.plus P (.lst []), wipeE ρ1 vs, G1, [], [], ((S1'.plus n0 upd_same).wipe hv).nox, S1.frLe.plus nd, rfl, ⟨by show upd F.fg P _ P = _; exact upd_same, by simp, rfl, fun j q ds e1 _ => by simp at e1⟩, fun a ha => by rw [List.mem_singleton.mp ha]; exact nd, GLe.refl _, Nat.le_refl _, er⟩, ?_⟩
      rintro n m' H2 ⟨rfl, hile, F2, ρ2, G2, acc, qs, S2, le2, io2, dl2, nd2, gl2, hacc, er2⟩
      obtain ⟨h1, h2'⟩ := ito n H2 G2 gl2 S2.sub
      by_cases hlt : n < ds.length
      · obtain ⟨d, ed, edr⟩ := drop_at hlt
        rw [edr] at er2
        obtain ⟨hgo, hyl2⟩ := h1 d ed
        refine .inr ⟨hgo, fun H => ∃ F' ρ G acc qs, State c.nox F' ρ (L2.wipe σ vs) G H ∧ FrLe F F' ∧ F'.io = F.io ∧ DL c.K F' G P qs acc ∧ (∀ a ∈ P :: qs, ¬ F.dom a) ∧ GLe G1 G ∧ acc.length ≤ n + 1 ∧ makeM tm mk vs (ds.drop (n + 1)) acc ρ = .ok dss ρe,
          fun H' ⟨F', ρ', G', acc', qs', q1, q2, q3, q4, q5, q6, q7, q8⟩ => ⟨ds.length - (n + 1), by omega, rfl, hlt, F', ρ', G', acc', qs', q1, q2, q3, q4, q5, q6, q7, q8⟩, fun x H' yy => ?_⟩
        obtain ⟨G3, S3, gl3, r3⟩ := (hyl2 x H' yy).state S2
        have e3 : (tm d ρ2).then (fun _ ρ1 => (mk ρ1).then fun y ρ2 => match asList y with
          | some l => makeM tm mk vs (ds.drop (n + 1)) (acc ++ [l]) (wipeE ρ2 vs)
          | none => .stuck) = .ok dss ρe := er2
        refine ⟨F2, ρ2, G3, d, S3, r3, ?_⟩
        cases et : tm d ρ2 with
        | stuck => rw [et] at e3; cases e3
        | ex e ρ' => rw [et] at e3; cases e3
        | ok u ρ4 =>
          rw [et] at e3
          intro σ4 H4 G4 S4 gl4 ⟨hl4, hk4⟩
          have ew : L2.wipe σ4 vs = L2.wipe σ vs := wipe_eq hl4 fun j hj => hk4 j fun z => hj (hts j z)
          refine ⟨ew, F2, ρ4, G4, S4, ?_⟩
          have g24 := gl3.trans gl4
          intro H5 G5 S5 gl5
          rw [if_pos rfl]
          have g25 := g24.trans gl5
          have e5 : (mk ρ4).then (fun y ρ2 => match asList y with
            | some l => makeM tm mk vs (ds.drop (n + 1)) (acc ++ [l]) (wipeE ρ2 vs)
            | none => .stuck) = .ok dss ρe := e3
          refine ⟨F2, ρ4, G5, S5, ?_⟩
          cases em : mk ρ4 with
          | stuck => rw [em] at e5; cases e5
          | ex e ρ' => rw [em] at e5; cases e5
          | ok yv ρ6 =>
            rw [em] at e5
            intro q H6 G6 S6 gl6 nq
            have e6 : (match asList yv with
              | some l => makeM tm mk vs (ds.drop (n + 1)) (acc ++ [l]) (wipeE ρ6 vs)
              | none => .stuck) = Rs.ok dss ρe := e5
            cases el : asList yv with
            | none => rw [el] at e6; cases e6
            | some l =>
              rw [el] at e6
              have eyv := asList_eq el
              subst eyv
              have g26 := g25.trans gl6
              obtain ⟨hg6, o6, ho6, hd6, hm6⟩ := id nq.1
              cases hd6 with
              | @lst _ xs rx =>
                have dl6 := dl2.mono g26
                have hqn : q ∉ P :: qs := fun z => by
                  refine nq.2.1 ?_
                  rcases List.mem_cons.mp z with z | z
                  · rw [z]; exact (S6.wf P _ dl6.top).1
                  · obtain ⟨k', hk'⟩ := List.getElem?_of_mem z
                    have hl' : k' < acc.length := by rw [← dl6.len]; exact (List.getElem?_eq_some_iff.mp hk').1
                    obtain ⟨ys, w1, _⟩ := dl6.inn k' q _ hk' (List.getElem?_eq_getElem hl')
                    exact (S6.wf q _ w1).1
                have hqP : q ≠ P := fun z => hqn (by rw [z]; exact List.mem_cons_self)
                have S7 := S6.plus nq ho6
                have top7 : (F2.plus q (.lst xs)).fg P = some (.lst (qs.map V.ref)) := by
                  show upd F2.fg q _ P = _
                  rw [upd_ne (fun z => hqP z.symm)]
                  exact dl6.top
                have S8 := S7.reFg (o' := .lst ((qs ++ [q]).map V.ref)) top7 trivial trivial (fun _ z => nomatch z) (fun k r z => by unfold CodeO at z; cases z)
                have ndq : ¬ F.dom q := fun z => nq.2.1 (le2.dom q z)
                refine ⟨qs.map V.ref, (S6.fg P _ dl6.top).1, ?_, F2.plus q (.lst xs) |>.plus P (.lst ((qs ++ [q]).map V.ref)), wipeE ρ6 vs, G6, acc ++ [l], qs ++ [q], ?_, (le2.plus ndq).plus nd, io2, dl6.top_set hqn rx, fun a ha => ?_, gl2.trans g26, by rw [List.length_append]; simp; omega, e6⟩
                · rw [List.length_map, dl6.len]
                  exact Nat.lt_of_le_of_lt hacc (Nat.lt_of_lt_of_le hlt hz)
                · rw [← ew]
                  have em2 : (qs ++ [q]).map V.ref = qs.map V.ref ++ [V.ref q] := by rw [List.map_append]; rfl
                  rw [em2] at S8 ⊢
                  exact S8.wipe hv
                · rcases List.mem_cons.mp ha with z | z
                  · rw [z]; exact nd
                  · rcases List.mem_append.mp z with z | z
                    · exact nd2 a (List.mem_cons_of_mem _ z)
                    · rw [List.mem_singleton.mp z]; exact ndq
      · have e : n = ds.length := by omega
        subst e
        rw [List.drop_length] at er2
        have e2 : Rs.ok acc ρ2 = Rs.ok dss ρe := er2
        injection e2 with e2a e2b
        rw [← e2a, ← e2b] at k
        clear er
        have Sm := State.unwipe S1 S2.yesx gl2 hv io2
        have Sn := Sm.setNo (i := i) (v := V.ref P) hio
        refine .inl ⟨h2' rfl, ?_⟩
        refine ⟨F, F2, _, G2, P, qs, acc, ⟨Sn, le2, dl2, nd2, ?_⟩, ?_⟩
        · have hl : i < σ.length := by
            rw [← S1.len]
            exact hz0.2
          rw [List.getElem?_set_self hl]
        · cases eb : b acc ((unwipe ρ1 ρ2 vs).set i .no) with
          | stuck => rw [eb] at k; exact False.elim k
          | nx dss' ρ3 =>
            rw [eb] at k
            intro F' σ' H' G' S' gl'
            obtain ⟨G9, S9, g9⟩ := S'.close hio
            exact ⟨F, _, G9, S9, SAsk.mono ((gl1.trans gl2).trans (gl'.trans g9)) k⟩
  · rw [if_neg hz0] at k
    exact k.elim
end

set_option autoImplicit false
section
variable {X : Cx}
end
/-- the codes of errors without a field -/
def errNames : List Str := ["BadState", "BadFolk", "BadNumber", "BadStreet", "BadOrder", "NotResting", "NotText"]
def errCodes : List Str := ["state", "folk", "number", "street", "order", "resting", "text"]
/-- the codes of errors with a field, and the fields -/
def fldNames : List Str := ["BadWeb", "BadWalk", "TooMany", "InvalidText"]
def fldCodes : List Str := ["web", "walk", "many", "word"]
def fldFields : List Str := ["index", "index", "most", "word"]
section
variable {X : Cx} {σ : L2.St} {H : Hp} {K : PySem.W.Frag} {D a c : Addr} {b : Bool} {Q : VK}
end
section
variable {X : Cx}
end
theorem State.extN {c : Ct} {F : Fr} {ρ : Env} {σ : L2.St} {G H H1 : Hp} (S : State c F ρ σ G H) (e : ExtN H H1) (t : Tabs c.T H1) (tg : ∀ (q : Addr) (ks : List Key), H1 q = some (.tup (ks.map kV)) → H q = some (.tup (ks.map kV))) : State c F ρ σ G H1 where
  sub := ⟨fun a u h => by
    have nt : ∀ ps, u ≠ .tbl ps := fun ps z => S.sub.2 a ps (by rw [h, z])
    rcases S.sub.1 a u h with q | ⟨hd, o, q⟩
    · exact .inl (e a u q nt)
    · exact .inr ⟨hd, o, e a _ q fun ps z => nomatch z⟩, S.sub.2⟩
  fg := fun a u h => ⟨e a u (S.fg a u h).1 (S.wf a u h).2.2, (S.fg a u h).2⟩
  wf := S.wf
  dom := fun a h => by
    obtain ⟨u, hu, hn⟩ := S.dom a h
    exact ⟨u, e a u hu hn, hn⟩
  tab := t
  tabG := S.tabG
  len := S.len
  sl := fun i s h => (S.sl i s h).mono (GLe.refl G) fun p d _ _ ow => by
    obtain ⟨hg, o, ho, hd, _⟩ := ow
    exact ⟨hg, by rw [ho]; exact e p o ho hd.notTbl.1⟩
  apart := S.apart
  io := S.io
  ios := S.ios
  ioD := S.ioD
  tupG := fun q ks h => S.tupG q ks (tg q ks h)
/-- the code of an error without a field -/
def codeOf (x : Str) : Option Str := (errNames.zip errCodes).lookup x
def codeFOf (x : Str) : Option (Str × Str) := (fldNames.zip (fldCodes.zip fldFields)).lookup x
def mRef (m : ME) : ME := fun ρ => match m ρ with
  | .ok _ ρ' => .ok (.str "") ρ'
  | .ex ⟨x, none⟩ ρ' => (match codeOf x with
    | some w => .ok (.str w) ρ'
    | none => .stuck)
  | .ex ⟨x, some (f, d)⟩ ρ' => (match codeFOf x with
    | some (w, f') => if f = f' then .ok (.tuple [.str w, d]) ρ' else .stuck
    | none => .stuck)
  | .stuck => .stuck

set_option autoImplicit false
/-- no tuple came -/
def TgE (H H1 : Hp) : Prop := ∀ (q : Addr) (xs : List V), H1 q = some (.tup xs) → H q = some (.tup xs)
section
variable {X : Cx} {pins : List (Addr × Obj)} {σ : L2.St} {H : Hp} {s : Shared}
end
section
variable {X : Cx}
end

set_option autoImplicit false
section
variable {X : Cx} {pins : List (Addr × Obj)} {σ : L2.St} {H : Hp} {s : Shared}
end
section
variable {X : Cx} {c : Ct} {F : Fr} {ρ : Env} {σ : L2.St} {G H : Hp} {a b tg : Expr} {p pos tpos : Pos}
/-- a list's or a tuple's items -/
def seqOf : D → Option (Bool × List D)
  | .list ds => some (false, ds)
  | .tuple ds => some (true, ds)
  | _ => none
end

set_option autoImplicit false
theorem ext_tupAt (l : Addr) (xs : Array Value) (n : Nat) (b : Addr) (ys : Array Value) (n2 : Nat) (dd : Option Addr) (sl : Array (Option Value)) (d0 : ¬(!xs.isEmpty && Builtin.List.listTooLong (xs.size + ys.size)) = true) (d1 : xs.size ≤ sizeLine) (d2 : xs.size + ys.size ≤ sizeLine + 1) :
    Meets (Builtin.«list.extend» ⟨[.ref l, .ref b], []⟩) (fun _ R s => s.heap.get? l = some { cls := .type "list", dict := none, data := .seq xs n, slots := #[] } ∧ s.heap.get? b = some { cls := .type "tuple", dict := dd, data := .seq ys n2, slots := sl } ∧
      R (.ok (.ret Value.none)) { s with heap := s.heap.update l (Obj.mapSeq fun x => x ++ ys), toks := s.toks }) :=
  .of_wp fun prog w A R s ⟨hl, hb, h⟩ => by
    obtain ⟨hp, g, d, tk, os⟩ := s
    have f1 := AutoSeq1.idx_int
    have f2 := AutoSeq1.sub_tuple_tuple
    have f3 := AutoSeq1.sub_list_list
    have f4 := AutoSeq1.sub_tuple_list
    have f5 := AutoSeq1.sub_list_tuple
    have fits : (xs ++ ys).size ≤ sizeLine + 1 := by rw [Array.size_append]; exact d2
    wp_walk using (wpAny_updateSeq hl rfl (hz := d1) (_hz' := fits)), wpAny_loadPart' hl, wpAny_loadPart' hb
    exact ⟨_, rfl, h⟩
section
variable {X : Cx} {c : Ct} {F : Fr} {ρ : Env} {σ : L2.St} {G H : Hp} {e : Expr} {pos : Pos}
def rExtT (K : PySem.W.Frag) : V → List V → Hp → VK → Prop := fun x vs H Q => ∃ l b xs zs, x = .ref l ∧ vs = [.ref b] ∧ H l = some (.lst xs) ∧ SqT K H b zs ∧ xs.length + zs.length ≤ sizeLine ∧ Q .non (upd H l (.lst (xs ++ zs)))
theorem mt_extT : MtM X "list.extend" (rExtT X.K) := by
  intro pins s σ H x vs v us Q I rx rv ⟨l, b, xs, zs, e1, e2, hl, hb, hz, q⟩
  subst e1 e2
  cases rx
  obtain ⟨u, eu, ru⟩ := rv.one
  subst eu
  cases ru
  obtain ⟨z, its, n, r, len, ol⟩ := I.lstM hl
  obtain ⟨jts, r2, ⟨⟨cls, dd, data, sl⟩, ob, hc, n2, hd⟩, _⟩ := I.tuple hb
  simp only at hc hd
  subst hc hd
  have l1 := r.length
  have l2 := r2.length
  have small : its.toArray.size + jts.toArray.size ≤ sizeLine := by rw [List.size_toArray, List.size_toArray]; omega
  have door : ¬ (!its.toArray.isEmpty && Builtin.List.listTooLong (its.toArray.size + jts.toArray.size)) = true := by
    rw [notLongL small, Bool.and_false]
    exact Bool.false_ne_true
  refine call_meets F.slot_list_extend ⟨_, ol, rfl⟩ F.entry_list_extend (F.args_list_extend_2 _ _) (ext_tupAt l its.toArray n b jts.toArray n2 dd sl door (Nat.le_trans (Nat.le_add_right _ _) small) (Nat.le_succ_of_le small)) ⟨ol, ob, ?_⟩
  refine ⟨.non, _, I.lset (its' := its ++ jts) hl ol (by simp) (r.append r2) ?_, rfl, q⟩
  rw [List.length_append]
  omega
theorem mt_extA : MtM X "list.extend" (fun x vs H Q => rExtend x vs H Q ∨ rExtT X.K x vs H Q) := fun pins s σ H x xs v us Q I rx rs q => q.elim (mt_extend pins s σ H x xs v us Q I rx rs) (mt_extT pins s σ H x xs v us Q I rx rs)
def mExt (i : Nat) (m : ME) : ME := fun ρ => match ρ[i]? with
  | some (.own (.list _)) => (m ρ).then fun d ρ' => (match seqOf d, ρ'[i]? with
    | some (_, es), some (.own (.list ds)) => if ds.length + es.length ≤ sizeLine then .ok .none (ρ'.set i (.own (.list (ds ++ es)))) else .stuck
    | _, _ => .stuck)
  | _ => .stuck
theorem me_ext {i : Nat} {m : ME} (hK : X.K = c.K) (h : PE X e (tBM X.K "list" (fun x vs H Q => rExtend x vs H Q ∨ rExtT X.K x vs H Q) (tVar i) (tMs c [m]))) : PE X e (tE c (mExt i m)) := pe_conseq h fun σ H Q ⟨F, ρ, G, S, a⟩ => by
  unfold mExt at a
  split at a
  · rename_i ds0 e0
    obtain ⟨p, es, ow, _⟩ := S.own_at e0
    obtain ⟨hg, o, ho, hd, _⟩ := id ow
    cases hd with
    | @lst _ xs r0 =>
      refine ⟨.ref p, es, .inl ⟨rfl, xs, .of ho⟩, F, ρ, G, S, (Ask.then a).imp (GLe.refl G) fun d ρ1 k v H1 G1 S1 gl1 r1 => ?_⟩
      split at k
      · rename_i t es2 ds e2 e1
        obtain ⟨p', es', ow', _⟩ := S1.own_at e1
        rw [es] at es'
        cases es'
        obtain ⟨hg', o', ho', hd', _⟩ := id ow'
        cases hd' with
        | @lst _ ys r2 =>
          by_cases hz : ds.length + es2.length ≤ sizeLine
          · rw [if_pos hz] at k
            cases d <;> simp only [seqOf] at e2 <;> first | cases e2 | skip
            · obtain ⟨b, zs, ev, hb, rz⟩ := r1
              subst ev
              exact .inl ⟨p, b, ys, zs, rfl, rfl, ho', S1.sub.lst hb, by rw [r2.length, rz.length]; exact hz, k .non _ G1 (S1.change e1 es (.lst (r2.append rz)) trivial) gl1 rfl⟩
            · obtain ⟨b, zs, ev, hb, rz⟩ := r1
              subst ev
              rw [hK]
              exact .inr ⟨p, b, ys, zs, rfl, rfl, ho', .inl (.inl (S1.sub.tup hb)), by rw [r2.length, rz.length]; exact hz, k .non _ G1 (S1.change e1 es (.lst (r2.append rz)) trivial) gl1 rfl⟩
          · rw [if_neg hz] at k
            exact k.elim
      · exact k.elim
  · exact a.elim
end

set_option autoImplicit false
inductive PT where
  | nm (i : Nat) | put (i j : Nat)
def tPT : PT → L2.TG
  | .nm i => gName i
  | .put i j => gSub (tVar i) (tVar j) rSetA
def tPTs : List PT → TGs
  | [] => gNil
  | t :: r => gCons (tPT t) (tPTs r)
def asg1 : PT → Bool → D → Env → Option Env
  | .nm i, f, d, ρ => some (ρ.set i (if f = true then .own d else .fz d))
  | .put i j, false, d, ρ => (match at_ ρ j, ρ[i]? with
    | some kd, some (.own cd) => (dPutAt cd kd d).map fun c' => ρ.set i (.own c')
    | _, _ => none)
  | _, _, _, _ => none
def asgP : List PT → List Bool → List D → Env → Option Env
  | [], [], [], ρ => some ρ
  | t :: ts, f :: fs, d :: ds, ρ => (asg1 t f d ρ).bind (asgP ts fs ds)
  | _, _, _, _ => none
section
variable {X : Cx} {c : Ct} {F : Fr} {ρ : Env} {σ : L2.St} {G H : Hp} {pos : Pos}
/-- what waits stands -/
theorem PVs.keep {G' H' : Hp} {ρ' : Env} {σ' : L2.St} (gl : GLe G G') (hk : ∀ (d : D) (p : Addr), NewAt c F ρ σ G H d p → NewAt c F ρ' σ' G' H' d p ∨ False) : ∀ {fs : List Bool} {ds : List D} {vs : List V}, PVs c F ρ σ G H fs ds vs → PVs c F ρ' σ' G' H' fs ds vs
  | [], [], [], _ => trivial
  | false :: fs, d :: ds, v :: vs, h => ⟨Rp.mono gl _ _ h.1, PVs.keep gl hk h.2⟩
  | true :: fs, d :: ds, v :: vs, h => by
    obtain ⟨⟨p, e, n⟩, r⟩ := h
    exact ⟨⟨p, e, (hk d p n).elim id False.elim⟩, PVs.keep gl hk r⟩
theorem PVs.keepN {G' H' : Hp} {ρ' : Env} {σ' : L2.St} (gl : GLe G G') : ∀ {fs : List Bool} {ds : List D} {vs : List V}, (∀ (d : D) (p : Addr), p ∈ newsOf fs vs → NewAt c F ρ σ G H d p → NewAt c F ρ' σ' G' H' d p) → PVs c F ρ σ G H fs ds vs → PVs c F ρ' σ' G' H' fs ds vs
  | [], [], [], _, _ => trivial
  | false :: fs, d :: ds, v :: vs, hk, h => by
    have e : newsOf (false :: fs) (v :: vs) = newsOf fs vs := by cases v <;> rfl
    rw [e] at hk
    exact ⟨Rp.mono gl _ _ h.1, PVs.keepN gl hk h.2⟩
  | true :: fs, d :: ds, v :: vs, hk, h => by
    obtain ⟨⟨p, e, n⟩, r⟩ := h
    subst e
    exact ⟨⟨p, rfl, hk d p List.mem_cons_self n⟩, PVs.keepN gl (fun d q hq => hk d q (List.mem_cons_of_mem _ hq)) r⟩
theorem asgP_ev : ∀ {ts : List PT} {fs : List Bool} {ds : List D} {vs : List V} {ρ : Env} {σ : L2.St} {H : Hp} {ρ' : Env} {Q : L2.St → Hp → Prop}, State c F ρ σ G H → PVs c F ρ σ G H fs ds vs → (newsOf fs vs).Nodup → asgP ts fs ds ρ = some ρ' →
    (∀ t ∈ ts, ∀ i, t = .nm i → i ∉ c.ios) → (∀ σ' H', State c F ρ' σ' G H' → Q σ' H') → tPTs ts vs σ H Q
  | [], [], [], [], ρ, σ, H, ρ', Q, S, _, _, e, _, k => by
    cases e
    exact ⟨rfl, k σ H S⟩
  | t :: ts, f :: fs, d :: ds, [], ρ, σ, H, ρ', Q, S, h, n, e, hio, k => by cases f <;> exact h.elim
  | t :: ts, f :: fs, d :: ds, v :: vs, ρ, σ, H, ρ', Q, S, h, n, e, hio, k => by
    have e' : (asg1 t f d ρ).bind (asgP ts fs ds) = some ρ' := e
    cases ea : asg1 t f d ρ with
    | none => rw [ea] at e'; cases e'
    | some ρ1 =>
      rw [ea] at e'
      have e2 : asgP ts fs ds ρ1 = some ρ' := e'
      have hio2 : ∀ t ∈ ts, ∀ i, t = .nm i → i ∉ c.ios := fun t ht => hio t (List.mem_cons_of_mem _ ht)
      refine ⟨v, vs, rfl, ?_⟩
      cases t with
      | nm i =>
        have hi := hio _ List.mem_cons_self i rfl
        cases ea
        cases f with
        | false =>
          have en : newsOf (false :: fs) (v :: vs) = newsOf fs vs := by cases v <;> rfl
          rw [en] at n
          refine asgP_ev (S.setFz h.1 hi) (PVs.keepN (GLe.refl _) (fun d' p hp n' => ?_) h.2) n e2 hio2 k
          obtain ⟨n1, n2, n3⟩ := n'
          refine ⟨n1, n2, fun j y ej es => ?_⟩
          rcases get_set ej with ⟨_, z⟩ | ⟨ne, ej⟩
          · cases z
          · rw [List.getElem?_set_ne ne] at es
            exact n3 j y ej es
        | true =>
          obtain ⟨⟨q, ev, hn⟩, hr⟩ := h
          subst ev
          have nn := List.nodup_cons.mp (show (q :: newsOf fs vs).Nodup from n)
          refine asgP_ev (S.setOwn hn hi) (PVs.keepN (GLe.refl _) (fun d' p hp n' => ?_) hr) nn.2 e2 hio2 k
          obtain ⟨n1, n2, n3⟩ := n'
          refine ⟨n1, n2, fun j y ej es => ?_⟩
          rcases get_set ej with ⟨rfl, _⟩ | ⟨ne, ej⟩
          · by_cases hlt : i < σ.length
            · rw [List.getElem?_set_self hlt] at es
              cases es
              exact nn.1 hp
            · rw [List.getElem?_eq_none (by rw [List.length_set]; omega)] at es
              cases es
          · rw [List.getElem?_set_ne ne] at es
            exact n3 j y ej es
      | put i j =>
        cases f with
        | true => cases ea
        | false =>
          have en : newsOf (false :: fs) (v :: vs) = newsOf fs vs := by cases v <;> rfl
          rw [en] at n
          have ea' : (match at_ ρ j, ρ[i]? with
            | some kd, some (.own cd) => (dPutAt cd kd d).map fun c' => ρ.set i (.own c')
            | _, _ => none) = some ρ1 := ea
          cases ej : at_ ρ j with
          | none => rw [ej] at ea'; cases ea'
          | some kd =>
            rw [ej] at ea'
            cases ei : ρ[i]? with
            | none => rw [ei] at ea'; cases ea'
            | some sl =>
              rw [ei] at ea'
              cases sl with
              | no => cases ea'
              | fz _ => cases ea'
              | own cd =>
                cases ep : dPutAt cd kd d with
                | none => simp only [ep] at ea'; cases ea'
                | some c' =>
                  simp only [ep] at ea'
                  cases ea'
                  obtain ⟨p, es, ow, _⟩ := S.own_at ei
                  obtain ⟨hg, o, ho, hd, hm⟩ := id ow
                  obtain ⟨y, ey, vy⟩ := S.vw ej
                  refine ⟨_, es, y, ey, ?_⟩
                  refine put_at S.sub ho hd hm vy h.1 ep fun o' H' eH hd' hm' => ?_
                  have e3 : upd H' p o' = upd H p o' := by
                    rcases eH with e | ⟨u, e⟩
                    · rw [e]
                    · rw [e, upd_upd]
                  rw [e3]
                  refine asgP_ev (S.change ei es hd' hm') (PVs.keepN (GLe.refl _) (fun d' q hq n' => ?_) h.2) n e2 hio2 k
                  obtain ⟨⟨m1, m2, m3, m4, m5⟩, n2, n3⟩ := n'
                  have ne : q ≠ p := fun z => n3 i cd ei (by rw [z]; exact es)
                  refine ⟨⟨m1, m2, by rw [upd_ne ne]; exact m3, m4, m5⟩, n2, fun k' x' ek es' => ?_⟩
                  rcases get_set ek with ⟨rfl, _⟩ | ⟨nk, ek⟩
                  · rw [es] at es'
                    cases es'
                    exact ne rfl
                  · exact n3 k' x' ek es'
def sParT (ts : List PT) (ms : List (Bool × ME)) : SM := fun ρ => (evm (ms.map (·.2)) ρ).sr fun ds ρ' => match asgP ts (ms.map (·.1)) ds ρ' with
  | some ρ2 => .nx ρ2
  | none => .stuck
theorem st_parT {ts : List PT} {ms : List (Bool × ME)} {es tgs : List Expr} {k1 k2 : Nat} {p1 p2 : Pos} (hc : X.calm = true) (hK : X.K = c.K) (ha : PA X es (tPs c ms)) (hg : PGs X tgs (tPTs ts)) (hio : ∀ t ∈ ts, ∀ i, t = .nm i → i ∉ c.ios) (hz : ms.length ≤ sizeLine := by decide) (hl : ms.length = ts.length := by rfl)
    (hn : (assignEach tgs X.env).length = ts.length := by rfl) (hst : (assignEach tgs X.env).findIdx? (·.1) = none := by rfl)
    (hs : swapsWithSole [.Tuple tgs k1 p1] (.Tuple es k2 p2) pos.line X.env = pure false := by rfl) (hw : swappedStores [.Tuple tgs k1 p1] (.Tuple es k2 p2) X.env = pure none := by rfl) (h1 : (assignEach [.Tuple tgs k1 p1] X.env).map (·.2) = [assign (.Tuple tgs k1 p1) X.env] := by rfl) :
    PS X (.Assign [.Tuple tgs k1 p1] (.Tuple es k2 p2) pos) (tS c (sParT ts ms)) := ps_conseq (ps_asg (pe_tup ha) (pg_tup hc hg hn hst) hs hw h1) fun D σ H ⟨F, ρ, G, S, a⟩ => by
  refine tPs_ev S ((SAsk.sr a).imp (GLe.refl G) fun ds ρ1 k vs H1 G1 S1 gl1 pv n => ?_)
  have lv := pv.len
  rw [List.length_map] at lv
  refine ⟨by rw [lv]; exact hz, fun T hT => ?_⟩
  have S2 := S1.add (o := .tup vs) hT
  have gT : GLe G1 (upd G1 T (.tup vs)) := GLe.upd (S1.gnone hT)
  refine ⟨T, vs, rfl, .of upd_same, by rw [lv, hl], ?_⟩
  cases e : asgP ts (ms.map (·.1)) ds ρ1 with
  | none => rw [e] at k; exact k.elim
  | some ρ2 =>
    rw [e] at k
    refine asgP_ev S2 (PVs.keepN gT (fun d p hp n' => ?_) pv) n e hio fun σ' H' S' => k σ' H' _ S' (gl1.trans gT)
    obtain ⟨⟨m1, m2, m3, m4, m5⟩, n2, n3⟩ := n'
    have ne : p ≠ T := fun z => by rw [z, hT] at m3; cases m3
    exact ⟨⟨by rw [upd_ne ne]; exact m1, m2, by rw [upd_ne ne]; exact m3, m4.mono gT, m5⟩, n2, n3⟩
theorem gt_nil : PGs X [] (tPTs []) := pgs_nil
theorem gt_nm {i : Nat} {x : Str} {tgs : List Expr} {ts : List PT} (hN : X.N.Nodup) (hi : X.N[i]? = some x) (hx : Loc X.env.scope x) (hr : PGs X tgs (tPTs ts)) (hf : X.fn x = true ∨ X.env.scope.names.lookup x = some .local := by first | exact .inl rfl | exact .inr rfl)
    (hs : (assignEach (.Name x pos :: tgs) X.env).map (·.2) = assign (.Name x pos) X.env :: (assignEach tgs X.env).map (·.2) := by rfl) : PGs X (.Name x pos :: tgs) (tPTs (.nm i :: ts)) := pgs_cons (pg_name hN hi hx hf) hr hs
theorem gt_put {i j : Nat} {tg : Expr} {tgs : List Expr} {ts : List PT} (h : PG X tg (gSub (tVar i) (tVar j) rSetA)) (hr : PGs X tgs (tPTs ts))
    (hs : (assignEach (tg :: tgs) X.env).map (·.2) = assign tg X.env :: (assignEach tgs X.env).map (·.2) := by rfl) : PGs X (tg :: tgs) (tPTs (.put i j :: ts)) := pgs_cons h hr hs
end

set_option autoImplicit false
section
variable {X : Cx} {c : Ct}
end
/-- the law's own promise, from its M-function: at a script's marker it answers True -/
def scrD (ns : List Int) : D := .dict [(.none, .list (ns.map PyData.int))]
theorem law_sp {K : PySem.W.Frag} {mg : Str → Option Value} {T : List (Addr × Str)} {f : FM} {H : Hp} {a : Addr} {ns : List Int} (hT : ∀ t ∈ T, H t.1 = some (.tbl #[])) (hS : SqL K H a (ns.map V.int)) (hf : f [.fz (scrD ns)] = .ok (.bool true) []) :
    spM K T mg 1 f [.ref a] H (fun v _ => v = .bl true) fun _ _ _ => False := by
  let G : Hp := fun b => match H b with
    | some (.tbl _) => none
    | o => o
  have g1 : ∀ b u, G b = some u ↔ H b = some u ∧ ∀ ps, u ≠ .tbl ps := fun b u => by
    show (match H b with
      | some (.tbl _) => none
      | o => o) = some u ↔ _
    constructor
    · intro h
      split at h
      · cases h
      · rename_i o hn
        exact ⟨h, fun ps z => hn ps (by rw [h, z])⟩
    · rintro ⟨h, n⟩
      split
      · rename_i ps e
        rw [h] at e
        exact absurd (Option.some.inj e) (n ps)
      · exact h
  refine ⟨rfl, G, [.fz (scrD ns)], ⟨fun b u h => .inl ((g1 b u).mp h).1, fun b ps h => ((g1 b _).mp h).2 ps rfl⟩, fun t ht => TabS.nil (hT t ht), fun t ht => ?_, fun q ks h => (g1 q _).mpr ⟨h, fun ps z => nomatch z⟩, ⟨⟨a, rfl, .inr (.inr ⟨ns, rfl, ?_⟩)⟩, trivial⟩, List.nodup_nil, ?_⟩
  · cases e : G t.1 with
    | none => rfl
    | some u =>
      obtain ⟨h1, h2⟩ := (g1 _ _).mp e
      rw [hT t ht] at h1
      exact absurd (Option.some.inj h1).symm (h2 _)
  · rcases hS with (h | ⟨o, h⟩) | h
    · exact .inl (.inl ((g1 _ _).mpr ⟨h, fun ps z => nomatch z⟩))
    · exact .inl (.inr ⟨o, (g1 _ _).mpr ⟨h, fun ps z => nomatch z⟩⟩)
    · exact .inr h
  · rw [hf]
    intro v H' G' _ r _
    exact r
theorem cal_none {P : Program} {w : World} {K : PySem.W.Frag} {mg : Str → Option Value} {base : Heap} {T : List (Addr × Str)} {f : Addr} {fd : FuncData} {ps : List Str} {n : Nat} (hl : ps.length = n) : FnOk P w K mg base (L2.CX P w) 0 f fd ps (spM K T mg n fun _ => .stuck) :=
  ⟨fun vs H Q E h => by rw [h.1, hl], fun A outer s H args us vs Q E _ _ _ _ h => by
    obtain ⟨_, _, _, _, _, _, _, _, _, z⟩ := h
    exact z.elim⟩
theorem Cal.mono {P : Program} {w : World} {K : PySem.W.Frag} {mg : Str → Option Value} {base : Heap} {T : List (Addr × Str)} {x : Str} {i j n : Nat} {f : FM} (h : Cal P w K mg base T x i n f) (hij : i ≤ j) : Cal P w K mg base T x j n f := by
  obtain ⟨fa, fd, ps, F, r⟩ := h
  exact ⟨fa, fd, ps, F.mono hij, r⟩
theorem cx_no {P : Program} {w : World} {o : List PySem.Env} {H : Hp} {s : Shared} {e : Value} {s' : Shared} (h : L2.CX P w o H s (fun _ _ _ => False) e s') : False := by
  obtain ⟨_, _, _, _, _, h⟩ := h
  exact h.2.2.2.2.2.2.2

set_option autoImplicit false
/-- the lambda's names: its parameters are no names of the maker's -/
structure LamD (N : List Str) (sc scope : Scope) : Prop where
  kind : scope.kind = .function
  co : scope.isCoroutine = false
  gen : scope.isGenerator = false
  cell : ∀ y ∈ scope.names, y.2 ≠ .cell
  own : ∀ y ∈ scope.names, y.2 = .local → y.1 ∉ N
  free : ∀ y ∈ scope.names, y.2 = .free → sc.names.lookup y.1 = some .cell ∨ sc.names.lookup y.1 = some .free
theorem LamD.has {X : Cx} {N : List Str} {scope : Scope} (L : LamD N X.env.scope scope) (ok : X.Ok) : ∀ y ∈ scope.names, y.2 = .free → ∃ c, X.env.cells.lookup y.1 = some c := fun y hy e => by
  rcases L.free y hy e with k | k
  · exact ok.has _ (.inl k)
  · exact ok.has _ (.inr k)
section
variable {X : Cx} {pins : List (Addr × Obj)} {σ : L2.St} {H HZ : Hp} {s s1 : Shared}
abbrev lamFn (q : Str) (pa : Arguments) (bo : Expr) (sc : Scope) (clz : List (Str × Addr)) (dV doc pmV cdv ct : Value) : FuncData := PySem.W.kdv_fn "<lambda>" q pa (.expr bo) sc clz dV doc pmV cdv ct
abbrev lamOb (q : Str) (pa : Arguments) (bo : Expr) (sc : Scope) (clz : List (Str × Addr)) (dV doc pmV : Value) (c' : Addr) (ct : Value) : Obj := PySem.W.kdv_obj "<lambda>" q pa (.expr bo) sc clz dV doc pmV c' ct
end

set_option autoImplicit false
theorem among_more {p : Pos} {c : Value} (l m : Array Value) (hl : codeAmong p l.toList = some c) : codeAmong p (l ++ m).toList = some c := by
  rw [show (l ++ m).toList = l.toList ++ m.toList by simp]
  generalize l.toList = l at *
  generalize m.toList = m at *
  fun_induction codeAmong p l with
  | case1 line a col b d rest h =>
    simp only [List.cons_append, codeAmong]
    rw [if_pos h]
    exact hl
  | case2 line a col b d rest h ih =>
    simp only [List.cons_append, codeAmong]
    rw [if_neg h]
    exact ih hl
  | case3 => cases hl
section
variable {X : Cx} {pins : List (Addr × Obj)} {σ : L2.St} {H : Hp} {s : Shared}
end

set_option autoImplicit false
def FnO (a : Addr) (o : Obj) : HO := .ext fun h => h.get? a = some o
theorem fnO_ok {P : Program} {w : World} {H : Hp} {h : Heap} {a : Addr} {o : Obj} (e : h.get? a = some o) : ObjOk P w H h a (FnO a o) := ⟨e, ⟨_, e⟩, fun h1 h2 q k => k _ q⟩
theorem fnO_tbl {a : Addr} {o : Obj} (ps : Array Value) : FnO a o ≠ .tbl ps := fun z => by
  unfold FnO at z
  cases z
theorem fnO_get {P : Program} {w : World} {H : Hp} {h : Heap} {a : Addr} {o : Obj} (x : HOk P w H h) (e : H a = some (FnO a o)) : h.get? a = some o := (show ObjOk P w H h a (.ext fun h => h.get? a = some o) from x a _ e).1
section
variable {X : Cx} {pins : List (Addr × Obj)} {σ : L2.St} {H J : Hp} {s s2 : Shared}
theorem inv_know {a : Addr} {o : Obj} (I0 : Inv X pins σ H s) (I2 : Inv X pins σ J s2) (hge : s.heap.objs.size ≤ a) (hg : s2.heap.get? a = some o) (hJ : J a = none) : Inv X pins σ (upd J a (FnO a o)) s2 := by
  have lt_ne : ∀ {b : Addr} {u : Obj}, s.heap.get? b = some u → b ≠ a := fun {b u} e z => by
    rw [z] at e
    exact absurd (Nat.lt_of_lt_of_le (Heap.lt_size e) hge) (Nat.lt_irrefl _)
  have s0_ne : ∀ b u, X.s_0.heap.get? b = some u → b ∉ X.ex → b ≠ a := fun b u e hx => by
    obtain ⟨u', e'⟩ := I0.base.there b u e hx
    exact lt_ne e'
  exact {
    ok := I2.ok
    os := I2.os
    bare := I2.bare
    base := ⟨I2.base.keep, I2.base.slot, fun b u e n hx => by rw [upd_ne (s0_ne b u e hx)]; exact I2.base.free b u e n hx, I2.base.there, fun b xs e => by
        have := I2.base.tups b xs e
        rw [upd_ne (ne_of_none this hJ)]; exact this, fun b u v e => by
        have := I2.base.frzs b u v e
        rw [upd_ne (ne_of_none this hJ)]; exact this, fun b ps e => by
        obtain ⟨more, h⟩ := I2.base.tbls b ps e
        exact ⟨more, by rw [upd_ne (ne_of_none h hJ)]; exact h⟩⟩
    loc := I2.loc
    cell := I2.cell
    free := by
      have : X.env.locals ≠ a := fun z => by
        have lt := I0.lt
        rw [z] at lt
        exact absurd (Nat.lt_of_lt_of_le lt hge) (Nat.lt_irrefl _)
      rw [upd_ne this]; exact I2.free
    freeC := fun x c e => by
      obtain ⟨v, ob, ho, _⟩ := I0.cell x c e
      rw [upd_ne (lt_ne ho)]; exact I2.freeC x c e
    pin := fun p hp => by
      obtain ⟨h1, h2, h3⟩ := I2.pin p hp
      exact ⟨h1, by rw [upd_ne (lt_ne (I0.pin p hp).1)]; exact h2, h3⟩
    hok := fun b u e => by
      by_cases z : b = a
      · subst z
        rw [upd_same] at e
        cases e
        exact fnO_ok hg
      · rw [upd_ne z] at e
        exact (I2.hok b u e).stay (fun c v _ q => q) (fun c q => by rw [upd_ne (ne_of_none q hJ)]; exact q) fun c xs q => by rw [upd_ne (ne_of_none q hJ)]; exact q
    len := I2.len }
end
section
variable {X : Cx}
end

set_option autoImplicit false
section
variable {X : Cx}
end

set_option autoImplicit false
structure LSp where
  pa : Arguments
  bo : Expr
  sc : Scope
  pos : Pos
  bnd : List (Str × Value) → Prop
  m : ME
abbrev lamOf (X : Cx) (sp : LSp) (dV doc pm : Value) (d : Addr) (ct : Value) : Obj := lamOb (X.env.qual ++ "<lambda>") sp.pa sp.bo sp.sc (cloFrom X.env.cells sp.sc.names []) dV doc pm d ct
/-- v is such a lambda, as G and the table tell -/
def LamG (X : Cx) (G : Hp) (tab : Array Value) (sp : LSp) (v : V) : Prop :=
  ∃ (f d : Addr) (dV doc pm ct : Value) (ts : List (Addr × Obj)) (binds : List (Str × Value)), v = .ref f ∧ G f = some (FnO f (lamOf X sp dV doc pm d ct)) ∧ codeAmong sp.pos tab.toList = some (.ref d) ∧ sp.bnd binds ∧ (∀ p ∈ ts, G p.1 = some (FnO p.1 p.2)) ∧
    ∀ s3 : Shared, (∀ p ∈ ts, s3.heap.get? p.1 = some p.2) → BindsTo s3 (lamFn (X.env.qual ++ "<lambda>") sp.pa sp.bo sp.sc (cloFrom X.env.cells sp.sc.names []) dV doc pm (.ref d) ct) ⟨[], []⟩ binds
theorem LamG.mono {X : Cx} {G G' : Hp} {tab : Array Value} {sp : LSp} {v : V} (h : LamG X G tab sp v) (gl : GLe G G') (more : Array Value) : LamG X G' (tab ++ more) sp v := by
  obtain ⟨f, d, dV, doc, pm, ct, ts, binds, e, hf, hc, hb, ht, hB⟩ := h
  exact ⟨f, d, dV, doc, pm, ct, ts, binds, e, gl _ _ hf, among_more _ _ hc, hb, fun p hp => gl _ _ (ht p hp), hB⟩
section
variable {X : Cx} {c : Ct} {F : Fr} {ρ : Env} {σ : L2.St} {G H : Hp} {P : Addr}
end

set_option autoImplicit false
section
variable {X : Cx} {c : Ct} {P : Addr}
end

set_option autoImplicit false
section
variable {X : Cx} {c : Ct} {P : Addr} {sps : List LSp} {i : Nat}
end

set_option autoImplicit false
section
variable {X : Cx} {c : Ct} {P co : Addr} {k : Nat} {pa : Arguments} {bo : Expr} {sc : Scope} {ps0 : Pos}
end

set_option autoImplicit false
section
variable {X : Cx} {c : Ct} {P : Addr} {e : Expr}
end

set_option autoImplicit false

set_option autoImplicit false
section
variable {X : Cx} {c : Ct} {F : Fr} {ρ : Env} {σ : L2.St} {G H : Hp} {a b d tg : Expr} {p pos tpos : Pos}
end

set_option autoImplicit false

set_option autoImplicit false
theorem tuple_mul1 (l : Addr) (items : Array Value) (n : Nat) (dd : Option Addr) (sl : Array (Option Value)) (u : Tok) :
    Meets (Builtin.«tuple.__mul__» ⟨[.ref l, .int 1 u], []⟩) (fun _ R s => s.heap.get? l = some { cls := .type "tuple", dict := dd, data := .seq items n, slots := sl } ∧ R (.ok (.ret (Value.ref l))) s) :=
  .of_wp fun prog w A R s h => by
    obtain ⟨hp, g, d, tk, os⟩ := s
    obtain ⟨hl, h⟩ := h
    have f1 := AutoSeq1.idx_int
    have c0 : (decide ((1 : Int) < -(2 ^ 63)) || decide ((1 : Int) ≥ 2 ^ 63)) = false := by decide
    have c1 : (items.isEmpty || (1 : Int) == 1) = true := by simp
    wp_walk using wpAny_loadPart' hl
    repeat (first
      | (refine wpAny_ite_false (decide_eq_false (by rw [c0]; exact Bool.false_ne_true)) ?_; wp_walk using wpAny_loadPart' hl)
      | (refine wpAny_ite_true (decide_eq_true (by rw [c1])) ?_; wp_walk using wpAny_loadPart' hl))
    exact ⟨_, rfl, h⟩
def rRepT1 (K : PySem.W.Frag) : R2 := fun x y H Q => ∃ l xs, x = .ref l ∧ y = .int 1 ∧ SqT K H l xs ∧ xs ≠ [] ∧ xs.length ≤ 1000 ∧ Q (.ref l) H
theorem op_repT1 {X : Cx} : OpR X (binaryOp .Mult) (rRepT1 X.K) := by
  intro pins s σ H x y v u Q I rx ry h
  obtain ⟨l, xs, rfl, rfl, hT, hne, hz, q⟩ := h
  cases rx
  obtain ⟨t, rfl⟩ := ry
  obtain ⟨its, r, ⟨⟨cls, dd, data, sl⟩, ho, hc, n, hd⟩, hs⟩ := I.tuple hT
  simp only at hc hd
  subst hc hd
  refine wpAny_binaryOp_repeat_ref (T := "tuple") (U := "int") (by decide) ⟨_, ho, rfl⟩ (fun s' => typeIs_int s' 1 t) noFill_tuple_mul F.fills_int_mul F.slot_int_rmul repeat_tuple F.slot_int_index.lookup
    (call_meets F.slot_int_rmul (typeIs_int s 1 t) F.entry_int_rmul (F.args_int_rmul_2 _ _) (int_rmul_tuple 1 t l its.toArray n dd sl)
      ⟨ho, rfl, ⟨_, ho, rfl⟩, call_meets F.slot_tuple_mul ⟨_, ho, rfl⟩ F.entry_tuple_mul (F.args_tuple_mul_2 _ _) (tuple_mul1 l its.toArray n dd sl t) ⟨ho, ?_⟩⟩)
  exact ⟨.ref l, H, I, rfl, q⟩
def dRepT : D → D → Option D
  | .tuple a, .int k => if a ≠ [] ∧ a.length ≤ 1000 ∧ 1 ≤ k ∧ k ≤ 1000 then some (.tuple (reps a k)) else none
  | _, _ => none
abbrev rRepTA (K : PySem.W.Frag) : R2 := fun x y H Q => rRepT1 K x y H Q ∨ rRepT K x y H Q
theorem op_repTA {X : Cx} : OpR X (binaryOp .Mult) (rRepTA X.K) := op_repT1.or op_repT
theorem p_repTA {K : PySem.W.Frag} : Prim2 K dRepT (rRepTA K) := fun G H x y d1 d2 d Q s v1 v2 e q => by
  cases d1 <;> cases d2 <;> simp only [dRepT] at e <;> first | cases e | skip
  rename_i ds k
  split at e
  · rename_i h
    cases e
    obtain ⟨hn, hl, h1, h2⟩ := h
    obtain ⟨a, xs, rfl, ha, ga, ra⟩ := v1.tup s
    have hxn : xs ≠ [] := fun z => hn (List.eq_nil_of_length_eq_zero (by rw [← ra.length, z]; rfl))
    by_cases hk : k = 1
    · subst hk
      refine .inl ⟨a, xs, rfl, v2.int, .inl (.inl ha), hxn, by rw [ra.length]; exact hl, q _ H (.inl ⟨rfl, a, xs, rfl, ga, ?_⟩)⟩
      show RpL K G (List.replicate 1 ds).flatten xs
      simpa using ra
    · exact .inr ⟨a, k, xs, rfl, v2.int, .inl (.inl ha), hxn, by omega, h2, by rw [ra.length]; exact hl, fun p hp => q _ _ (.inr ⟨p, _, rfl, hp, rfl, .tup (ra.reps _)⟩)⟩
  · cases e

set_option autoImplicit false
def encT (b : List Int) : PyData := .tuple (b.map PyData.int)
theorem each_vals {Rx : V → List Int → Prop} : ∀ {xs : List V} {us : List Value} {bs : List (List Int)}, Vals xs us → PySem.W.EachIs Rx xs bs → PySem.W.EachIs (fun v b => ∃ x, RelV x v ∧ Rx x b) us bs
  | _, _, _, .nil, .nil => .nil
  | _, _, _, .cons r t, .cons h e => .cons ⟨_, r, h⟩ (each_vals t e)
theorem vals_each {Rx : V → List Int → Prop} : ∀ {us : List Value} {bs : List (List Int)}, PySem.W.EachIs (fun v b => ∃ x, RelV x v ∧ Rx x b) us bs → ∃ xs, Vals xs us ∧ PySem.W.EachIs Rx xs bs
  | _, _, .nil => ⟨[], .nil, .nil⟩
  | _, _, .cons ⟨x, r, h⟩ e => by
    obtain ⟨xs, t, e'⟩ := vals_each e
    exact ⟨x :: xs, .cons r t, .cons h e'⟩
section
variable {X : Cx} {c : Ct} {F : Fr} {ρ : Env} {σ : L2.St} {G H : Hp} {K : PySem.W.Frag} {e : Expr} {p pos : Pos}
theorem RpL.each {G : Hp} : ∀ {bs : List (List Int)} {vs : List V}, RpL K G (bs.map encT) vs → PySem.W.EachIs (fun v b => Rp K G (encT b) v) vs bs
  | [], _, h => by cases (show _ = _ from h); exact .nil
  | b :: bs, _, ⟨v, r, e, h, t⟩ => by
    subst e
    exact .cons h (RpL.each t)
theorem RpL.of_each {G : Hp} : ∀ {bs : List (List Int)} {vs : List V}, PySem.W.EachIs (fun v b => Rp K G (encT b) v) vs bs → RpL K G (bs.map encT) vs
  | _, _, .nil => rfl
  | _, _, .cons h t => ⟨_, _, rfl, h, RpL.of_each t⟩
theorem no_encT (b : List Int) : okD (encT b) = true := by
  have h : ∀ l : List Int, PyData.canLayAll0 (l.map PyData.int) = true := fun l => by
    induction l with
    | nil => simp [PyData.canLayAll0]
    | cons x l ih => simp only [List.map_cons, PyData.canLayAll0, PyData.canLay0, ih, Bool.and_self]
  unfold okD SeqAt.shaped encT
  simp only [PyData.canLay0, PyData.depth, h, PySem.W.depth_ints, Bool.true_and]
  decide
end

set_option autoImplicit false
section
variable {X : Cx} {o e f : Expr} {apos cpos : Pos} {td ty tx : TE}
end
section
variable {X : Cx} {c : Ct} {e : Expr}
end

set_option autoImplicit false
/-- the built-in __init__, bound, called: nothing of it is told -/
theorem call_mw {X : Cx} {pins : List (Addr × Obj)} {σ : L2.St} {H : Hp} {s : Shared} {a C u : Addr} {us : List Value} {A : Around} {E : Value → Shared → Prop} {Q : Value → Shared → Prop} (T : OexC X.K C) (I : Inv X pins σ H s) (e : H a = some (exo a C none))
    (hu : s.heap.get? u = some (PySem.W.kxs_mw "ValueError.__init__" a)) (hl : us.length ≤ sizeLine) (h : ∀ s', Inv X pins σ H s' → Q .none s') : wpAny (model X.prog X.w) A (call (.ref u) us) Q E s := by
  obtain ⟨nm, q, N, bs, bm, sn, sub, ab, col, dd, k0, k1, k2, k3, k5, hC, hbm⟩ := T.cls
  obtain ⟨t1, ho⟩ := exo_at I.hok e
  have fin : ∀ h', (∀ b o, b ≠ a → s.heap.get? b = some o → h'.get? b = some o) → h'.get? a = some ({ cls := .ref C, dict := none, data := .fields #[.ref s.heap.objs.size, .none, .none, .none, .bool false, .none] } : Obj) → Q .none { s with heap := h' } := fun h' k hx => by
    have J := I.write (t' := s.toks) (x := a) (e := a) (o := exo a C none) (by rw [e]; exact True.intro) (.inl rfl) k ⟨_, hx⟩ (exo_ok hx)
    have eu : upd H a (exo a C none) = H := by
      funext b
      by_cases hb : b = a
      · rw [hb, upd_same, e]
      · rw [upd_ne hb]
    rw [eu] at J
    exact h _ J
  have hC' := I.kIn _ _ hC
  obtain ⟨hh, g, d, tk, os⟩ := s
  refine wpAny_call (codeAny_of_tree ?_)
  show wpAny _ A.in1 (callAny (.ref u) ⟨us, []⟩) _ _ _
  simp only [callAny]
  refine wpAny_bind (wpAny_load hu ?_)
  simp only [PySem.W.kxs_mw, show (Value.type "method-wrapper" == Value.type "method" || Value.type "method-wrapper" == Value.type "builtin_function_or_method" || Value.type "method-wrapper" == Value.type "method-wrapper") = true by decide, if_true]
  refine PySem.W.KFB.if_so (by decide) ?_
  refine wpAny_bind (PySem.W.check_bound_init F.excBase_ValueError.toExcCallFacts hC' ho rfl ?_)
  refine wpAny_bind (wpAny_pure (wpAny_pure ?_))
  refine ⟨plainId_quiet F.excBase_ValueError.init.plain _, codeAny_builtin F.excBase_ValueError.initEntry ?_⟩
  exact PySem.W.exc_init_tree (cls := .ref C) (t0 := t1) (dv := none) (c2 := .none) (c3 := .none) (b4 := .bool false) ho hl fun h' k hx _ => fin h' k hx
theorem wpAt_mcall {prog : Program} {w : World} {A : Around} {c : Code} {E : Value → Shared → Prop} {s : Shared} {env : PySem.Env} {o : Expr} {name : Str} {apos pos : Pos} {e : Expr} {Q : Value → Shared → Prop}
    (he : starEach [e] env = (false, eval e env) :: starEach [] env) (hline : (apos.endLine == pos.line) = true)
    (h : ∀ pl, _root_.PySem.wpAt (model prog w) A c (attributeBase o name env (eval o env)) (fun ov s₁ => wpAny (model prog w) A (getMethod ov name pl) (fun fx s₂ => wpAny (model prog w) A (callWith pos fx.1 fx.2 (backTo pos (starEach [e] env)) []) Q E s₂) E s₁) E s) :
    _root_.PySem.wpAt (model prog w) A c (eval (.Call (.Attribute o name apos) [e] [] pos) env) Q E s := by
  rw [arm_eval_Call]
  refine _root_.PySem.wpAt_bind (_root_.PySem.wpAt_mono (h (do return (← importBound o env).getD true)) (fun ov s₁ h₁ => wpAt_of_wpAny (wpAny_bind (wpAny_standAt ?_))) fun _ _ x => x)
  have hform : methodCallForm (([e] : List Expr).length + ([] : List Keyword).length) (backTo pos (starEach [e] env)) (backToKw pos (keywordEach [] env)) = true := by
    rw [he]
    rfl
  have hpos : methodCallPos true o env apos pos = pure pos := by unfold methodCallPos; simp [hline]
  unfold methodCall
  rw [hform]
  refine wpAny_bind (wpAny_holding (wpAny_mono h₁ (fun fx s₂ h₂ => ?_) fun _ _ x => x))
  exact wpAny_bind (wpAny_of_eq hpos h₂)
/-- the body -/
def sinitBody (x fld : Str) (p0 p1 p2 p3 p4 p5 q0 q1 q2 q3 : Pos) : List Stmt :=
  [.Expr (.Call (.Attribute (.Call (.Name "super" p0) [] [] p1) "__init__" p2) [.Name x p3] [] p4) p5, .Assign [.Attribute (.Name "self" q0) fld q1] (.Name x q2) q3]
def spI (C : Addr) (fld : Str) : Sp := fun vs H Q E => ∃ a v, vs = [.ref a, v] ∧ H a = some (exo a C none) ∧ ∀ dx, H dx = none → dx ≠ a → Q .non (upd (upd H dx (exd dx [(fld, v)])) a (exo a C (some dx)))
theorem fnOk_sinit {P : Program} {w : World} {K : PySem.W.Frag} {mg : Str → Option Value} {base : Heap} {CX : CXT} {k : Nat} {C fI cda cc : Addr} {name qual fld x : Str} {params : Arguments} {scope : Scope} {p0 p1 p2 p3 p4 p5 q0 q1 q2 q3 : Pos}
    {doc pm ct kV oc : Value} {an od : Option Addr} {osl ccs csl : Array (Option Value)} {ccl cl : Value} {cdd cld : Option Addr} {vs : Array Value} {file : Str} {tf : Tok} {ar : PySem.Arg}
    (T : OexC K C)
    (hf : K.lookup fI = some ⟨oc, od, .func (PySem.W.fnX name qual params (sinitBody x fld p0 p1 p2 p3 p4 p5 q0 q1 q2 q3) scope [("__class__", cc)] .none kV doc pm an (.ref cda) ct), osl⟩)
    (hcd : PySem.W.codeIn K (.ref cda) qual = true)
    (hcode : K.lookup cda = some ⟨ccl, cdd, .fields vs, ccs⟩) (hvs : vs[2]? = some (.str file tf)) (hfile : ((P.main.file : Str) == file) = true)
    (hcell : K.lookup cc = some ⟨cl, cld, .cell (some (.ref C)), csl⟩)
    (hp : (params.posonlyargs ++ params.args).head? = some ar) (har : ar.arg = "self")
    (S : NdefX.NScope ["self", x, "__class__"] ["self", x] ["__class__"] scope)
    (hks : scope.names.lookup ("super" : Str) = some .globalImplicit) (htop : (P.main.scope.names.lookup ("super" : Str)).isSome = false) (hsuper : mg "super" = none)
    (hop : PySem.W.nsIn K cStatics "thirdparty.any" = some none)
    (hsub : PySem.W.mroIn K C (.ref C) = some true) (hVE : PySem.W.mroIn K C (.type "ValueError") = some true)
    (hinit : PySem.W.ks_superIn K C C "__init__" = some (some (.builtin "ValueError.__init__")))
    (hno : PySem.W.findIn K (.ref C) fld = some none) (hline : (p2.endLine == p4.line) = true) (hdb : (x == ("__debug__" : Str)) = false) (hdc : (x == ("__classdict__" : Str)) = false) : FnOk P w K mg base CX (k + 1) fI (PySem.W.fnX name qual params (sinitBody x fld p0 p1 p2 p3 p4 p5 q0 q1 q2 q3) scope [("__class__", cc)] .none kV doc pm an (.ref cda) ct) ["self", x] (spI C fld) := by
  refine ⟨fun vs H Q E ⟨a, v, e, _⟩ => by rw [e]; rfl, fun A outer s H args us vs Q E hr e0 hb hv ⟨a, v, ev, ha, hq⟩ => ?_⟩
  subst ev
  obtain ⟨hh, gs, dr, tk, os⟩ := s
  have KIn : K.In hh := e0.mod.kin.keeps fun b o e => (e0.bs b o e).1
  have lim : hh.NoLimit := e0.mod.nolimit.keeps fun b o e => (e0.bs b o e).1
  have kb : ∀ b o, K.lookup b = some o → H b = none := fun b o e => (e0.bs b o (e0.mod.kin b o e)).2
  let NFx : NdefX.NF := ⟨name, qual, params, sinitBody x fld p0 p1 p2 p3 p4 p5 q0 q1 q2 q3, scope, [("__class__", cc)], cda⟩
  have Cs : NdefX.CellsAt NFx.cl ["__class__"] [none] hh H := by
    have hone : ∀ (y : Str) (c : Addr), NFx.cl.lookup y = some c → y = ("__class__" : Str) ∧ c = cc := fun y c e => by
      have e' : (match y == ("__class__" : Str) with | true => some cc | false => none) = some c := e
      cases hy : y == ("__class__" : Str) with
      | true => rw [hy] at e'; cases e'; exact ⟨eq_of_beq hy, rfl⟩
      | false => rw [hy] at e'; cases e'
    refine ⟨rfl, fun y c e => ?_, fun y z c e1 e2 => ((hone y c e1).1).trans ((hone z c e2).1).symm, fun i y e => ?_⟩
    · obtain ⟨_, rfl⟩ := hone y c e
      exact ⟨kb _ _ hcell, _, _, KIn _ _ hcell, rfl⟩
    · cases i with
      | zero => cases e; exact ⟨cc, rfl, fun v z => by cases z⟩
      | succ i => cases e
  refine PySem.ks_codeAny_call_defAt (binds := (["self", x] : List Str).zip us) hr.depth (KIn _ _ hf) rfl lim (PySem.W.codeRec_of KIn hcd) rfl hb S.nocell (fun y hy => ?_) (fun h₁ hns hk₁ => ?_) S.co S.gen S.kind
  · obtain ⟨n, u⟩ := y
    exact S.par n (List.of_mem_zip hy).1
  have I1 := NdefX.inv_startN (CX := CX) (E := E) (f := fI) (F := NFx) (ws := [none]) (tk := tk + ((["self", x] : List Str).zip us).length) S hr.hd e0 rfl hv Cs hns hk₁
  obtain ⟨u0, u, rfl⟩ : ∃ u0 u, us = [u0, u] := by
    cases hv with
    | cons r t => cases t with
      | cons r2 t2 => cases t2; exact ⟨_, _, rfl⟩
  obtain rfl : u0 = Value.ref a := by cases hv with | cons r t => exact r
  obtain ⟨nm, q, N, bs, bm, sn, sub, ab, col, dd, k0, k1, k2, k3, k5, hC, hbm⟩ := T.cls
  have hcl : PySem.W.clsIn K C = some { name := nm, bases := bs, mro := .ref C :: bm, ns := N, qualname := q, hasDict := true, slotNames := sn, subclasses := sub, abstract := ab, collection := col, hasDel := false } := by unfold PySem.W.clsIn; rw [hC] <;> rfl
  obtain ⟨t1, ho⟩ := exo_at I1.hok ha
  have loc1 : ∀ (i : Nat) (y : Str) (v' : V), (["self", x, "__class__"] : List Str)[i]? = some y → y ∈ (["self", x] : List Str) → (NdefX.startF ["self", x, "__class__"] [V.ref a, v] [none])[i]? = some (some v') → ∃ m u, h₁.Ns hh.objs.size m ∧ m y = some u ∧ RelV v' u ∧ scope.names.lookup y = some .local := fun i y v' e1 e2 e3 => by
    obtain ⟨m, hn, hl⟩ := I1.loc
    have hlk := S.par y e2
    obtain ⟨u', r, l⟩ := hl i y v' e1 e3 (.inl hlk)
    rcases l with ⟨_, l⟩ | ⟨l, _⟩
    · exact ⟨m, u', hn, l, r, hlk⟩
    · have l' : scope.names.lookup y = some .cell ∨ scope.names.lookup y = some .free := l
      rw [hlk] at l'
      rcases l' with l' | l' <;> cases l'
  obtain ⟨m0, u1, hn0, hm0, ru1, hl0⟩ := loc1 0 "self" (.ref a) rfl (by simp) rfl
  obtain rfl : u1 = Value.ref a := ru1
  have hxC : a ≠ C := fun z => by rw [z] at ha; rw [kb _ _ hC] at ha; cases ha
  have hkc : scope.names.lookup ("__class__" : Str) = some .free := S.frk _ (by simp)
  unfold sinitBody
  have hD1 := hk₁ _ _ (KIn _ _ hC)
  obtain ⟨mb, b1, b2⟩ := I1.mod.blt
  refine PySem.ks_wpAt_execs_cons (PySem.ks_wpAt_Expr_any (wpAt_mcall rfl hline fun pl => PySem.ks_wpAt_super_base (f := fI) (cc := cda) (ar := ar) hks hkc (by decide) rfl (hk₁ _ _ (KIn _ _ hf)) rfl hp rfl (hk₁ _ _ (KIn _ _ hcode)) rfl hvs hfile htop ?_) (by show (scope.kind == .module && _) = false; rw [S.kind]; rfl))
  refine PySem.W.ks_loadName_global S.kind hks (Calls.loadGlobal_builtin (mg := mg) (mb := mb) (I1.mod.glob.keeps I1.bk) hsuper (b1.keeps I1.bk) ((b2 "super" (by decide)).trans (by decide +kernel : bootBuiltins "super" = some (.type "super"))) ⟨rfl, ?_⟩)
  refine wpAny_loadName_free S.kind hkc rfl ⟨_, hk₁ _ _ (KIn _ _ hcell), rfl⟩ ?_
  refine wpAny_loadName_local S.kind (by rw [har]; exact hl0) hn0 (by rw [har]; exact hm0) ?_
  refine PySem.ks_wpAny_isType_cls hD1 rfl ⟨rfl, ?_⟩
  refine PySem.ks_wpAny_call_super hD1 rfl ho rfl (fun c e => nomatch e) (PySem.W.looks_mroIn (KIn.keeps hk₁) hsub) (fun h2 hso keep => ?_)
  have I2 := I1.kept (t' := tk + ((["self", x] : List Str).zip [Value.ref a, u]).length) keep
  have KI2 : K.In h2 := (KIn.keeps hk₁).keeps keep
  have hin : PySem.W.alongIn K "__init__" (((Value.ref C :: bm).dropWhile (· != .ref C)).drop 1) = some (some (.builtin "ValueError.__init__")) := by
    unfold PySem.W.ks_superIn at hinit
    rw [hcl] at hinit
    exact hinit
  have IA : PySem.W.InstAt h2 a _ C none := ⟨keep _ _ ho, rfl, rfl, trivial⟩
  refine PySem.W.kxs_getMethod PySem.W.kxs_ValueError hso (PySem.W.looks_opaque KI2 hop) (l₀ := .ref C :: bm) (fun A Q E s k q => wpAny_bind ((PySem.W.looks_clsIn KI2 hcl) A _ E s k (wpAny_pure q))) rfl KI2 hin (IA.type.andThen (PySem.W.looks_mroIn KI2 hVE)) hxC (by decide) ?_
  have I3 := I2.kept (h' := h2.push (PySem.W.kxs_mw "ValueError.__init__" a)) (t' := tk + ((["self", x] : List Str).zip [Value.ref a, u]).length + 1) fun b o e => Heap.get?_push_of_some _ e
  have hmw : (h2.push (PySem.W.kxs_mw "ValueError.__init__" a)).get? h2.objs.size = some (PySem.W.kxs_mw "ValueError.__init__" a) := Heap.get?_push_size _ rfl
  obtain ⟨m3, hn3, hl3⟩ := I3.loc
  obtain ⟨u3, r3, l3⟩ := hl3 1 x v rfl rfl (.inl (S.par x (by simp)))
  have hm3 : m3 x = some u3 := by
    rcases l3 with ⟨_, l⟩ | ⟨l, _⟩
    · exact l
    · have l' : scope.names.lookup x = some .cell ∨ scope.names.lookup x = some .free := l
      rw [S.par x (by simp)] at l'
      rcases l' with l' | l' <;> cases l'
  show wpAny _ _ (callWith p4 (.ref h2.objs.size) [] [(false, eval (.Name x p3) _)] []) _ _ _
  refine PySem.W.kxs_callWith (i := "ValueError.__init__") (x := a) rfl (Calls.evalArgs_plain (Calls.spliced_cons (wpAny_Name (wpAny_loadName_local S.kind (S.par x (by simp)) hn3 hm3 (Calls.spliced_nil ⟨hmw, ?_⟩)) hdb)))
  refine call_mw (us := [u3]) T I3 ha hmw (by show 1 ≤ sizeLine; rw [sizeLine_eq]; omega) fun s4 I4 => ?_
  have hsw : swapsWith (.Name x q2) (some (.Attribute (.Name "self" q0) fld q1)) q3.line (NdefX.envF NFx fI hh.objs.size) = pure false := rfl
  have body := pss_one (ps_ost (f := fld) (pos := q3) (p' := q1) (pe_var (X := NdefX.ncx CX P w K mg base ["self", x, "__class__"] NFx fI A outer ⟨hh, gs, dr, tk, os⟩ H E) (i := 0) (x := "self") (pos := q0) rfl (.inl (S.par _ (by simp))) (by decide) (by decide))
    (pe_var (X := NdefX.ncx CX P w K mg base ["self", x, "__class__"] NFx fI A outer ⟨hh, gs, dr, tk, os⟩ H E) (i := 1) (x := x) (pos := q2) rfl (.inl (S.par x (by simp))) hdb hdc) hsw)
  refine wpAt_of_wpAny (wpAny_mono (body.run [] s4 _ H { nx := fun _ H' => Q .non H', rt := Q } I4 ?_) (fun fl s' hs => ?_) fun e s' hs => hs)
  · exact ⟨v, rfl, .ref a, rfl, a, C, rfl, T, hno, .inl ⟨ha, fun dx h1 h2 => hq dx h1 h2⟩⟩
  · have fin : ∀ {σ' : L2.St} {H' : Hp} {v : V} {u : Value}, Inv (NdefX.ncx CX P w K mg base ["self", x, "__class__"] NFx fI A outer ⟨hh, gs, dr, tk, os⟩ H E) [] σ' H' s' → RelV v u → Q v H' → CE outer P w H ⟨hh, gs, dr, tk, os⟩ Q u s' :=
      fun {σ' H' v u} J rv q => ⟨v, H', J.os, J.bare, J.base, J.hok, rv, q⟩
    cases fl with
    | ret u =>
      obtain ⟨v, σ', H', J, rv, q⟩ := hs
      exact fin J rv q
    | next =>
      obtain ⟨σ', H', J, q⟩ := hs
      exact fin (v := V.non) (u := Value.none) J rfl q
    | brk =>
      obtain ⟨_, _, _, q⟩ := hs
      exact False.elim q
    | cont =>
      obtain ⟨_, _, _, q⟩ := hs
      exact False.elim q

set_option autoImplicit false
open PySem PySem.Spec PySem.Calls PyProof.Rows L2 LamX PySem.W
section
variable {P0 : Program} {w0 : World} {A0 : Around} {E0 : Value → Shared → Prop} {s0 : Shared} {K0 : PySem.W.Frag} {y C : Addr} {oy : Obj} {oD : Option Obj}
end
def sRaiseF (x f : Str) (m : ME) : SM := fun ρ => (m ρ).sr fun d ρ' => .ex ⟨x, some (f, d)⟩ ρ'
/-- an own error of the text with an __init__ that keeps its argument in the field f -/
def ERF (P : Program) (w : World) (K : PySem.W.Frag) (mg : Str → Option Value) (base : Heap) (x f : Str) : Prop := ∃ C fI fd ps, mg x = some (.ref C) ∧ OexC K C ∧ PySem.W.findIn K (.ref C) "__init__" = some (some (.ref fI)) ∧ PySem.W.typeIn K (.ref fI) = some (.type "function") ∧
  (∀ k, FnOk P w K mg base C8.CX0 (k + 1) fI fd ps (spI C f)) ∧ Binds K fd ps []
theorem State.allocX {c : Ct} {F : Fr} {ρ : Env} {σ : L2.St} {G H : Hp} (S : State c F ρ σ G H) {p : Addr} {fs : List (Str × V)} (h : H p = none) : State c F ρ σ G (upd H p (.xd fs)) := by
  have tg : ∀ (q : Addr) (ks : List Key), upd H p (.xd fs) q = some (.tup (ks.map kV)) → G q = some (.tup (ks.map kV)) := fun q ks e => by
    by_cases z : q = p
    · rw [z, upd_same] at e; cases e
    · rw [upd_ne z] at e; exact S.tupG q ks e
  obtain ⟨h1, h2, h3, h4, h5⟩ := S.alloc0 h fun q ks e => .inl (tg q ks e)
  exact ⟨h1, h2, S.wf, h3, h4, S.tabG, S.len, h5, S.apart, S.io, S.ios, S.ioD, tg⟩
section
variable {X : Cx} {c : Ct} {e : Expr} {m : ME} {p pos pos' : Pos} {x f : Str} {k : Nat}
theorem st_raiseF (hc : X.calm = true) (tk : Takes X c.W) (h : ERF X.prog X.w X.K X.mg X.base x f) (hG : c.mg = X.mg) (hK : X.K = c.K) (hr : Room (k + 2) X.A) (hg : Gl X x) (he : PE X e (tE c m)) (hdb : (x == ("__debug__" : Str)) = false := by decide)
    (hst : starEach [e] X.env = (false, eval e X.env) :: starEach [] X.env := by rfl) : PS X (.Raise (some (.Call (.Name x p) [e] [] pos)) none pos') (tS c (sRaiseF x f m)) := by
  obtain ⟨C, fI, fd, ps, gC, T, iC, tI, F1, hb⟩ := h
  refine ps_conseq (ps_raise hc tk (pmk_oex (ta := tMs c [m]) T iC tI (F1 k) hr hb .nil (fun _ _ _ _ _ _ _ z => z.elim) hg gC (ms_cons he ms_nil (hs := hst)) hdb hst rfl)) fun D σ H ⟨F, ρ, G, S, a⟩ => ?_
  unfold sRaiseF at a
  refine ⟨F, ρ, G, S, (SAsk.sr a).imp (GLe.refl G) fun d ρ1 q v H1 G1 S1 gl1 r1 => ?_⟩
  refine ⟨by simp, fun y hy => ⟨y, v, rfl, upd_same, fun dx hdx ne => ⟨rfl, dx, [(f, v)], upd_same, by rw [upd_ne ne]; exact upd_same, ?_, ?_⟩⟩⟩
  · rw [upd_ne ne] at hdx; exact hdx
  · have hdx1 : H1 dx = none := by rw [upd_ne ne] at hdx; exact hdx
    have eH : upd (del (upd (upd (upd H1 y (exo y C none)) dx (exd dx [(f, v)])) y (exo y C (some dx))) y) dx (.xd [(f, v)]) = upd H1 dx (.xd [(f, v)]) := by
      funext b
      by_cases h1 : b = dx
      · rw [h1, upd_same, upd_same]
      · rw [upd_ne h1, upd_ne h1]
        by_cases h2 : b = y
        · rw [h2, del_same, hy]
        · rw [del_ne h2, upd_ne h2, upd_ne h1, upd_ne h2]
    rw [eH]
    exact q (.ref C) (some dx) σ _ G1 (S1.allocX hdx1) gl1 ⟨C, by rw [hG]; exact gC, rfl, dx, v, rfl, upd_same, r1⟩
end

set_option autoImplicit false
/-- the first def of a class -/
def initOf : Stmt → Stmt
  | .ClassDef (body := b :: _) .. => b
  | s => s
theorem erf_of {P : Program} {w : World} {K : PySem.W.Frag} {mg : Str → Option Value} {C fI cda cc : Addr} {name qual n fld x : Str} {params : Arguments} {body : List Stmt} {scope : Scope} {p0 p1 p2 p3 p4 p5 q0 q1 q2 q3 : Pos}
    {doc pm ct kV oc : Value} {an od : Option Addr} {osl ccs csl : Array (Option Value)} {ccl cl : Value} {cdd cld : Option Addr} {vs : Array Value} {file : Str} {tf : Tok} {ar : PySem.Arg}
    {nm q : Str} {N : Addr} {bs bm : List Value} {sn : List Str} {sub : List Value} {ab : Bool} {col : Option Bool} {dd : Option Addr} {k0 k1 k2 k3 k5 : Option Value}
    (gC : mg n = some (.ref C)) (hC : K.lookup C = some (excClassObj nm q C N bs bm true sn sub ab col dd k0 k1 k2 k3 k5 "ValueError.__new__")) (hbm : PySem.HandSPX.refsVE bm = true)
    (sa : PySem.W.findIn K (.ref C) "__setattr__" = some (some (.builtin "object.__setattr__"))) (exC : PySem.W.subIn K (.ref C) (.type "BaseException") = some true) (tyC : PySem.W.typeIn K (.ref C) = some (.type "type")) (kC : PySem.W.keepIn K (.ref C) = true)
    (iC : PySem.W.findIn K (.ref C) "__init__" = some (some (.ref fI))) (tI : PySem.W.typeIn K (.ref fI) = some (.type "function"))
    (hf : K.lookup fI = some ⟨oc, od, .func (PySem.W.fnX name qual params body scope [("__class__", cc)] .none kV doc pm an (.ref cda) ct), osl⟩) (hcd : PySem.W.codeIn K (.ref cda) qual = true)
    (hcode : K.lookup cda = some ⟨ccl, cdd, .fields vs, ccs⟩) (hvs : vs[2]? = some (.str file tf)) (hfile : ((P.main.file : Str) == file) = true) (htop : (P.main.scope.names.lookup ("super" : Str)).isSome = false)
    (hcell : K.lookup cc = some ⟨cl, cld, .cell (some (.ref C)), csl⟩) (hsuper : mg "super" = none) (hop : PySem.W.nsIn K cStatics "thirdparty.any" = some none)
    (hsub : PySem.W.mroIn K C (.ref C) = some true) (hVE : PySem.W.mroIn K C (.type "ValueError") = some true) (hinit : PySem.W.ks_superIn K C C "__init__" = some (some (.builtin "ValueError.__init__"))) (hno : PySem.W.findIn K (.ref C) fld = some none)
    (hbody : body = sinitBody x fld p0 p1 p2 p3 p4 p5 q0 q1 q2 q3 := by rfl) (hp : (params.posonlyargs ++ params.args).head? = some ar := by rfl) (har : ar.arg = "self" := by rfl) (S : NdefX.NScope ["self", x, "__class__"] ["self", x] ["__class__"] scope := by exact NdefX.nscope_by (by decide +kernel))
    (hks : scope.names.lookup ("super" : Str) = some .globalImplicit := by decide +kernel) (hline : (p2.endLine == p4.line) = true := by rfl) (hdb : (x == ("__debug__" : Str)) = false := by decide) (hdc : (x == ("__classdict__" : Str)) = false := by decide)
    (hb : ∀ us : List Value, us.length = 2 → bindArgs (PySem.W.fnX name qual params body scope [("__class__", cc)] .none kV doc pm an (.ref cda) ct) ⟨us, []⟩ = pure ((["self", x] : List Str).zip us) := by intro us hl; exact (match us, hl with | [_, _], _ => rfl)) : ∀ base, ERF P w K mg base n fld := fun base => by
  subst hbody
  have T : OexC K C := ⟨⟨nm, q, N, bs, bm, sn, sub, ab, col, dd, k0, k1, k2, k3, k5, hC, hbm⟩, sa, exC, tyC, kC⟩
  exact ⟨C, fI, _, ["self", x], gC, T, iC, tI, fun k => fnOk_sinit T hf hcd hcode hvs hfile hcell hp har S hks htop hsuper hop hsub hVE hinit hno hline hdb hdc, Binds.all fun us hl => hb us hl⟩

set_option autoImplicit false
section
variable {X : Cx} {c : Ct} {e : Expr}
end

set_option autoImplicit false
section
variable {P : Program} {w : World} {A : Around} {E : Value → Shared → Prop} {s : Shared}
set_option maxHeartbeats 6400000 in
end

set_option autoImplicit true
section
variable {X : Cx} {c : Ct} {F : Fr} {ρ : Env} {σ : L2.St} {G H : Hp} {e tg iter : Expr}
end

set_option autoImplicit true
section
variable {X : Cx} {c : Ct} {F : Fr} {ρ : Env} {σ : L2.St} {G H : Hp}
theorem Tabs.turn {T : List (Addr × Str)} {d : Addr} {u o : HO} (h : Tabs T H) (hd : H d = some u) (h1 : ∀ ps, u ≠ .tbl ps) (h2 : ∀ k r, u ≠ CodeO k r) : Tabs T (upd H d o) := fun t ht => by
  obtain ⟨ps, t1, t2, t3⟩ := h t ht
  have n1 : t.1 ≠ d := fun z => by
    rw [z, hd] at t1
    exact h1 _ (Option.some.inj t1)
  refine ⟨ps, by rw [upd_ne n1]; exact t1, t2, fun pos cv hc => ?_⟩
  obtain ⟨k, k1, k2⟩ := t3 pos cv hc
  refine ⟨k, k1, ?_⟩
  rw [upd_ne fun z => ?_]
  · exact k2
  · rw [z, hd] at k2
    exact h2 _ _ (Option.some.inj k2)
end
section
variable {X : Cx} {c : Ct} {F : Fr} {ρ : Env} {σ : L2.St} {G H : Hp} {tg e : Expr} {body : List Stmt} {pos : Pos}
end

set_option autoImplicit true
section
variable {X : Cx}
end

set_option autoImplicit true
section
variable {X : Cx} {c : Ct} {F : Fr} {ρ : Env} {σ : L2.St} {G H : Hp} {kx vx tg iter : Expr} {scope : Scope} {own : List (Str × Nat)} {pos : Pos} {it : MI} {ts : List Nat} {tm : TM} {ek ev : ME}
end

set_option autoImplicit true
section
variable {X : Cx} {c : Ct} {a b : Expr} {p p2 pos pos2 : Pos}
end

set_option autoImplicit true

set_option autoImplicit false
section
variable {X : Cx} {x n x2 : Str} {c c2 : Value} {i : Nat} {body su su2 : List Stmt} {b₀ b₂ : Stmt} {np pos p1 np2 p2 : Pos} {tb : WX → TS} {ts ts2 : Addr → Value → Option Addr → TS}
end
section
variable {X : Cx} {c : Ct}
end

set_option autoImplicit false
section
variable {X : Cx} {pins : List (Addr × Obj)} {σ : L2.St} {H HZ : Hp} {s s1 : Shared}
end
section
variable {X : Cx} {pins : List (Addr × Obj)} {σ : L2.St} {H HZ : Hp} {s s1 : Shared}
end
section
variable {X : Cx}
end
section
variable {X : Cx} {c : Ct}
end
section
variable {X : Cx} {c : Ct}
end
section
variable {X : Cx} {c : Ct} {P co : Addr} {k : Nat} {pa : Arguments} {bo : Expr} {sc : Scope} {ps0 : Pos}
end

set_option autoImplicit false
theorem reads_intsAll {h : Heap} : ∀ {vs : List Value} {l : List Int} {as : List Addr}, ReadsAll h vs (l.map PyData.int) as → as = []
  | _, [], _, .nil => rfl
  | _, i :: l, _, .cons (as := a) (bs := b) r t => by
    cases r
    rw [reads_intsAll t]
    rfl
theorem readsAll_len {h : Heap} : ∀ {vs : List Value} {ds : List PyData} {as : List Addr}, ReadsAll h vs ds as → vs.length = ds.length
  | _, _, _, .nil => rfl
  | _, _, _, .cons _ t => by rw [List.length_cons, List.length_cons, readsAll_len t]
theorem reads_tup {h : Heap} {v : Value} {l : List Int} {as : List Addr} (r : Reads h v (encT l) as) : ∃ a its, v = .ref a ∧ IsTup h a its ∧ its.size = l.length ∧ as = [] := by
  unfold encT at r
  cases r with
  | tuple ho hc hd hr =>
    refine ⟨_, _, rfl, ⟨_, ho, hc, _, hd⟩, ?_, reads_intsAll hr⟩
    have := readsAll_len hr
    rw [List.length_map] at this
    rw [← this]
    simp
def keyT (l : List Int) : PyData := .tuple [.int l.length, encT l]
def sortK (bs : List (List Int)) : List (List Int) := bs.mergeSort (PySem.W.dataLe false keyT)
abbrev keyE (x len : Str) (p1 p2 p3 p4 p5 : Pos) (k0 : Nat) : Expr := .Tuple [.Call (.Name len p1) [.Name x p2] [] p3, .Name x p4] k0 p5
section
variable {X : Cx} {pins : List (Addr × Obj)} {σ : L2.St} {J : Hp} {s2 : Shared}
theorem key_call {f c' : Addr} {dV doc pmV ctV : Value} {pas : Arguments} {scp : Scope} {x : Str} {p1 p2 p3 p4 p5 : Pos} {k0 : Nat} (I2 : Inv X pins σ J s2)
    (hf : s2.heap.get? f = some (lamOb (X.env.qual ++ "<lambda>") pas (keyE x "len" p1 p2 p3 p4 p5 k0) scp (cloFrom X.env.cells scp.names []) dV doc pmV c' ctV)) (hc : J c' = some (CodeO c' (X.env.qual ++ "<lambda>")))
    (kd : scp.kind = .function) (co : scp.isCoroutine = false) (gen : scp.isGenerator = false) (nc : ∀ y ∈ scp.names, y.2 ≠ .cell) (hx : scp.names.lookup x = some .local) (hl : scp.names.lookup ("len" : Str) = some .globalImplicit) (hd : (x == ("__debug__" : Str)) = false)
    (hb : ∀ (q : Str) (cl : List (Str × Addr)) (pm cv ctv v : Value), bindArgs (lamFn q pas (keyE x "len" p1 p2 p3 p4 p5 k0) scp cl dV doc pm cv ctv) ⟨[v], []⟩ = pure [(x, v)]) (hln : X.mg "len" = none) (hdp : X.A.in1.in1.depth < recursionLimit)
    {v : Value} {l : List Int} {as : List Addr} (r : Reads s2.heap v (encT l) as) (hz : l.length ≤ sizeLine) (h : Heap) (tk : Nat) (kp : ∀ b o, s2.heap.get? b = some o → h.get? b = some o) :
    wpAny (model X.prog X.w) X.A.in1.in1 (call (.ref f) [v]) (PySem.W.KeyPure (keyT l) { s2 with heap := h, toks := tk }) (fun _ _ => False) { s2 with heap := h, toks := tk } := by
  have Ih : Inv X pins σ J { s2 with heap := h, toks := tk } := I2.kept (t' := tk) kp
  have objF := kp _ _ hf
  obtain ⟨⟨oc, vs, t, ocx, dcx, vcx⟩, _, _⟩ := Ih.hok c' _ hc
  have r1 : Reads h v (encT l) as := PyProof.Rows.Reads.keeps kp r
  have run : codeAny (model X.prog X.w) X.A.in1.in1 (.call (.ref f) ⟨[v], []⟩) (fun q s' => match q with
      | .ok (.ret u) => PySem.W.KeyPure (keyT l) { s2 with heap := h, toks := tk } u s'
      | _ => False) { s2 with heap := h, toks := tk } := by
    refine PySem.W.kla_callFunE hdp objF rfl co gen rfl ⟨c', oc, vs, t, rfl, ocx, dcx, vcx⟩ ?_
    refine (BindsTo.of_eq (hb _ _ _ _ _ v)) _ _ _ _ (wpAny_newFunctionEnv (fun y hyx => nc y hyx) (fun y hy => by rw [List.mem_singleton.mp hy]; exact hx) (fun heap1 nsF sbF => ⟨Ih.nolimit.fresh _ sbF, ?_⟩) kd)
    have keepF : ∀ b o, h.get? b = some o → heap1.get? b = some o := fun b o e => sbF.extBut b o (Nat.ne_of_lt (Heap.lt_size e)) (Heap.get?_push_of_some _ e)
    show codeAny _ _ (.expr (keyE x "len" p1 p2 p3 p4 p5 k0) (lamEnv X scp h.objs.size f c')) _ _
    refine PySem.W.kla_codeExpr ?_
    have bk : ∀ b o, X.base.get? b = some o → heap1.get? b = some o := fun b o e => keepF b o (Ih.bk b o e)
    have nmx : ∀ {A : Around} {p : Pos} {tk1 : Nat} {Q E : Value → Shared → Prop}, Q v { s2 with heap := heap1, toks := tk1 } → wpAny (model X.prog X.w) A (eval (.Name x p) (lamEnv X scp h.objs.size f c')) Q E { s2 with heap := heap1, toks := tk1 } := fun {A p tk1 Q E} q =>
      wpAny_Name (wpAny_loadName_local kd hx nsF (by show List.lookup x [(x, v)] = some v; simp) q) hd
    have nml : ∀ {A : Around} {p : Pos} {tk1 : Nat} {Q E : Value → Shared → Prop}, Q (.builtin "len") { s2 with heap := heap1, toks := tk1 } → wpAny (model X.prog X.w) A (eval (.Name "len" p) (lamEnv X scp h.objs.size f c')) Q E { s2 with heap := heap1, toks := tk1 } := fun {A p tk1 Q E} q => by
      obtain ⟨mb, h1, h2⟩ := Ih.mod.blt
      exact Calls.Name_function_global kd hl (Calls.loadGlobal_builtin (Ih.mod.glob.keeps bk) hln (h1.keeps bk) ((h2 _ (by decide)).trans boot_len) q) (by decide)
    obtain ⟨a, its, ev, pl, hsz, rfl⟩ := reads_tup r1
    have pl1 : IsTup heap1 a its := by
      obtain ⟨o, ho, hc, n, hd⟩ := pl
      exact ⟨o, keepF _ _ ho, hc, n, hd⟩
    have n63 := line63
    refine wpAny_Tuple_spliced ?_
    refine Calls.spliced_cons ?_
    refine wpAny_Call_Name_kw (nml ?_)
    refine PyProof.Rows.callWith_builtin1 ?_ rfl rfl
    refine Calls.spliced_cons (nmx (Calls.spliced_nil ?_))
    subst ev
    refine len_tuple pl1 (by omega) ?_
    refine Calls.spliced_cons (nmx (Calls.spliced_nil ⟨(show 2 ≤ sizeLine by decide), ?_⟩))
    refine ⟨_, _, rfl, fun b o e => Heap.get?_push_of_some _ (keepF b o e), ?_⟩
    have r2 : Reads (heap1.push { cls := .type "tuple", data := .seq [Value.int its.size (tk + 1 + 1), .ref a].toArray }) (.ref a) (encT l) [] := PyProof.Rows.Reads.keeps (fun b o e => Heap.get?_push_of_some _ (keepF b o e)) r1
    have hn : ((its.size : Nat) : Int) = (l.length : Int) := by rw [hsz]
    refine Reads.tuple (as := []) (Heap.get?_push_size _ rfl) rfl rfl ?_
    exact ReadsAll.cons (as := []) (bs := []) (by rw [← hn]; exact Reads.int _ _) (ReadsAll.cons (as := []) (bs := []) r2 .nil)
  refine wpAny_call (codeAny_mono run fun q s' hq => ?_)
  match q, hq with
  | .ok (.ret u), hq => exact hq
  | .ok .next, hq => exact False.elim hq
  | .ok .brk, hq => exact False.elim hq
  | .ok .cont, hq => exact False.elim hq
  | .error e, hq => exact False.elim hq
end
section
variable {X : Cx} {pins : List (Addr × Obj)} {σ : L2.St} {H : Hp} {s : Shared}
theorem lam_mkR {T : List (Addr × Str)} {co P : Addr} {pa : Arguments} {bo : Expr} {sc : Scope} {ps0 : Pos} {E : Value → Shared → Prop} {Q : Value → Shared → Prop} (I : Inv X pins σ H s) (B : TabB X.base X.mg co P) (hco : X.env.code = .ref co)
    (inT : (P, X.env.qual ++ "<lambda>") ∈ T) (oneT : ∀ t ∈ T, t.1 = P → t.2 = X.env.qual ++ "<lambda>") (tabs : Tabs T H) (nodef : defaultsOf pa X.env = ([], [])) (fr : ∀ y ∈ sc.names, y.2 = .free → ∃ z, X.env.cells.lookup y.1 = some z)
    (k : ∀ (f d : Addr) (pm ct : Value) (J : Hp) (s2 : Shared), Inv X pins σ J s2 → ExtN H J → TgE H J → Tabs T J → s2.heap.get? f = some (lamOb (X.env.qual ++ "<lambda>") pa bo sc (cloFrom X.env.cells sc.names []) .none .none pm d ct) → J f = none →
      J d = some (CodeO d (X.env.qual ++ "<lambda>")) → s.heap.objs.size ≤ f → Q (.ref f) s2) :
    wpAny (model X.prog X.w) X.A (eval (.Lambda pa bo sc ps0) X.env) Q E s := by
  obtain ⟨tr, atP, trOk, trIn⟩ := tabs _ inT
  have atP2 : s.heap.get? P = some { cls := .none, data := .fields tr } := I.hok P _ atP
  have bls : s.heap.BuiltinsAt X.mg P := B.bm.keeps I.bk
  have away : ∀ g, s.heap.objs.size ≤ g → g ∉ frs X.stack := fun g hg mem => by
    rcases List.mem_cons.mp (I.stkSub _ mem) with e | e
    · have lt := I.lt
      rw [← e] at lt
      exact absurd (Nat.lt_of_lt_of_le lt hg) (Nat.lt_irrefl _)
    · exact I.nofs hg e
  refine PySem.W.kla_eval nodef ?_
  cases found : codeAmong ps0 tr.toList with
  | some cv =>
    obtain ⟨d, ed, hd⟩ := trIn ps0 cv found
    subst ed
    refine PySem.W.kla_makeFunctionHit (mg := X.mg) (c := co) (P := P) (ps := tr) (closure_ok fr) I.ok.glob (I.mod.glob.keeps I.bk) hco (B.code.keeps I.bk) atP2 trOk found bls fun ct g tk keep big => ?_
    exact k g.objs.size d _ ct H _ (I.kept fun b o e => Heap.get?_push_of_some _ (keep b o e)) (ExtN.refl H) (fun _ _ e => e) tabs (Heap.get?_push_size _ rfl) (I.hok.fresh big) hd big
  | none =>
    refine PySem.W.kla_makeFunction (mg := X.mg) (c := co) (P := P) (ps := tr) (closure_ok fr) I.ok.glob (I.mod.glob.keeps I.bk) hco (B.code.keeps I.bk) atP2 trOk found B.gP bls fun d ct g tk keep ge lt rec_ tab_ => ?_
    obtain ⟨d2, od, vs, t, ed, hod, dat, nam⟩ := rec_
    cases ed
    have big : s.heap.objs.size ≤ g.objs.size := Nat.le_trans ge (Nat.le_of_lt lt)
    have noD : H d = none := I.hok.fresh ge
    have I2 := inv_table (t' := tk) (more := #[rawInt ps0.line, rawInt ps0.col, .ref d]) (h' := g.push (PySem.W.kla_obj "<lambda>" (X.env.qual ++ "<lambda>") pa bo sc (cloFrom X.env.cells sc.names []) ((X.mg "__name__").getD .none) d ct)) I atP
      (fun b o nb e => Heap.get?_push_of_some _ (keep b o nb e)) (Heap.get?_push_of_some _ tab_) ge ⟨od, vs, t, Heap.get?_push_of_some _ hod, dat, nam⟩
    have ext : ExtN H (upd (upd H P (.tbl (tr ++ #[rawInt ps0.line, rawInt ps0.col, .ref d]))) d (CodeO d (X.env.qual ++ "<lambda>"))) := fun b o e nt => by
      have nd : b ≠ d := ne_of_none e noD
      have nP : b ≠ P := fun z => by
        rw [z, atP] at e
        exact nt tr (Option.some.inj e).symm
      rw [upd_ne nd, upd_ne nP]
      exact e
    have lst : (tr ++ #[rawInt ps0.line, rawInt ps0.col, .ref d]).toList = tr.toList ++ [rawInt ps0.line, rawInt ps0.col, .ref d] := by simp
    refine k g.objs.size d _ ct _ _ I2 ext (fun q xs e => ?_) (fun t ht => ?_) (Heap.get?_push_size _ rfl) ?_ upd_same big
    · by_cases q1 : q = d
      · rw [q1, upd_same] at e
        unfold CodeO at e
        cases e
      · rw [upd_ne q1] at e
        by_cases q2 : q = P
        · rw [q2, upd_same] at e
          cases e
        · rw [upd_ne q2] at e
          exact e
    · by_cases tP : t.1 = P
      · rw [oneT t ht tP, tP]
        refine ⟨_, by rw [upd_ne (ne_of_none atP noD), upd_same], by rw [lst]; exact PySem.TriplesOk_snoc _ _ _ _ trOk, fun p2 cv hcv => ?_⟩
        rw [lst] at hcv
        rcases among_app _ trOk hcv with z | z
        · obtain ⟨d0, e1, e2⟩ := trIn p2 cv z
          exact ⟨d0, e1, ext _ _ e2 codeO_ne⟩
        · exact ⟨d, z, upd_same⟩
      · obtain ⟨tr', a1, a2, a3⟩ := tabs t ht
        refine ⟨tr', by rw [upd_ne (ne_of_none a1 noD), upd_ne tP]; exact a1, a2, fun p2 cv hcv => ?_⟩
        obtain ⟨d0, e1, e2⟩ := a3 p2 cv hcv
        exact ⟨d0, e1, ext _ _ e2 codeO_ne⟩
    · have nd : g.objs.size ≠ d := Nat.ne_of_gt lt
      have nP : g.objs.size ≠ P := fun z => by
        have lt2 := Heap.lt_size atP2
        rw [← z] at lt2
        exact absurd (Nat.lt_of_lt_of_le lt2 big) (Nat.lt_irrefl _)
      rw [upd_ne nd, upd_ne nP]
      exact I.hok.fresh big
end
/-- a lambda as a value -/
def tLamR (X : Cx) (T : List (Addr × Str)) (pa : Arguments) (bo : Expr) (sc : Scope) : TE := fun σ H Q => Tabs T H ∧ ∀ (f d : Addr) (pm ct : Value) (J : Hp), ExtN H J → TgE H J → Tabs T J → J f = none → J d = some (CodeO d (X.env.qual ++ "<lambda>")) →
  Q (.ref f) (upd J f (FnO f (lamOb (X.env.qual ++ "<lambda>") pa bo sc (cloFrom X.env.cells sc.names []) .none .none pm d ct)))
theorem pe_lamR {X : Cx} {T : List (Addr × Str)} {co P : Addr} {pa : Arguments} {bo : Expr} {sc : Scope} {ps0 : Pos} (B : TabB X.base X.mg co P) (hco : X.env.code = .ref co) (inT : (P, X.env.qual ++ "<lambda>") ∈ T) (oneT : ∀ t ∈ T, t.1 = P → t.2 = X.env.qual ++ "<lambda>") (nodef : defaultsOf pa X.env = ([], []))
    (nofree : ∀ y ∈ sc.names, y.2 ≠ .free) : PE X (.Lambda pa bo sc ps0) (tLamR X T pa bo sc) := ⟨fun pins s σ H Q I ⟨tabs, h⟩ =>
  lam_mkR I B hco inT oneT tabs nodef (fun y hy e => absurd e (nofree y hy)) fun f d pm ct J s2 I2 eN tg tJ hf hJf hJd ge => ⟨.ref f, _, inv_know I I2 ge hf hJf, rfl, h f d pm ct J eN tg tJ hJf hJd⟩⟩
abbrev rSortKey (X : Cx) (pa : Arguments) (bo : Expr) (sc : Scope) : List V → List V → Hp → VK → Prop := fun vs zs H Q => ∃ (a : Addr) (xs : List V) (bs : List (List Int)) (Rx : V → List Int → Prop) (f d : Addr) (pm ct : Value), vs = [.ref a] ∧ zs = [.ref f] ∧ SqL X.K H a xs ∧ PySem.W.EachIs Rx xs bs ∧ (∀ x b, Rx x b → Dp X.K H x (encT b)) ∧
  (∀ b ∈ bs, b.length ≤ sizeLine) ∧ H f = some (FnO f (lamOb (X.env.qual ++ "<lambda>") pa bo sc (cloFrom X.env.cells sc.names []) .none .none pm d ct)) ∧ H d = some (CodeO d (X.env.qual ++ "<lambda>")) ∧ ∀ (ys : List V) (p : Addr), PySem.W.EachIs Rx ys (sortK bs) → H p = none → Q (.ref p) (upd H p (.lst ys))
theorem cr_sortKey {X : Cx} {pa : Arguments} {sc : Scope} {x : Str} {p1 p2 p3 p4 p5 : Pos} {k0 : Nat} (hu : X.A.units + 65 < cLine) (kd : sc.kind = .function) (co : sc.isCoroutine = false) (gen : sc.isGenerator = false) (nc : ∀ y ∈ sc.names, y.2 ≠ .cell) (hx : sc.names.lookup x = some .local) (hl : sc.names.lookup ("len" : Str) = some .globalImplicit) (hd : (x == ("__debug__" : Str)) = false)
    (hb : ∀ (q : Str) (cl : List (Str × Addr)) (pm cv ctv v : Value), bindArgs (lamFn q pa (keyE x "len" p1 p2 p3 p4 p5 k0) sc cl .none .none pm cv ctv) ⟨[v], []⟩ = pure [(x, v)]) (hln : X.mg "len" = none) (hdp : X.A.depth < recursionLimit) :
    CallRK X (.builtin "sorted") [Str.ofString "key"] (rSortKey X pa (keyE x "len" p1 p2 p3 p4 p5 k0) sc) := by
  intro pins s σ H vs zs us ws Q I rv rz h
  obtain ⟨a, xs, bs, Rx, f, d, pm, ct, rfl, rfl, hs, he, hdp2, hz2, hf, hdc, q⟩ := h
  obtain ⟨its, rv2, hl2, hz⟩ := I.list hs
  rw [Vals.ref1 rv, Vals.ref1 rz]
  have e1 := each_vals rv2 he
  have hfo := fnO_get I.hok hf
  show wpAny _ _ (call (.builtin "sorted") [.ref a] [(Str.ofString "key", .ref f)]) _ _ _
  refine PySem.W.sorted_key_data (b := false) keyT hl2.isList e1 (PySem.W.AllAlike.of fun b b' => ?_) (PySem.W.Sortable.tuples fun b => ⟨_, _, rfl⟩) (by rw [← he.length]; exact hz) (fun b _ => ?_) (ksk_s1 _ _) (fun _ => ksk_l1 _ _) (fun _ => ksk_t1 _ _)
    (fun v b ⟨x1, r1, h1⟩ hbm h tk kp => ?_) fun out c h' tk kp fresh hD hlen eo => ?_
  · simp only [keyT, encT, PySem.W.alike, PySem.W.alikeAll, PySem.W.alike_ints, Bool.and_self]
  · have : (keyT b).depth = 2 := by
      unfold keyT encT
      simp only [PyData.depth, PyData.depthAll, PySem.W.depth_ints]
      rfl
    rw [this]
    omega
  · obtain ⟨as, rr⟩ := Dp.reads I _ x1 v (hdp2 x1 b h1) r1
    exact key_call I hfo hdc kd co gen nc hx hl hd hb hln hdp rr (hz2 b hbm) h tk kp
  · obtain ⟨ys, hy, hy2⟩ := vals_each eo
    have hl3 : ys.length ≤ sizeLine := by
      rw [hy.length, hlen, ← he.length]
      exact hz
    exact ⟨.ref _, upd H (s.heap.objs.size + 1) (.lst ys), I.laid (t' := tk) (fun b o e => kp b o e) (Nat.le_succ _) ⟨hl3, out, c, hy, hD⟩, rfl, q _ _ hy2 (I.hok.fresh (Nat.le_succ _))⟩
/-- tuples of ints -/
def dTupsE : List D → Option (List (List Int))
  | [] => some []
  | .tuple ds :: r => (dInts ds).bind fun b => (dTupsE r).map fun bs => b :: bs
  | _ :: _ => none
theorem dTupsE_map : ∀ {ds : List D} {bs : List (List Int)}, dTupsE ds = some bs → ds = bs.map encT
  | [], bs, h => by cases h; rfl
  | d :: ds, bs, h => by
    unfold dTupsE at h
    split at h
    · cases (‹_ = _› : _ :: _ = [])
    · rename_i x r e0
      cases e0
      cases e1 : dInts x with
      | none => rw [e1] at h; cases h
      | some b =>
        rw [e1] at h
        cases e2 : dTupsE ds with
        | none => rw [e2] at h; cases h
        | some bs' =>
          rw [e2] at h
          cases h
          rw [List.map_cons, ← dTupsE_map e2, dInts_map e1]
          rfl
    · cases h
theorem dTupsE_of : ∀ (bs : List (List Int)), dTupsE (bs.map encT) = some bs
  | [] => rfl
  | b :: bs => by
    show (dInts (b.map PyData.int)).bind _ = _
    rw [dInts_of]
    show (dTupsE (bs.map encT)).map _ = _
    rw [dTupsE_of bs]
    rfl
def mSortKey (m : ME) : ME := fun ρ => (m ρ).then fun d ρ1 => match d with
  | .list ds => (match dTupsE ds with
    | some bs => if (bs.all fun b => decide (b.length ≤ 1000)) = true then .ok (.list ((sortK bs).map encT)) ρ1 else .stuck
    | none => .stuck)
  | _ => .stuck
theorem fe_sortK {X : Cx} {c : Ct} {e : Expr} {co P : Addr} {pa : Arguments} {sc : Scope} {x : Str} {p1 p2 p3 p4 p5 p lp kp pos : Pos} {k0 : Nat} {m : ME} (hu : X.A.units + 65 < cLine) (hdp : X.A.depth < recursionLimit) (hK : X.K = c.K) (hg : Gl X "sorted") (hm : X.mg "sorted" = none) (hln : X.mg "len" = none)
    (B : TabB X.base X.mg co P) (hco : X.env.code = .ref co) (inT : (P, X.env.qual ++ "<lambda>") ∈ c.T) (oneT : ∀ t ∈ c.T, t.1 = P → t.2 = X.env.qual ++ "<lambda>") (nodef : defaultsOf pa X.env = ([], [])) (nofree : ∀ y ∈ sc.names, y.2 ≠ .free)
    (kd : sc.kind = .function) (co' : sc.isCoroutine = false) (gen : sc.isGenerator = false) (nc : ∀ y ∈ sc.names, y.2 ≠ .cell) (hx : sc.names.lookup x = some .local) (hl : sc.names.lookup ("len" : Str) = some .globalImplicit) (hd : (x == ("__debug__" : Str)) = false)
    (hb : ∀ (q : Str) (cl : List (Str × Addr)) (pm cv ctv v : Value), bindArgs (lamFn q pa (keyE x "len" p1 p2 p3 p4 p5 k0) sc cl .none .none pm cv ctv) ⟨[v], []⟩ = pure [(x, v)]) (h : PE X e (tE c m))
    (he : backTo pos (starEach [e] X.env) = (false, eval e X.env) :: backTo pos (starEach [] X.env) := by rfl) (hs : starEach [e] X.env = (false, eval e X.env) :: starEach [] X.env := by rfl) (hpl : (backTo pos (starEach [e] X.env)).any (·.1) = false := by rfl) :
    PE X (.Call (.Name "sorted" p) [e] [⟨some "key", .Lambda pa (keyE x "len" p1 p2 p3 p4 p5 k0) sc lp, kp⟩] pos) (tF c (mSortKey m)) := by
  refine pe_conseq (pe_callBK (cr_sortKey hu kd co' gen nc hx hl hd hb hln hdp) hg hm boot_sorted (pa_cons h pa_nil hs) (pk_cons (pe_lamR B hco inT oneT nodef nofree) pk_nil) (by decide) (by decide) he hpl rfl rfl rfl) fun σ H Q ⟨F, ρ, G, S, a⟩ => ?_
  refine ⟨F, ρ, G, S, (Ask.then a).imp (GLe.refl G) fun d ρ1 k v H1 G1 S1 gl1 r => ?_⟩
  cases d <;> first | exact False.elim k | skip
  rename_i ds
  simp only at k
  cases eb : dTupsE ds with
  | none => rw [eb] at k; exact k.elim
  | some bs =>
    rw [eb] at k
    simp only at k
    by_cases hz : (bs.all fun b => decide (b.length ≤ 1000)) = true
    · rw [if_pos hz] at k
      obtain ⟨a, xs, rfl, hq, hr⟩ := r
      rw [dTupsE_map eb] at hr
      refine ⟨S1.tab, fun f d pm ct J eN tg tJ hJf hJd => ?_⟩
      have S2 := S1.extN eN tJ fun q ks e => tg q _ e
      have S3 := S2.add (o := FnO f (lamOb (X.env.qual ++ "<lambda>") pa (keyE x "len" p1 p2 p3 p4 p5 k0) sc (cloFrom X.env.cells sc.names []) .none .none pm d ct)) hJf fnO_tbl
      have gl2 := GLe.upd (o := FnO f (lamOb (X.env.qual ++ "<lambda>") pa (keyE x "len" p1 p2 p3 p4 p5 k0) sc (cloFrom X.env.cells sc.names []) .none .none pm d ct)) (S2.gnone hJf)
      refine ⟨a, xs, bs, fun v b => Rp c.K (upd G1 f (FnO f (lamOb (X.env.qual ++ "<lambda>") pa (keyE x "len" p1 p2 p3 p4 p5 k0) sc (cloFrom X.env.cells sc.names []) .none .none pm d ct))) (encT b) v, f, d, pm, ct, rfl, rfl, ?_, (RpL.mono gl2 _ _ hr).each, fun y b hy => ?_, fun b hb2 => ?_, upd_same, ?_, fun ys q hy hq2 => ?_⟩
      · rw [hK]
        exact .inl (.inl (S3.sub.lst (gl2 _ _ hq)))
      · rw [hK]
        exact Vw.dp S3.sub (okD.no (no_encT b)) (.inl hy)
      · have := of_decide_eq_true (List.all_eq_true.mp hz b hb2)
        unfold sizeLine
        omega
      · rw [upd_ne (ne_of_none hJd hJf)]
        exact hJd
      · exact k q _ _ (S3.alloc hq2 trivial) (gl1.trans gl2) (NewAt.of S3 hq2 (.lst (RpL.of_each hy)) trivial)
    · rw [if_neg hz] at k
      exact k.elim

set_option autoImplicit false
/-- is_number -/
def m_is_number : SM := sRet (mAnd (mIsi ["int"] (.sl 0)) (mAnd (mNot (mIsi ["bool"] (.sl 0))) (mChain dLe dLe (.sl 1) (.sl 0) (.sl 2))))
def f_is_number : FM := fnM 3 3 [] m_is_number
/-- is_street -/
def m_is_street : SM := sSeq (sIf (bOr (bNot (mB (mIsi ["tuple"] (.sl 1)))) (bOr (mB (mOp2 dNe (.ex (mFn dLen [.sl 1])) (.ex (mLit (.int 2))))) (bNot (mB (mCall f_is_number [.v (mOp2 dAt (.sl 1) (.ex (mLit (.int 0)))), .v (mLit (.int 0)), .v (mOp2 dSub (.sl 0) (.ex (mLit (.int 1))))]))))) (sRet (mLit (.bool false))) (sNil))
  (sRet (mCall f_is_number [.v (mOp2 dAt (.sl 1) (.ex (mLit (.int 1)))), .v (mOp2 dAdd (.ex (mOp2 dAt (.sl 1) (.ex (mLit (.int 0))))) (.ex (mLit (.int 1)))), .v (mOp2 dSub (.sl 0) (.ex (mLit (.int 1))))]))
def f_is_street : FM := fnM 2 2 [] m_is_street
/-- need_web -/
def m_need_web : SM := sSeq (sIf (bOr (bNot (mB (mIsi ["tuple"] (.sl 0)))) (bOr (mB (mOp2 dNe (.ex (mFn dLen [.sl 0])) (.ex (mLit (.int 2))))) (bNot (mB (mCall f_is_number [.v (mOp2 dAt (.sl 0) (.ex (mLit (.int 0)))), .v (mLit (.int 1)), .v (mLit (.int 10))]))))) (sRaiseF "BadWeb" "index" (mLit .none)) (sNil))
  (sSeq (sIf (bNot (mB (mIsi ["tuple"] (.ex (mOp2 dAt (.sl 0) (.ex (mLit (.int 1)))))))) (sRaiseF "BadWeb" "index" (mLit .none)) (sNil))
  (sSeq (sAsg (mVar 0) (tmTup [([1], tmName 1), ([2], tmName 2)]))
  (sFor (iRng fR1 [.ex (mFn dLen [.sl 2])]) (tmName 3) (sIf (bOr (bNot (mB (mCall f_is_street [.v (mVar 1), .v (mOp2 dAt (.sl 2) (.sl 3))]))) (bAnd (mB (mOp2 dGt (.sl 3) (.ex (mLit (.int 0))))) (mB (mOp2 dGe (.ex (mOp2 dAt (.sl 2) (.ex (mOp2 dSub (.sl 3) (.ex (mLit (.int 1))))))) (.ex (mOp2 dAt (.sl 2) (.sl 3))))))) (sRaiseF "BadWeb" "index" (mVar 3)) (sNil)))))
def f_need_web : FM := fnM 4 1 [] m_need_web
/-- near_lists -/
def m_near_lists : SM := sDeep 1 (iRng fR1 [.ex (mOp2 dAt (.sl 0) (.ex (mLit (.int 0))))]) (tmName 2) (mLst []) [2] (dFor (iSeq (mOp2 dAt (.sl 0) (.ex (mLit (.int 1))))) (tmTup [([2], tmName 2), ([3], tmName 3)]) (dSeq (dApp (.sl 2) (mVar 3)) (dApp (.sl 3) (mVar 2)))) (sRet (mComp (iSeq (mVar 1)) (tmName 4) (bYes) (mFn dSort [.sl 4]) [4]))
def f_near_lists : FM := fnM 5 1 [] m_near_lists
/-- ways_from -/
def m_ways_from : SM := sSeq (sOwn 2 (mOp2 dRep (.ex (mLst [mLit .none])) (.ex (mFn dLen [.sl 0]))))
  (sSeq (sParT [.put 2 1, .nm 3] [(false, mLit (.int 0)), (false, mLst [mVar 1])])
  (sSeq (whileM (mB (mOp2 dNe (.sl 3) (.ex (mLst [])))) (sSeq (sOwn 4 (mLst []))
  (sSeq (sFor (iSeq (mVar 3)) (tmName 5) (sFor (iSeq (mOp2 dAt (.sl 0) (.sl 5))) (tmName 6) (sIf (mB (mOp2 dIsN (.ex (mOp2 dAt (.sl 2) (.sl 6))) (.ex (mLit .none)))) (sSeq (sAsg (mOp2 dAdd (.ex (mOp2 dAt (.sl 2) (.sl 5))) (.ex (mLit (.int 1)))) (mPutAt 2 (.sl 6)))
  (sDo (mApp 4 (mVar 6)))) (sNil))))
  (sSet 3 (mVar 4)))) 1000000)
  (sRet (mVar 2))))
def f_ways_from : FM := fnM 7 2 [] m_ways_from
/-- parts_of -/
def m_parts_of : SM := sSeq (sPar [1, 2, 3] [(false, mCall f_near_lists [.v (mVar 0)]), (true, mLst []), (true, mLst [])])
  (sSeq (sFor (iRng fR1 [.ex (mOp2 dAt (.sl 0) (.ex (mLit (.int 0))))]) (tmName 4) (sIf (mB (mOp2 dNotIn (.sl 4) (.sl 3))) (sSeq (sSet 5 (mCall f_ways_from [.v (mVar 1), .v (mVar 4)]))
  (sSeq (sSet 6 (mFn dTuple [.ex (mComp (iRng fR1 [.ex (mOp2 dAt (.sl 0) (.ex (mLit (.int 0))))]) (tmName 7) (mB (mOp2 dNotN (.ex (mOp2 dAt (.sl 5) (.sl 7))) (.ex (mLit .none)))) (mVar 7) [7])]))
  (sSeq (sDo (mApp 2 (mVar 6)))
  (sDo (mExt 3 (mVar 6)))))) (sNil)))
  (sRet (mVar 2)))
def f_parts_of : FM := fnM 8 1 [] m_parts_of
/-- has_ring -/
def m_has_ring : SM := sRet (mOp2 dGt (.ex (mFn dLen [.ex (mOp2 dAt (.sl 0) (.ex (mLit (.int 1))))])) (.ex (mOp2 dSub (.ex (mOp2 dAt (.sl 0) (.ex (mLit (.int 0))))) (.ex (mFn dLen [.ex (mCall f_parts_of [.v (mVar 0)])])))))
def f_has_ring : FM := fnM 1 1 [] m_has_ring
/-- are_moods -/
def m_are_moods : SM := sRet (mAnd (mIsi ["tuple"] (.sl 0)) (mAnd (mOp2 dEq (.ex (mFn dLen [.sl 0])) (.sl 1)) (mFn dAll [.ex (mComp (iSeq (mVar 0)) (tmName 2) (bYes) (mCall f_is_number [.v (mVar 2), .v (mLit (.int 0)), .v (mOp2 dSub (.ex (mLit (.int 3))) (.ex (mLit (.int 1))))]) [2])])))
def f_are_moods : FM := fnM 3 2 [] m_are_moods
/-- need_both -/
def m_need_both : SM := sSeq (sDo (mCall f_need_web [.v (mVar 0)]))
  (sIf (bNot (mB (mCall f_are_moods [.v (mVar 1), .v (mOp2 dAt (.sl 0) (.ex (mLit (.int 0))))]))) (sRaise "BadState") (sNil))
def f_need_both : FM := fnM 2 2 [] m_need_both
/-- step -/
def m_step : SM := sRet (mOp2 dSub (.ex (mOp2 dMod (.ex (mOp2 dAdd (.ex (mOp2 dSub (.ex (mOp2 dAt (.sl 0) (.sl 2))) (.ex (mOp2 dAt (.sl 0) (.sl 1))))) (.ex (mLit (.int 1))))) (.ex (mLit (.int 3))))) (.ex (mLit (.int 1))))
def f_step : FM := fnM 3 3 [] m_step
/-- heights_from -/
def m_heights_from : SM := sSeq (sParT [.put 3 2, .nm 4] [(false, mLit (.int 0)), (true, mLst [mVar 2])])
  (sSeq (whileM (mB (mOp2 dNe (.sl 4) (.ex (mLst [])))) (sSeq (sSet 5 (mPop 4))
  (sFor (iSeq (mOp2 dAt (.sl 0) (.sl 5))) (tmName 6) (sSeq (sSet 7 (mOp2 dAdd (.ex (mOp2 dAt (.sl 3) (.sl 5))) (.ex (mCall f_step [.v (mVar 1), .v (mVar 5), .v (mVar 6)]))))
  (sIf (mB (mOp2 dIsN (.ex (mOp2 dAt (.sl 3) (.sl 6))) (.ex (mLit .none)))) (sSeq (sAsg (mVar 7) (mPutAt 3 (.sl 6)))
  (sDo (mApp 4 (mVar 6)))) (sIf (mB (mOp2 dNe (.ex (mOp2 dAt (.sl 3) (.sl 6))) (.sl 7))) (sRet (mLit (.bool false))) (sNil)))))) 1000000)
  (sRet (mLit (.bool true))))
def f_heights_from : FM := fnM 8 4 [3] m_heights_from
/-- heights_in -/
def m_heights_in : SM := sSeq (sParT [.nm 2, .nm 3] [(false, mCall f_near_lists [.v (mVar 0)]), (true, mOp2 dRep (.ex (mLst [mLit .none])) (.ex (mOp2 dAt (.sl 0) (.ex (mLit (.int 0))))))])
  (sSeq (sFor (iSeq (mCall f_parts_of [.v (mVar 0)])) (tmName 4) (sSeq (sIf (bNot (mB (mCall f_heights_from [.v (mVar 2), .v (mVar 1), .v (mOp2 dAt (.sl 4) (.ex (mLit (.int 0)))), .io 3]))) (sRet (mLit .none)) (sNil))
  (sSeq (sSet 5 (mFn (dFold maxI) [.ex (mComp (iSeq (mVar 4)) (tmName 6) (bYes) (mOp2 dAt (.sl 3) (.sl 6)) [6])]))
  (sFor (iSeq (mVar 4)) (tmName 6) (sAsg (mOp2 dSub (.ex (mOp2 dAt (.sl 3) (.sl 6))) (.sl 5)) (mPutAt 3 (.sl 6)))))))
  (sRet (mVar 3)))
def f_heights_in : FM := fnM 7 2 [] m_heights_in
/-- lots_of_size -/
def m_lots_of_size : SM := sSeq (sSet 2 (mLst [mTup []]))
  (sSeq (sFor (iRng fR1 [.sl 1]) (tmName 3) (sSeq (sOwn 4 (mLst []))
  (sSeq (sFor (iSeq (mVar 2)) (tmName 5) (sDo (mExt 4 (mComp (iRng fR2 [.ex (mIf (mB (mOp2 dNe (.sl 5) (.ex (mTup [])))) (mOp2 dAdd (.ex (mOp2 dAt (.sl 5) (.ex (mNeg (mLit (.int 1)))))) (.ex (mLit (.int 1)))) (mLit (.int 0))), .sl 0]) (tmName 6) (bYes) (mOp2 dAdd (.sl 5) (.ex (mTup [mVar 6]))) [6]))))
  (sSet 2 (mVar 4)))))
  (sRet (mVar 2)))
def f_lots_of_size : FM := fnM 7 2 [] m_lots_of_size
/-- painted -/
def m_painted : SM := sSeq (sSet 2 (mLst [mVar 0]))
  (sSeq (sFor (iSeq (mVar 1)) (tmName 3) (sSeq (sOwn 4 (mLst []))
  (sSeq (sFor (iSeq (mVar 2)) (tmName 5) (sDo (mExt 4 (mComp (iRng fR2 [.ex (mLit (.int 1)), .ex (mLit (.int 3))]) (tmName 6) (bYes) (mOp2 dAdd (.ex (mOp2 dAdd (.ex (mCut (.sl 5) (none) (some (mVar 3)))) (.ex (mTup [mOp2 dMod (.ex (mOp2 dAdd (.ex (mOp2 dAt (.sl 5) (.sl 3))) (.sl 6))) (.ex (mLit (.int 3)))])))) (.ex (mCut (.sl 5) (some (mOp2 dAdd (.sl 3) (.ex (mLit (.int 1))))) (none)))) [6]))))
  (sSet 2 (mVar 4)))))
  (sRet (mVar 2)))
def f_painted : FM := fnM 7 2 [] m_painted
/-- lots_that -/
def m_lots_that : SM := sSeq (sOwn 4 (mLst []))
  (sSeq (sFor (iSeq (mCall f_lots_of_size [.v (mOp2 dAt (.sl 0) (.ex (mLit (.int 0)))), .v (mVar 2)])) (tmName 5) (sIf (mB (mFn dAny [.ex (mComp (iSeq (mCall f_painted [.v (mVar 1), .v (mVar 5)])) (tmName 6) (bYes) (mOp2 dEq (.ex (mOp2 dNotN (.ex (mCall f_heights_in [.v (mVar 0), .v (mVar 6)])) (.ex (mLit .none)))) (.sl 3)) [6])])) (sDo (mApp 4 (mVar 5))) (sNil)))
  (sRet (mVar 4)))
def f_lots_that : FM := fnM 7 4 [] m_lots_that
/-- fewest -/
def m_fewest : SM := sSeq (sFor (iRng fR1 [.ex (mOp2 dAdd (.ex (mOp2 dAt (.sl 0) (.ex (mLit (.int 0))))) (.ex (mLit (.int 1))))]) (tmName 3) (sSeq (sSet 4 (mCall f_lots_that [.v (mVar 0), .v (mVar 1), .v (mVar 3), .v (mVar 2)]))
  (sIf (mB (mOp2 dNe (.sl 4) (.ex (mLst [])))) (sRet (mFn dTuple [.sl 4])) (sNil))))
  (sRet (mTup []))
def f_fewest : FM := fnM 5 3 [] m_fewest
/-- calmed -/
def m_calmed : SM := sSeq (sDo (mCall f_need_both [.v (mVar 0), .v (mVar 1)]))
  (sRet (mCall f_fewest [.v (mVar 0), .v (mVar 1), .v (mLit (.bool true))]))
def f_calmed : FM := fnM 2 2 [] m_calmed
/-- stirring -/
def m_stirring : SM := sSeq (sDo (mCall f_need_both [.v (mVar 0), .v (mVar 1)]))
  (sRet (mIf (mB (mCall f_has_ring [.v (mVar 0)])) (mCall f_fewest [.v (mVar 0), .v (mVar 1), .v (mLit (.bool false))]) (mTup [])))
def f_stirring : FM := fnM 2 2 [] m_stirring
/-- _law_taken -/
def m__law_taken : SM := sSeq (sIf (mB (mOp2 dGt (.ex (mOp2 dAt (.sl 0) (.ex (mLit (.int 3))))) (.ex (mLit (.int 0))))) (sSeq (sSet 2 (mOp2 dMod (.ex (mFn dInt [.ex (mOp2 dAt (.sl 0) (.ex (mLit (.int 3))))])) (.sl 1)))
  (sSeq (sAsg (mOp2 dFdiv (.ex (mOp2 dAt (.sl 0) (.ex (mLit (.int 3))))) (.sl 1)) (mPutAt 0 (.ex (mLit (.int 3)))))
  (sRet (mVar 2)))) (sNil))
  (sSeq (sAsg (mOp2 dAdd (.ex (mOp2 dAt (.sl 0) (.ex (mLit (.int 1))))) (.ex (mLit (.int 1)))) (mPutAt 0 (.ex (mLit (.int 1)))))
  (sSeq (sIf (mB (mOp2 dGt (.ex (mOp2 dAt (.sl 0) (.ex (mLit (.int 1))))) (.ex (mFn dLen [.ex (mOp2 dAt (.sl 0) (.ex (mLit (.int 0))))])))) (sSeq (sAsg (mOp2 dMod (.ex (mFn dInt [.ex (mOp2 dAdd (.ex (mOp2 dMul (.ex (mOp2 dAt (.sl 0) (.ex (mLit (.int 2))))) (.ex (mLit (.int 48271))))) (.ex (mLit (.int 11))))])) (.ex (mLit (.int 2147483647)))) (mPutAt 0 (.ex (mLit (.int 2)))))
  (sRet (mOp2 dMod (.ex (mFn dInt [.ex (mOp2 dFdiv (.ex (mOp2 dAt (.sl 0) (.ex (mLit (.int 2))))) (.ex (mLit (.int 7))))])) (.sl 1)))) (sNil))
  (sSeq (sSet 3 (mOp2 dAt (.ex (mOp2 dAt (.sl 0) (.ex (mLit (.int 0))))) (.ex (mOp2 dSub (.ex (mOp2 dAt (.sl 0) (.ex (mLit (.int 1))))) (.ex (mLit (.int 1)))))))
  (sSeq (sAsg (mOp2 dMod (.ex (mFn dInt [.ex (mOp2 dAdd (.ex (mOp2 dAdd (.ex (mOp2 dMul (.ex (mOp2 dAt (.sl 0) (.ex (mLit (.int 2))))) (.ex (mLit (.int 48271))))) (.sl 3))) (.ex (mLit (.int 11))))])) (.ex (mLit (.int 2147483647)))) (mPutAt 0 (.ex (mLit (.int 2)))))
  (sSeq (sIf (mB (mOp2 dGe (.sl 3) (.ex (mOp2 dPow (.ex (mLit (.int 10))) (.ex (mLit (.int 18))))))) (sAsg (mOp2 dFdiv (.sl 3) (.sl 1)) (mPutAt 0 (.ex (mLit (.int 3))))) (sNil))
  (sRet (mOp2 dMod (.ex (mFn dInt [.sl 3])) (.sl 1))))))))
def f__law_taken : FM := fnM 4 2 [0] m__law_taken
/-- _law_alike -/
def m__law_alike (self : FM) : SM := sSeq (sIf (mB (mIsi ["tuple", "list"] (.sl 1))) (sSeq (sIf (bOr (bNot (mB (mIsi ["tuple", "list"] (.sl 0)))) (mB (mOp2 dNe (.ex (mIsi ["list"] (.sl 0))) (.ex (mIsi ["list"] (.sl 1)))))) (sRet (mLit (.bool false))) (sNil))
  (sSeq (sIf (mB (mOp2 dNe (.ex (mFn dLen [.sl 0])) (.ex (mFn dLen [.sl 1])))) (sRet (mLit (.bool false))) (sNil))
  (sRet (mOp2 dEq (.ex (mComp (iRng fR1 [.ex (mFn dLen [.sl 1])]) (tmName 2) (bNot (mB (mCall self [.v (mOp2 dAt (.sl 0) (.sl 2)), .v (mOp2 dAt (.sl 1) (.sl 2))]))) (mVar 2) [2])) (.ex (mLst [])))))) (sNil))
  (sSeq (sIf (bOr (mB (mOp2 dIsN (.sl 1) (.ex (mLit .none)))) (mB (mIsi ["str"] (.sl 1)))) (sRet (mAnd (mOp2 dEq (.sl 0) (.sl 1)) (mOp2 dEq (.ex (mIsi ["str"] (.sl 0))) (.ex (mIsi ["str"] (.sl 1)))))) (sNil))
  (sRet (mAnd (mIsi ["int"] (.sl 0)) (mAnd (mOp2 dEq (.ex (mIsi ["bool"] (.sl 0))) (.ex (mIsi ["bool"] (.sl 1)))) (mOp2 dEq (.sl 0) (.sl 1))))))
def f__law_alike : Nat → FM
  | 0 => fun _ => .stuck
  | k + 1 => fnM 3 2 [] (m__law_alike (f__law_alike k))
/-- _law_web -/
def m__law_web : SM := sSeq (sPar [2, 3, 4] [(false, mOp2 dAdd (.ex (mLit (.int 1))) (.ex (mCall f__law_taken [.io 0, .v (mVar 1)]))), (false, mCall f__law_taken [.io 0, .v (mLit (.int 5))]), (true, mDict0)])
  (sSeq (sFor (iRng fR2 [.ex (mLit (.int 1)), .sl 2]) (tmName 5) (sIf (bOr (mB (mOp2 dGt (.sl 3) (.ex (mLit (.int 0))))) (mB (mOp2 dGt (.ex (mCall f__law_taken [.io 0, .v (mLit (.int 3))])) (.ex (mLit (.int 0)))))) (sAsg (mLit (.bool true)) (mPutAt 4 (.ex (mTup [mIf (mB (mOp2 dLt (.sl 3) (.ex (mLit (.int 3))))) (mOp2 dSub (.sl 5) (.ex (mLit (.int 1)))) (mCall f__law_taken [.io 0, .v (mVar 5)]), mVar 5])))) (sNil)))
  (sSeq (sIf (bAnd (mB (mOp2 dIn (.sl 3) (.ex (mLst [mLit (.int 1), mLit (.int 2)])))) (mB (mOp2 dGt (.sl 2) (.ex (mLit (.int 2)))))) (sAsg (mLit (.bool true)) (mPutAt 4 (.ex (mTup [mLit (.int 0), mOp2 dSub (.sl 2) (.ex (mLit (.int 1)))])))) (sNil))
  (sSeq (sFor (iRng fR1 [.ex (mIf (mB (mOp2 dNe (.sl 3) (.ex (mLit (.int 1))))) (mCall f__law_taken [.io 0, .v (mVar 2)]) (mLit (.int 0)))]) (tmName 6) (sSeq (sPar [5, 7] [(false, mCall f__law_taken [.io 0, .v (mVar 2)]), (false, mCall f__law_taken [.io 0, .v (mVar 2)])])
  (sIf (mB (mOp2 dNe (.sl 5) (.sl 7))) (sAsg (mLit (.bool true)) (mPutAt 4 (.ex (mTup [mFn dMin2 [.sl 5, .sl 7], mFn dMax2 [.sl 5, .sl 7]])))) (sNil))))
  (sRet (mTup [mVar 2, mFn dTuple [.ex (mFn dSort [.ex (mKeys (.sl 4))])]])))))
def f__law_web : FM := fnM 8 2 [0] m__law_web
/-- _law_state -/
def m__law_state : SM := sSeq (sPar [2, 3] [(false, mCall f__law_taken [.io 0, .v (mLit (.int 4))]), (true, mLst [])])
  (sSeq (sFor (iRng fR1 [.ex (mOp2 dAt (.sl 1) (.ex (mLit (.int 0))))]) (tmName 4) (sSeq (sSet 5 (mCall f__law_taken [.io 0, .v (mLit (.int 3))]))
  (sDo (mApp 3 (mIf (mB (mOp2 dGt (.sl 2) (.ex (mLit (.int 0))))) (mVar 5) (mOp2 dMod (.ex (mFn dInt [.ex (mOp2 dAdd (.sl 4) (.ex (mFn dInt [.ex (mOp2 dEq (.sl 5) (.ex (mLit (.int 0))))])))])) (.ex (mLit (.int 3)))))))))
  (sRet (mFn dTuple [.sl 3])))
def f__law_state : FM := fnM 6 2 [0] m__law_state
/-- _law_near -/
def m__law_near : SM := sSeq (sOwn 1 (mLst []))
  (sSeq (sFor (iRng fR1 [.ex (mOp2 dAt (.sl 0) (.ex (mLit (.int 0))))]) (tmName 2) (sDo (mApp 1 (mComp (iRng fR1 [.ex (mOp2 dAt (.sl 0) (.ex (mLit (.int 0))))]) (tmName 3) (mB (mOp2 dIn (.ex (mTup [mFn dMin2 [.sl 2, .sl 3], mFn dMax2 [.sl 2, .sl 3]])) (.ex (mOp2 dAt (.sl 0) (.ex (mLit (.int 1))))))) (mVar 3) [3]))))
  (sRet (mVar 1)))
def f__law_near : FM := fnM 4 1 [] m__law_near
/-- _law_step -/
def m__law_step : SM := sSeq (sSet 3 (mTup [mOp2 dAt (.sl 0) (.sl 1), mOp2 dAt (.sl 0) (.sl 2)]))
  (sRet (mIf (mB (mOp2 dIn (.sl 3) (.ex (mLst [mTup [mLit (.int 0), mLit (.int 1)], mTup [mLit (.int 1), mLit (.int 2)], mTup [mLit (.int 2), mLit (.int 0)]])))) (mLit (.int 1)) (mIf (mB (mOp2 dNe (.ex (mOp2 dAt (.sl 3) (.ex (mLit (.int 0))))) (.ex (mOp2 dAt (.sl 3) (.ex (mLit (.int 1))))))) (mNeg (mLit (.int 1))) (mLit (.int 0)))))
def f__law_step : FM := fnM 4 3 [] m__law_step
/-- _law_rings -/
def m__law_rings : SM := sSeq (sPar [1, 2, 3] [(false, mCall f__law_near [.v (mVar 0)]), (true, mLst []), (true, mComp (iRng fR1 [.ex (mOp2 dAt (.sl 0) (.ex (mLit (.int 0))))]) (tmName 4) (bYes) (mTup [mVar 4]) [4])])
  (sSeq (whileM (mB (mOp2 dNe (.sl 3) (.ex (mLst [])))) (sSeq (sSet 5 (mPop 3))
  (sSeq (sIf (bAnd (mB (mOp2 dGt (.ex (mFn dLen [.sl 5])) (.ex (mLit (.int 2))))) (mB (mOp2 dIn (.ex (mOp2 dAt (.sl 5) (.ex (mLit (.int 0))))) (.ex (mOp2 dAt (.sl 1) (.ex (mOp2 dAt (.sl 5) (.ex (mNeg (mLit (.int 1))))))))))) (sDo (mApp 2 (mVar 5))) (sNil))
  (sFor (iSeq (mOp2 dAt (.sl 1) (.ex (mOp2 dAt (.sl 5) (.ex (mNeg (mLit (.int 1)))))))) (tmName 6) (sIf (bAnd (mB (mOp2 dGt (.sl 6) (.ex (mOp2 dAt (.sl 5) (.ex (mLit (.int 0))))))) (mB (mOp2 dNotIn (.sl 6) (.sl 5)))) (sDo (mApp 3 (mOp2 dAdd (.sl 5) (.ex (mTup [mVar 6]))))) (sNil))))) 1000000)
  (sRet (mVar 2)))
def f__law_rings : FM := fnM 7 1 [] m__law_rings
/-- _law_round -/
def m__law_round : SM := sRet (mFn (dFold fun ns => some ns.sum) [.ex (mComp (iRng fR1 [.ex (mFn dLen [.sl 1])]) (tmName 2) (bYes) (mCall f__law_step [.v (mVar 0), .v (mOp2 dAt (.sl 1) (.ex (mOp2 dSub (.sl 2) (.ex (mLit (.int 1)))))), .v (mOp2 dAt (.sl 1) (.sl 2))]) [2])])
def f__law_round : FM := fnM 3 2 [] m__law_round
/-- _law_winds -/
def m__law_winds : SM := sRet (mOp2 dNe (.ex (mComp (iSeq (mCall f__law_rings [.v (mVar 0)])) (tmName 2) (mB (mOp2 dGt (.ex (mCall f__law_round [.v (mVar 1), .v (mVar 2)])) (.ex (mLit (.int 0))))) (mVar 2) [2])) (.ex (mLst [])))
def f__law_winds : FM := fnM 3 2 [] m__law_winds
/-- _law_lots -/
def m__law_lots : SM := sSeq (sSet 1 (mLst [mTup []]))
  (sSeq (sFor (iRng fR1 [.sl 0]) (tmName 2) (sSet 1 (mOp2 dCat (.sl 1) (.ex (mComp (iSeq (mVar 1)) (tmName 3) (bYes) (mOp2 dAdd (.sl 3) (.ex (mTup [mVar 2]))) [3])))))
  (sRet (mVar 1)))
def f__law_lots : FM := fnM 4 1 [] m__law_lots
/-- _law_painted -/
def m__law_painted : SM := sSeq (sSet 2 (mLst [mVar 0]))
  (sSeq (sFor (iSeq (mVar 1)) (tmName 3) (sSeq (sSet 4 (mLst []))
  (sSeq (sFor (iSeq (mVar 2)) (tmName 5) (sSet 4 (mOp2 dCat (.sl 4) (.ex (mComp (iSeq (mTup [mLit (.int 0), mLit (.int 1), mLit (.int 2)])) (tmName 6) (mB (mOp2 dNe (.sl 6) (.ex (mOp2 dAt (.sl 0) (.sl 3))))) (mOp2 dAdd (.ex (mOp2 dAdd (.ex (mCut (.sl 5) (none) (some (mVar 3)))) (.ex (mTup [mVar 6])))) (.ex (mCut (.sl 5) (some (mOp2 dAdd (.sl 3) (.ex (mLit (.int 1))))) (none)))) [6])))))
  (sSet 2 (mVar 4)))))
  (sRet (mVar 2)))
def f__law_painted : FM := fnM 7 2 [] m__law_painted
/-- law -/
def m_law : SM := sSeq (sOwn 1 (mLst [mVar 0, mLit (.int 0), mLit (.int 15561), mLit (.int 0)]))
  (sSeq (sSet 2 (mCall f__law_web [.io 1, .v (mLit (.int 5))]))
  (sSeq (sSet 3 (mCall f__law_state [.io 1, .v (mVar 2)]))
  (sSeq (sSet 4 (mSortKey (mCall f__law_lots [.v (mOp2 dAt (.sl 2) (.ex (mLit (.int 0))))])))
  (sSeq (sFor (iSeq (mLst [mLit (.bool true), mLit (.bool false)])) (tmName 5) (sSeq (sSet 6 (mLst []))
  (sSeq (sFor (iSeq (mComp (iSeq (mVar 4)) (tmName 7) (mB (mOp2 dLt (.ex (mFn dLen [.sl 7])) (.ex (mLit (.int 4))))) (mVar 7) [7])) (tmName 7) (sIf (bOr (mB (mOp2 dEq (.sl 6) (.ex (mLst [])))) (mB (mOp2 dEq (.ex (mFn dLen [.sl 7])) (.ex (mFn dLen [.ex (mOp2 dAt (.sl 6) (.ex (mLit (.int 0))))]))))) (sSeq (sOwn 8 (mComp (iSeq (mCall f__law_painted [.v (mVar 3), .v (mVar 7)])) (tmName 9) (mB (mOp2 dNe (.ex (mCall f__law_winds [.v (mVar 2), .v (mVar 9)])) (.sl 5))) (mVar 9) [9]))
  (sSet 6 (mOp2 dAdd (.sl 6) (.ex (mIf (mB (mOp2 dNe (.sl 8) (.ex (mLst [])))) (mLst [mVar 7]) (mLst [])))))) (sNil)))
  (sSeq (sSet 10 (mIf (mB (mVar 5)) (mCall f_calmed [.v (mVar 2), .v (mVar 3)]) (mCall f_stirring [.v (mVar 2), .v (mVar 3)])))
  (sSeq (sIf (bNot (mB (mCall (f__law_alike 50) [.v (mVar 10), .v (mFn dTuple [.sl 6])]))) (sRet (mLit (.bool false))) (sNil))
  (sIf (bOr (bAnd (mB (mVar 5)) (mB (mOp2 dGt (.ex (mOp2 dMul (.ex (mFn dLen [.ex (mOp2 dAt (.sl 6) (.ex (mLit (.int 0))))])) (.ex (mLit (.int 3))))) (.ex (mOp2 dAt (.sl 2) (.ex (mLit (.int 0)))))))) (bAnd (bNot (mB (mVar 5))) (bAnd (mB (mOp2 dNe (.sl 6) (.ex (mLst [])))) (mB (mOp2 dGt (.ex (mFn dLen [.ex (mOp2 dAt (.sl 6) (.ex (mLit (.int 0))))])) (.ex (mLit (.int 2)))))))) (sRet (mLit (.bool false))) (sNil)))))))
  (sSeq (sIf (mB (mOp2 dNe (.ex (mOp2 dEq (.ex (mCall f_stirring [.v (mVar 2), .v (mVar 3)])) (.ex (mTup [])))) (.ex (mOp2 dEq (.ex (mCall f__law_rings [.v (mVar 2)])) (.ex (mLst [])))))) (sRet (mLit (.bool false))) (sNil))
  (sSeq (sSet 11 (mOp2 dAdd (.ex (mLit (.int 3))) (.ex (mCall f__law_taken [.io 1, .v (mLit (.int 8))]))))
  (sSeq (sSet 12 (mTup [mVar 11, mFn dTuple [.ex (mFn dSort [.ex (mOp2 dCat (.ex (mComp (iRng fR1 [.ex (mOp2 dSub (.sl 11) (.ex (mLit (.int 1))))]) (tmName 13) (bYes) (mTup [mVar 13, mOp2 dAdd (.sl 13) (.ex (mLit (.int 1)))]) [13])) (.ex (mLst [mTup [mLit (.int 0), mOp2 dSub (.sl 11) (.ex (mLit (.int 1)))]])))])]]))
  (sSeq (sSet 14 (mFn dLen [.ex (mCall f_stirring [.v (mVar 12), .v (mOp2 dRepT (.ex (mTup [mLit (.int 1)])) (.sl 11))])]))
  (sRet (mAnd (mOp2 dEq (.ex (mCall f_calmed [.v (mVar 12), .v (mOp2 dRepT (.ex (mTup [mLit (.int 1)])) (.sl 11))])) (.ex (mTup [mTup []]))) (mOp2 dEq (.sl 14) (.sl 11))))))))))))
def f_law : FM := fnM 15 1 [] m_law

set_option autoImplicit false

set_option autoImplicit false
def top (i : Nat) : Stmt := PySem.Challenge.pw_threemoods_k15_whole_few_folk.main.body.getD i (.Pass ⟨0, 0, 0, 0⟩)
structure Bs (P : Program) (w : World) (K : PySem.W.Frag) (mg : Str → Option Value) : Prop where
  e_BadState : ER K mg "BadState"
  g_MOODS : ∃ t, mg "MOODS" = some (.int 3 t)
  g_MOST_FOLK : ∃ t, mg "MOST_FOLK" = some (.int 10 t)
  b_all : mg "all" = none
  b_any : mg "any" = none
  b_bool : mg "bool" = none
  b_int : mg "int" = none
  b_isinstance : mg "isinstance" = none
  b_len : mg "len" = none
  b_list : mg "list" = none
  b_max : mg "max" = none
  b_min : mg "min" = none
  b_range : mg "range" = none
  b_sorted : mg "sorted" = none
  b_str : mg "str" = none
  b_sum : mg "sum" = none
  b_tuple : mg "tuple" = none
  r_BadWeb : ∀ base, ERF P w K mg base "BadWeb" "index"
section
variable {P : Program} {w : World} {K : PySem.W.Frag} {mg : Str → Option Value} {base : Heap} {T : List (Addr × Str)}
theorem sc_is_number : FnScope ["value", "low", "high"] ["value", "low", "high"] (defScope (top 6)) := ⟨rfl, rfl, rfl, by decide +kernel, rfl, by decide +kernel, by decide +kernel⟩
theorem ok_is_number (B : Bs P w K mg) {f : Addr} {fd : FuncData} (F1 : Fun K "is_number" "is_number" (top 6) f fd) (hm : mg "is_number" = some (.ref f)) (hb : Binds K fd ["value", "low", "high"] []) : Cal P w K mg base T "is_number" (0 + 1) 3 f_is_number :=
  ⟨f, fd, ["value", "low", "high"], fn_ok F1 sc_is_number rfl (fun cdv A outer s H E W hr tk po =>
  ss_one (st_ret (me_and (me_isi rfl rfl B.b_isinstance rfl B.b_int boot_int (pv 0)) (me_and (me_not (me_isi rfl rfl B.b_isinstance rfl B.b_bool boot_bool (pv 0))) (me_one (me_chain op_le op_le p_le p_le (pv 1) (pv 0) (pv 2))))))), hm, F1.kp, hb⟩
theorem sc_is_street : FnScope ["folk", "value"] ["folk", "value"] (defScope (top 7)) := ⟨rfl, rfl, rfl, by decide +kernel, rfl, by decide +kernel, by decide +kernel⟩
theorem ok_is_street (B : Bs P w K mg) (c_is_number : Cal P w K mg base T "is_number" 1 3 f_is_number) {f : Addr} {fd : FuncData} (F1 : Fun K "is_street" "is_street" (top 7) f fd) (hm : mg "is_street" = some (.ref f)) (hb : Binds K fd ["folk", "value"] []) : Cal P w K mg base T "is_street" (1 + 1) 2 f_is_street :=
  ⟨f, fd, ["folk", "value"], fn_ok F1 sc_is_street rfl (fun cdv A outer s H E W hr tk po =>
  ss_cons (st_if (mt_bool (mw_or (mt_not (mt_val (me_isi rfl rfl B.b_isinstance rfl B.b_tuple boot_tuple (pv 1)))) (mw_or (mt_cmp (op_neD (room64 hr)) p_ne (me_fnB call_lenA p_len rfl B.b_len PySem.boot_len (mo_cons (pv 1) (mo_nil))) (me_int) (nomark _)) (mw_or1 (mt_not (mt_val (me_cal c_is_number rfl rfl hr tk rfl (ma_v (me_at (room1 hr) rfl (pv 1) (me_int)) (ma_v (me_int) (ma_v (me_op op_sub p_sub (pv 0) (me_int)) (ma_nil))))))))))) (ss_one (st_ret (me_bl))) (ss_nil))
  (ss_one (st_ret (me_cal c_is_number rfl rfl hr tk rfl (ma_v (me_at (room1 hr) rfl (pv 1) (me_int)) (ma_v (me_op op_addA p_add (me_at (room1 hr) rfl (pv 1) (me_int)) (me_int)) (ma_v (me_op op_sub p_sub (pv 0) (me_int)) (ma_nil)))))))), hm, F1.kp, hb⟩
theorem sc_need_web : FnScope ["value", "folk", "streets", "index"] ["value"] (defScope (top 8)) := ⟨rfl, rfl, rfl, by decide +kernel, rfl, by decide +kernel, by decide +kernel⟩
theorem ok_need_web (B : Bs P w K mg) (c_is_number : Cal P w K mg base T "is_number" 1 3 f_is_number) (c_is_street : Cal P w K mg base T "is_street" 2 2 f_is_street) {f : Addr} {fd : FuncData} (F1 : Fun K "need_web" "need_web" (top 8) f fd) (hm : mg "need_web" = some (.ref f)) (hb : Binds K fd ["value"] []) : Cal P w K mg base T "need_web" (2 + 1) 1 f_need_web :=
  ⟨f, fd, ["value"], fn_ok F1 sc_need_web rfl (fun cdv A outer s H E W hr tk po =>
  ss_cons (st_if (mt_bool (mw_or (mt_not (mt_val (me_isi rfl rfl B.b_isinstance rfl B.b_tuple boot_tuple (pv 0)))) (mw_or (mt_cmp (op_neD (room64 hr)) p_ne (me_fnB call_lenA p_len rfl B.b_len PySem.boot_len (mo_cons (pv 0) (mo_nil))) (me_int) (nomark _)) (mw_or1 (mt_not (mt_val (me_cal c_is_number rfl rfl hr tk rfl (ma_v (me_at (room1 hr) rfl (pv 0) (me_int)) (ma_v (me_int) (ma_v (me_gint rfl B.g_MOST_FOLK) (ma_nil))))))))))) (ss_one (st_raiseF (k := 0) rfl tk (B.r_BadWeb _) rfl rfl (hr.mono (by decide)) rfl (me_non))) (ss_nil))
  (ss_cons (st_if (mt_not (mt_val (me_isi rfl rfl B.b_isinstance rfl B.b_tuple boot_tuple (me_at (room1 hr) rfl (pv 0) (me_int))))) (ss_one (st_raiseF (k := 0) rfl tk (B.r_BadWeb _) rfl rfl (hr.mono (by decide)) rfl (me_non))) (ss_nil))
  (ss_cons (st_asg (me_var (pv 0)) (tg_tup rfl (gs_cons (tg_name sc_need_web.nd rfl (by first | exact Or.inl rfl | exact Or.inr rfl) (show 1 ∉ ([] : List Nat) by decide)) (gs_cons (tg_name sc_need_web.nd rfl (by first | exact Or.inl rfl | exact Or.inr rfl) (show 2 ∉ ([] : List Nat) by decide)) (gs_nil))) rfl))
  (ss_one (st_for po rfl rfl (mi_rng1 rfl B.b_range (mo_cons (me_fnB call_lenA p_len rfl B.b_len PySem.boot_len (mo_cons (pv 2) (mo_nil))) (mo_nil))) (tg_name sc_need_web.nd rfl (by first | exact Or.inl rfl | exact Or.inr rfl) (show 3 ∉ ([] : List Nat) by decide)) (ss_one (st_if (mt_bool (mw_or (mt_not (mt_val (me_cal c_is_street rfl rfl hr tk rfl (ma_v (me_var (pv 1)) (ma_v (me_at (room1 hr) rfl (pv 2) (pv 3)) (ma_nil)))))) (mw_or1 (mt_bool (mw_and (mt_cmp op_gt p_gt (pv 3) (me_int) (nomark _)) (mw_and1 (mt_cmp (op_ge.or (op_geT (room0 hr))) p_ge (me_at (room1 hr) rfl (pv 2) (me_op op_sub p_sub (pv 3) (me_int))) (me_at (room1 hr) rfl (pv 2) (pv 3)) (nomark _)))))))) (ss_one (st_raiseF (k := 0) rfl tk (B.r_BadWeb _) rfl rfl (hr.mono (by decide)) rfl (me_var (pv 3)))) (ss_nil)))))))), hm, F1.kp, hb⟩
theorem sc_near_lists : FnScope ["web", "found", "one", "other", "some"] ["web"] (defScope (top 9)) := ⟨rfl, rfl, rfl, by decide +kernel, rfl, by decide +kernel, by decide +kernel⟩
theorem ok_near_lists (B : Bs P w K mg) {f : Addr} {fd : FuncData} (F1 : Fun K "near_lists" "near_lists" (top 9) f fd) (hm : mg "near_lists" = some (.ref f)) (hb : Binds K fd ["web"] []) : Cal P w K mg base T "near_lists" (0 + 1) 1 f_near_lists :=
  ⟨f, fd, ["web"], fn_ok F1 sc_near_lists rfl (fun cdv A outer s H E W hr tk po =>
  ss_deep (own := [("one", 2)]) rfl sc_near_lists.nd rfl rfl (show 1 ∉ ([] : List Nat) by decide) (show ∀ v ∈ ([2] : List Nat), v ∉ ([] : List Nat) by decide) (by decide) rfl (mi_rng1 rfl B.b_range (mo_cons (me_at (room1 hr) rfl (pv 0) (me_int)) (mo_nil))) (blkOk_by (by kernel_rfl)) (fun _ _ _ _ _ => tg_name sc_near_lists.nd rfl (by first | exact Or.inl rfl | exact Or.inr rfl) (show 2 ∉ ([] : List Nat) by decide)) (fun _ _ _ _ _ => fe_lst (ms_nil)) (sd_for po rfl (mi_seq rfl (me_at (room1 hr) rfl (pv 0) (me_int))) (tg_tup rfl (gs_cons (tg_name sc_near_lists.nd rfl (by first | exact Or.inl rfl | exact Or.inr rfl) (show 2 ∉ ([] : List Nat) by decide)) (gs_cons (tg_name sc_near_lists.nd rfl (by first | exact Or.inl rfl | exact Or.inr rfl) (show 3 ∉ ([] : List Nat) by decide)) (gs_nil))) rfl) (sd_cons (sd_app rfl (ps_expr (pe_bm F.plainAttrs_list F.slot_list_append F.type_list_append mt_append (pe_ix (ix_any (room1 hr)) (pv 1) (pv 2) (by intro _ _; rfl)) (ms_cons (me_var (pv 3)) ms_nil)))) (sd_one (sd_app rfl (ps_expr (pe_bm F.plainAttrs_list F.slot_list_append F.type_list_append mt_append (pe_ix (ix_any (room1 hr)) (pv 1) (pv 3) (by intro _ _; rfl)) (ms_cons (me_var (pv 2)) ms_nil))))))) (ss_one (st_ret (me_of (fe_lc (own := [("some", 4)]) rfl sc_near_lists.nd (show ∀ v ∈ ([4] : List Nat), v ∉ ([] : List Nat) by decide) (by decide) (mi_seq rfl (me_var (pv 1))) (blkOk_by (by kernel_rfl)) (fun _ _ _ _ _ => tg_name sc_near_lists.nd rfl (by first | exact Or.inl rfl | exact Or.inr rfl) (show 4 ∉ ([] : List Nat) by decide)) (fun _ _ _ _ _ => mts_nil) (fun _ _ _ _ _ => me_of (fe_sort rfl rfl B.b_sorted (mo_cons (pv 4) (mo_nil))))))))), hm, F1.kp, hb⟩
theorem sc_ways_from : FnScope ["near", "one", "found", "row", "later", "here", "there"] ["near", "one"] (defScope (top 10)) := ⟨rfl, rfl, rfl, by decide +kernel, rfl, by decide +kernel, by decide +kernel⟩
theorem ok_ways_from (B : Bs P w K mg) {f : Addr} {fd : FuncData} (F1 : Fun K "ways_from" "ways_from" (top 10) f fd) (hm : mg "ways_from" = some (.ref f)) (hb : Binds K fd ["near", "one"] []) : Cal P w K mg base T "ways_from" (0 + 1) 2 f_ways_from :=
  ⟨f, fd, ["near", "one"], fn_ok F1 sc_ways_from rfl (fun cdv A outer s H E W hr tk po =>
  ss_cons (st_own sc_ways_from.nd rfl (by first | exact Or.inl rfl | exact Or.inr rfl) (fe_op op_rep p_repL (me_of (fe_lst (ms_cons (me_non) (ms_nil)))) (me_fnB call_lenA p_len rfl B.b_len PySem.boot_len (mo_cons (pv 0) (mo_nil)))) (show 2 ∉ ([] : List Nat) by decide))
  (ss_cons (st_parT rfl rfl (mp_v (me_int) (mp_v (me_of (fe_lst (ms_cons (me_var (pv 1)) (ms_nil)))) (mp_nil))) (gt_put (pg_sub (pv 2) (pv 1) (set_any (room1 hr))) (gt_nm sc_ways_from.nd rfl (by first | exact Or.inl rfl | exact Or.inr rfl) (gt_nil))) (fun t ht i e => by subst e; revert ht; exact (show ∀ (i : Nat), PT.nm i ∈ ([.put 2 1, .nm 3] : List PT) → i ∉ ([] : List Nat) by intro i h; first | (simp; done) | (simp at h; simp; omega)) i))
  (ss_cons (st_while 1000000 po (mt_cmp (op_neD (room64 hr)) p_ne (pv 3) (me_of (fe_lst (ms_nil))) (nomark _)) (ss_cons (st_own sc_ways_from.nd rfl (by first | exact Or.inl rfl | exact Or.inr rfl) (fe_lst (ms_nil)) (show 4 ∉ ([] : List Nat) by decide))
  (ss_cons (st_for po rfl rfl (mi_seq rfl (me_var (pv 3))) (tg_name sc_ways_from.nd rfl (by first | exact Or.inl rfl | exact Or.inr rfl) (show 5 ∉ ([] : List Nat) by decide)) (ss_one (st_for po rfl rfl (mi_seq rfl (me_at (room1 hr) rfl (pv 0) (pv 5))) (tg_name sc_ways_from.nd rfl (by first | exact Or.inl rfl | exact Or.inr rfl) (show 6 ∉ ([] : List Nat) by decide)) (ss_one (st_if (mt_cmp op_isN p_isN (me_at (room1 hr) rfl (pv 2) (pv 6)) (me_non) (nomark _)) (ss_cons (st_asg (me_op op_addA p_add (me_at (room1 hr) rfl (pv 2) (pv 5)) (me_int)) (tg_put (pg_sub (pv 2) (pv 6) (set_any (room1 hr)))))
  (ss_one (st_expr (me_app (pe_bm F.plainAttrs_list F.slot_list_append F.type_list_append mt_append (pv 4) (ms_cons (me_var (pv 6)) ms_nil)))))) (ss_nil))))))
  (ss_one (st_set sc_ways_from.nd rfl (by first | exact Or.inl rfl | exact Or.inr rfl) (me_var (pv 4)) (show 3 ∉ ([] : List Nat) by decide))))))
  (ss_one (st_ret (me_var (pv 2))))))), hm, F1.kp, hb⟩
theorem sc_parts_of : FnScope ["web", "near", "found", "seen", "one", "ways", "some", "other"] ["web"] (defScope (top 11)) := ⟨rfl, rfl, rfl, by decide +kernel, rfl, by decide +kernel, by decide +kernel⟩
theorem ok_parts_of (B : Bs P w K mg) (c_near_lists : Cal P w K mg base T "near_lists" 1 1 f_near_lists) (c_ways_from : Cal P w K mg base T "ways_from" 1 2 f_ways_from) {f : Addr} {fd : FuncData} (F1 : Fun K "parts_of" "parts_of" (top 11) f fd) (hm : mg "parts_of" = some (.ref f)) (hb : Binds K fd ["web"] []) : Cal P w K mg base T "parts_of" (1 + 1) 1 f_parts_of :=
  ⟨f, fd, ["web"], fn_ok F1 sc_parts_of rfl (fun cdv A outer s H E W hr tk po =>
  ss_cons (st_par3 rfl sc_parts_of.nd rfl rfl rfl (by decide) (by decide) (by decide) rfl rfl rfl (mp_v (me_cal c_near_lists rfl rfl hr tk rfl (ma_v (me_var (pv 0)) (ma_nil))) (mp_f (fe_lst (ms_nil)) (mp_f (fe_lst (ms_nil)) (mp_nil)))) (show ∀ v ∈ ([1, 2, 3] : List Nat), v ∉ ([] : List Nat) by decide) rfl rfl)
  (ss_cons (st_for po rfl rfl (mi_rng1 rfl B.b_range (mo_cons (me_at (room1 hr) rfl (pv 0) (me_int)) (mo_nil))) (tg_name sc_parts_of.nd rfl (by first | exact Or.inl rfl | exact Or.inr rfl) (show 4 ∉ ([] : List Nat) by decide)) (ss_one (st_if (mt_cmp (op_notInAny (room65 hr)) (p_inAny (f := not)) (pv 4) (pv 3) (by with_unfolding_all rfl)) (ss_cons (st_set sc_parts_of.nd rfl (by first | exact Or.inl rfl | exact Or.inr rfl) (me_cal c_ways_from rfl rfl hr tk rfl (ma_v (me_var (pv 1)) (ma_v (me_var (pv 4)) (ma_nil)))) (show 5 ∉ ([] : List Nat) by decide))
  (ss_cons (st_set sc_parts_of.nd rfl (by first | exact Or.inl rfl | exact Or.inr rfl) (me_fnT call_tuple_of p_tuple rfl B.b_tuple boot_tuple (mo_cons (me_of (fe_lc (own := [("other", 7)]) rfl sc_parts_of.nd (show ∀ v ∈ ([7] : List Nat), v ∉ ([] : List Nat) by decide) (by decide) (mi_rng1 rfl B.b_range (mo_cons (me_at (room1 hr) rfl (pv 0) (me_int)) (mo_nil))) (blkOk_by (by kernel_rfl)) (fun _ _ _ _ _ => tg_name sc_parts_of.nd rfl (by first | exact Or.inl rfl | exact Or.inr rfl) (show 7 ∉ ([] : List Nat) by decide)) (fun _ _ _ _ _ => mts_one (mt_cmp op_notN p_notN (me_at (room1 hr) rfl (pv 5) (pv 7)) (me_non) (nomark _))) (fun _ _ _ _ _ => me_var (pv 7)))) (mo_nil))) (show 6 ∉ ([] : List Nat) by decide))
  (ss_cons (st_expr (me_app (pe_bm F.plainAttrs_list F.slot_list_append F.type_list_append mt_append (pv 2) (ms_cons (me_var (pv 6)) ms_nil))))
  (ss_one (st_expr (me_ext rfl (pe_bm F.plainAttrs_list F.slot_list_extend F.type_list_extend mt_extA (pv 3) (ms_cons (me_var (pv 6)) ms_nil)))))))) (ss_nil))))
  (ss_one (st_ret (me_var (pv 2)))))), hm, F1.kp, hb⟩
theorem sc_has_ring : FnScope ["web"] ["web"] (defScope (top 12)) := ⟨rfl, rfl, rfl, by decide +kernel, rfl, by decide +kernel, by decide +kernel⟩
theorem ok_has_ring (B : Bs P w K mg) (c_parts_of : Cal P w K mg base T "parts_of" 2 1 f_parts_of) {f : Addr} {fd : FuncData} (F1 : Fun K "has_ring" "has_ring" (top 12) f fd) (hm : mg "has_ring" = some (.ref f)) (hb : Binds K fd ["web"] []) : Cal P w K mg base T "has_ring" (2 + 1) 1 f_has_ring :=
  ⟨f, fd, ["web"], fn_ok F1 sc_has_ring rfl (fun cdv A outer s H E W hr tk po =>
  ss_one (st_ret (me_cmp op_gt p_gt (me_fnB call_lenA p_len rfl B.b_len PySem.boot_len (mo_cons (me_at (room1 hr) rfl (pv 0) (me_int)) (mo_nil))) (me_op op_sub p_sub (me_at (room1 hr) rfl (pv 0) (me_int)) (me_fnB call_lenA p_len rfl B.b_len PySem.boot_len (mo_cons (me_cal c_parts_of rfl rfl hr tk rfl (ma_v (me_var (pv 0)) (ma_nil))) (mo_nil)))) (nomark _)))), hm, F1.kp, hb⟩
theorem sc_are_moods : FnScope ["value", "many", "mood"] ["value", "many"] (defScope (top 15)) := ⟨rfl, rfl, rfl, by decide +kernel, rfl, by decide +kernel, by decide +kernel⟩
theorem ok_are_moods (B : Bs P w K mg) (c_is_number : Cal P w K mg base T "is_number" 1 3 f_is_number) {f : Addr} {fd : FuncData} (F1 : Fun K "are_moods" "are_moods" (top 15) f fd) (hm : mg "are_moods" = some (.ref f)) (hb : Binds K fd ["value", "many"] []) : Cal P w K mg base T "are_moods" (1 + 1) 2 f_are_moods :=
  ⟨f, fd, ["value", "many"], fn_ok F1 sc_are_moods rfl (fun cdv A outer s H E W hr tk po =>
  ss_one (st_ret (me_and (me_isi rfl rfl B.b_isinstance rfl B.b_tuple boot_tuple (pv 0)) (me_and (me_cmp (op_eqD (room64 hr)) p_eq (me_fnB call_lenA p_len rfl B.b_len PySem.boot_len (mo_cons (pv 0) (mo_nil))) (pv 1) (nomark _)) (me_one (me_fnB (cr_all rfl) p_all rfl B.b_all boot_all (mo_cons (me_of (fe_lc (own := [("mood", 2)]) rfl sc_are_moods.nd (show ∀ v ∈ ([2] : List Nat), v ∉ ([] : List Nat) by decide) (by decide) (mi_seq rfl (me_var (pv 0))) (blkOk_by (by kernel_rfl)) (fun _ _ _ _ _ => tg_name sc_are_moods.nd rfl (by first | exact Or.inl rfl | exact Or.inr rfl) (show 2 ∉ ([] : List Nat) by decide)) (fun _ _ _ _ _ => mts_nil) (fun _ _ _ _ _ => me_cal c_is_number rfl rfl hr takes_no rfl (ma_v (me_var (pv 2)) (ma_v (me_int) (ma_v (me_op op_sub p_sub (me_gint rfl B.g_MOODS) (me_int)) (ma_nil))))))) (mo_nil)))))))), hm, F1.kp, hb⟩
theorem sc_need_both : FnScope ["web", "state"] ["web", "state"] (defScope (top 16)) := ⟨rfl, rfl, rfl, by decide +kernel, rfl, by decide +kernel, by decide +kernel⟩
theorem ok_need_both (B : Bs P w K mg) (c_need_web : Cal P w K mg base T "need_web" 3 1 f_need_web) (c_are_moods : Cal P w K mg base T "are_moods" 2 2 f_are_moods) {f : Addr} {fd : FuncData} (F1 : Fun K "need_both" "need_both" (top 16) f fd) (hm : mg "need_both" = some (.ref f)) (hb : Binds K fd ["web", "state"] []) : Cal P w K mg base T "need_both" (3 + 1) 2 f_need_both :=
  ⟨f, fd, ["web", "state"], fn_ok F1 sc_need_both rfl (fun cdv A outer s H E W hr tk po =>
  ss_cons (st_expr (me_cal c_need_web rfl rfl hr tk rfl (ma_v (me_var (pv 0)) (ma_nil))))
  (ss_one (st_if (mt_not (mt_val (me_cal c_are_moods rfl rfl hr tk rfl (ma_v (me_var (pv 1)) (ma_v (me_at (room1 hr) rfl (pv 0) (me_int)) (ma_nil)))))) (ss_one (st_raiseE rfl tk B.e_BadState rfl rfl)) (ss_nil)))), hm, F1.kp, hb⟩
theorem sc_step : FnScope ["state", "one", "other"] ["state", "one", "other"] (defScope (top 17)) := ⟨rfl, rfl, rfl, by decide +kernel, rfl, by decide +kernel, by decide +kernel⟩
theorem ok_step (B : Bs P w K mg) {f : Addr} {fd : FuncData} (F1 : Fun K "step" "step" (top 17) f fd) (hm : mg "step" = some (.ref f)) (hb : Binds K fd ["state", "one", "other"] []) : Cal P w K mg base T "step" (0 + 1) 3 f_step :=
  ⟨f, fd, ["state", "one", "other"], fn_ok F1 sc_step rfl (fun cdv A outer s H E W hr tk po =>
  ss_one (st_ret (me_op op_sub p_sub (me_op op_mod p_mod (me_op op_addA p_add (me_op op_sub p_sub (me_at (room1 hr) rfl (pv 0) (pv 2)) (me_at (room1 hr) rfl (pv 0) (pv 1))) (me_int)) (me_gint rfl B.g_MOODS)) (me_int)))), hm, F1.kp, hb⟩
theorem sc_heights_from : FnScope ["near", "state", "one", "found", "row", "here", "there", "due"] ["near", "state", "one", "found"] (defScope (top 19)) := ⟨rfl, rfl, rfl, by decide +kernel, rfl, by decide +kernel, by decide +kernel⟩
theorem ok_heights_from (B : Bs P w K mg) (c_step : Cal P w K mg base T "step" 1 3 f_step) {f : Addr} {fd : FuncData} (F1 : Fun K "heights_from" "heights_from" (top 19) f fd) (hm : mg "heights_from" = some (.ref f)) (hb : Binds K fd ["near", "state", "one", "found"] []) : Cal P w K mg base T "heights_from" (1 + 1) 4 f_heights_from :=
  ⟨f, fd, ["near", "state", "one", "found"], fn_ok F1 sc_heights_from rfl (fun cdv A outer s H E W hr tk po =>
  ss_cons (st_parT rfl rfl (mp_v (me_int) (mp_f (fe_lst (ms_cons (me_var (pv 2)) (ms_nil))) (mp_nil))) (gt_put (pg_sub (pv 3) (pv 2) (set_any (room1 hr))) (gt_nm sc_heights_from.nd rfl (by first | exact Or.inl rfl | exact Or.inr rfl) (gt_nil))) (fun t ht i e => by subst e; revert ht; exact (show ∀ (i : Nat), PT.nm i ∈ ([.put 3 2, .nm 4] : List PT) → i ∉ ([3] : List Nat) by intro i h; first | (simp; done) | (simp at h; simp; omega)) i))
  (ss_cons (st_while 1000000 po (mt_cmp (op_neD (room64 hr)) p_ne (pv 4) (me_of (fe_lst (ms_nil))) (nomark _)) (ss_cons (st_set sc_heights_from.nd rfl (by first | exact Or.inl rfl | exact Or.inr rfl) (me_pop (pe_bm0 F.plainAttrs_list F.slot_list_pop F.type_list_pop mt_pop (pv 4))) (show 5 ∉ ([3] : List Nat) by decide))
  (ss_one (st_for po rfl rfl (mi_seq rfl (me_at (room1 hr) rfl (pv 0) (pv 5))) (tg_name sc_heights_from.nd rfl (by first | exact Or.inl rfl | exact Or.inr rfl) (show 6 ∉ ([3] : List Nat) by decide)) (ss_cons (st_set sc_heights_from.nd rfl (by first | exact Or.inl rfl | exact Or.inr rfl) (me_op op_addA p_add (me_at (room1 hr) rfl (pv 3) (pv 5)) (me_cal c_step rfl rfl hr tk rfl (ma_v (me_var (pv 1)) (ma_v (me_var (pv 5)) (ma_v (me_var (pv 6)) (ma_nil)))))) (show 7 ∉ ([3] : List Nat) by decide))
  (ss_one (st_if (mt_cmp op_isN p_isN (me_at (room1 hr) rfl (pv 3) (pv 6)) (me_non) (nomark _)) (ss_cons (st_asg (me_var (pv 7)) (tg_put (pg_sub (pv 3) (pv 6) (set_any (room1 hr)))))
  (ss_one (st_expr (me_app (pe_bm F.plainAttrs_list F.slot_list_append F.type_list_append mt_append (pv 4) (ms_cons (me_var (pv 6)) ms_nil)))))) (ss_one (st_if (mt_cmp (op_neD (room64 hr)) p_ne (me_at (room1 hr) rfl (pv 3) (pv 6)) (pv 7) (nomark _)) (ss_one (st_ret (me_bl))) (ss_nil))))))))))
  (ss_one (st_ret (me_bl))))), hm, F1.kp, hb⟩
theorem sc_heights_in : FnScope ["web", "state", "near", "found", "part", "most", "one"] ["web", "state"] (defScope (top 20)) := ⟨rfl, rfl, rfl, by decide +kernel, rfl, by decide +kernel, by decide +kernel⟩
theorem ok_heights_in (B : Bs P w K mg) (c_near_lists : Cal P w K mg base T "near_lists" 1 1 f_near_lists) (c_parts_of : Cal P w K mg base T "parts_of" 2 1 f_parts_of) (c_heights_from : Cal P w K mg base T "heights_from" 2 4 f_heights_from) {f : Addr} {fd : FuncData} (F1 : Fun K "heights_in" "heights_in" (top 20) f fd) (hm : mg "heights_in" = some (.ref f)) (hb : Binds K fd ["web", "state"] []) : Cal P w K mg base T "heights_in" (2 + 1) 2 f_heights_in :=
  ⟨f, fd, ["web", "state"], fn_ok F1 sc_heights_in rfl (fun cdv A outer s H E W hr tk po =>
  ss_cons (st_parT rfl rfl (mp_v (me_cal c_near_lists rfl rfl hr tk rfl (ma_v (me_var (pv 0)) (ma_nil))) (mp_f (fe_op op_rep p_repL (me_of (fe_lst (ms_cons (me_non) (ms_nil)))) (me_at (room1 hr) rfl (pv 0) (me_int))) (mp_nil))) (gt_nm sc_heights_in.nd rfl (by first | exact Or.inl rfl | exact Or.inr rfl) (gt_nm sc_heights_in.nd rfl (by first | exact Or.inl rfl | exact Or.inr rfl) (gt_nil))) (fun t ht i e => by subst e; revert ht; exact (show ∀ (i : Nat), PT.nm i ∈ ([.nm 2, .nm 3] : List PT) → i ∉ ([] : List Nat) by intro i h; first | (simp; done) | (simp at h; simp; omega)) i))
  (ss_cons (st_for po rfl rfl (mi_seq rfl (me_cal c_parts_of rfl rfl hr tk rfl (ma_v (me_var (pv 0)) (ma_nil)))) (tg_name sc_heights_in.nd rfl (by first | exact Or.inl rfl | exact Or.inr rfl) (show 4 ∉ ([] : List Nat) by decide)) (ss_cons (st_if (mt_not (mt_val (me_cal c_heights_from rfl rfl hr tk rfl (ma_v (me_var (pv 2)) (ma_v (me_var (pv 1)) (ma_v (me_at (room1 hr) rfl (pv 4) (me_int)) (ma_io (pv 3) (ma_nil)))))))) (ss_one (st_ret (me_non))) (ss_nil))
  (ss_cons (st_set sc_heights_in.nd rfl (by first | exact Or.inl rfl | exact Or.inr rfl) (me_fnB (cr_max rfl) p_max rfl B.b_max boot_max (mo_cons (me_of (fe_lc (own := [("one", 6)]) rfl sc_heights_in.nd (show ∀ v ∈ ([6] : List Nat), v ∉ ([] : List Nat) by decide) (by decide) (mi_seq rfl (me_var (pv 4))) (blkOk_by (by kernel_rfl)) (fun _ _ _ _ _ => tg_name sc_heights_in.nd rfl (by first | exact Or.inl rfl | exact Or.inr rfl) (show 6 ∉ ([] : List Nat) by decide)) (fun _ _ _ _ _ => mts_nil) (fun _ _ _ _ _ => me_at (room1 hr) rfl (pv 3) (pv 6)))) (mo_nil))) (show 5 ∉ ([] : List Nat) by decide))
  (ss_one (st_for po rfl rfl (mi_seq rfl (me_var (pv 4))) (tg_name sc_heights_in.nd rfl (by first | exact Or.inl rfl | exact Or.inr rfl) (show 6 ∉ ([] : List Nat) by decide)) (ss_one (st_asg (me_op op_sub p_sub (me_at (room1 hr) rfl (pv 3) (pv 6)) (pv 5)) (tg_put (pg_sub (pv 3) (pv 6) (set_any (room1 hr)))))))))))
  (ss_one (st_ret (me_var (pv 3)))))), hm, F1.kp, hb⟩
theorem sc_lots_of_size : FnScope ["many", "size", "found", "turn", "longer", "lot", "one"] ["many", "size"] (defScope (top 22)) := ⟨rfl, rfl, rfl, by decide +kernel, rfl, by decide +kernel, by decide +kernel⟩
theorem ok_lots_of_size (B : Bs P w K mg) {f : Addr} {fd : FuncData} (F1 : Fun K "lots_of_size" "lots_of_size" (top 22) f fd) (hm : mg "lots_of_size" = some (.ref f)) (hb : Binds K fd ["many", "size"] []) : Cal P w K mg base T "lots_of_size" (0 + 1) 2 f_lots_of_size :=
  ⟨f, fd, ["many", "size"], fn_ok F1 sc_lots_of_size rfl (fun cdv A outer s H E W hr tk po =>
  ss_cons (st_set sc_lots_of_size.nd rfl (by first | exact Or.inl rfl | exact Or.inr rfl) (me_of (fe_lst (ms_cons (me_tup (ms_nil)) (ms_nil)))) (show 2 ∉ ([] : List Nat) by decide))
  (ss_cons (st_for po rfl rfl (mi_rng1 rfl B.b_range (mo_cons (pv 1) (mo_nil))) (tg_name sc_lots_of_size.nd rfl (by first | exact Or.inl rfl | exact Or.inr rfl) (show 3 ∉ ([] : List Nat) by decide)) (ss_cons (st_own sc_lots_of_size.nd rfl (by first | exact Or.inl rfl | exact Or.inr rfl) (fe_lst (ms_nil)) (show 4 ∉ ([] : List Nat) by decide))
  (ss_cons (st_for po rfl rfl (mi_seq rfl (me_var (pv 2))) (tg_name sc_lots_of_size.nd rfl (by first | exact Or.inl rfl | exact Or.inr rfl) (show 5 ∉ ([] : List Nat) by decide)) (ss_one (st_expr (me_ext rfl (pe_bm F.plainAttrs_list F.slot_list_extend F.type_list_extend mt_extA (pv 4) (ms_cons (me_of (fe_lc (own := [("one", 6)]) rfl sc_lots_of_size.nd (show ∀ v ∈ ([6] : List Nat), v ∉ ([] : List Nat) by decide) (by decide) (mi_rng2 rfl B.b_range (mo_cons (me_if (mt_cmp (op_neD (room64 hr)) p_ne (pv 5) (me_tup (ms_nil)) (nomark _)) (me_op op_addA p_add (me_at (room1 hr) rfl (pv 5) (me_neg (me_int))) (me_int)) (me_int)) (mo_cons (pv 0) (mo_nil)))) (blkOk_by (by kernel_rfl)) (fun _ _ _ _ _ => tg_name sc_lots_of_size.nd rfl (by first | exact Or.inl rfl | exact Or.inr rfl) (show 6 ∉ ([] : List Nat) by decide)) (fun _ _ _ _ _ => mts_nil) (fun _ _ _ _ _ => me_op op_addA p_add (pv 5) (me_tup (ms_cons (me_var (pv 6)) (ms_nil)))))) ms_nil))))))
  (ss_one (st_set sc_lots_of_size.nd rfl (by first | exact Or.inl rfl | exact Or.inr rfl) (me_var (pv 4)) (show 2 ∉ ([] : List Nat) by decide))))))
  (ss_one (st_ret (me_var (pv 2)))))), hm, F1.kp, hb⟩
theorem sc_painted : FnScope ["state", "lot", "found", "one", "longer", "other", "more"] ["state", "lot"] (defScope (top 23)) := ⟨rfl, rfl, rfl, by decide +kernel, rfl, by decide +kernel, by decide +kernel⟩
theorem ok_painted (B : Bs P w K mg) {f : Addr} {fd : FuncData} (F1 : Fun K "painted" "painted" (top 23) f fd) (hm : mg "painted" = some (.ref f)) (hb : Binds K fd ["state", "lot"] []) : Cal P w K mg base T "painted" (0 + 1) 2 f_painted :=
  ⟨f, fd, ["state", "lot"], fn_ok F1 sc_painted rfl (fun cdv A outer s H E W hr tk po =>
  ss_cons (st_set sc_painted.nd rfl (by first | exact Or.inl rfl | exact Or.inr rfl) (me_of (fe_lst (ms_cons (me_var (pv 0)) (ms_nil)))) (show 2 ∉ ([] : List Nat) by decide))
  (ss_cons (st_for po rfl rfl (mi_seq rfl (me_var (pv 1))) (tg_name sc_painted.nd rfl (by first | exact Or.inl rfl | exact Or.inr rfl) (show 3 ∉ ([] : List Nat) by decide)) (ss_cons (st_own sc_painted.nd rfl (by first | exact Or.inl rfl | exact Or.inr rfl) (fe_lst (ms_nil)) (show 4 ∉ ([] : List Nat) by decide))
  (ss_cons (st_for po rfl rfl (mi_seq rfl (me_var (pv 2))) (tg_name sc_painted.nd rfl (by first | exact Or.inl rfl | exact Or.inr rfl) (show 5 ∉ ([] : List Nat) by decide)) (ss_one (st_expr (me_ext rfl (pe_bm F.plainAttrs_list F.slot_list_extend F.type_list_extend mt_extA (pv 4) (ms_cons (me_of (fe_lc (own := [("more", 6)]) rfl sc_painted.nd (show ∀ v ∈ ([6] : List Nat), v ∉ ([] : List Nat) by decide) (by decide) (mi_rng2 rfl B.b_range (mo_cons (me_int) (mo_cons (me_gint rfl B.g_MOODS) (mo_nil)))) (blkOk_by (by kernel_rfl)) (fun _ _ _ _ _ => tg_name sc_painted.nd rfl (by first | exact Or.inl rfl | exact Or.inr rfl) (show 6 ∉ ([] : List Nat) by decide)) (fun _ _ _ _ _ => mts_nil) (fun _ _ _ _ _ => me_op op_addA p_add (me_op op_addA p_add (me_cut rfl (pv 5) (po_no) (po_at (me_var (pv 3)))) (me_tup (ms_cons (me_op op_mod p_mod (me_op op_addA p_add (me_at (room1 hr) rfl (pv 5) (pv 3)) (pv 6)) (me_gint rfl B.g_MOODS)) (ms_nil)))) (me_cut rfl (pv 5) (po_at (me_op op_addA p_add (pv 3) (me_int))) (po_no))))) ms_nil))))))
  (ss_one (st_set sc_painted.nd rfl (by first | exact Or.inl rfl | exact Or.inr rfl) (me_var (pv 4)) (show 2 ∉ ([] : List Nat) by decide))))))
  (ss_one (st_ret (me_var (pv 2)))))), hm, F1.kp, hb⟩
theorem sc_lots_that : FnScope ["web", "state", "size", "is_calm", "found", "lot", "other"] ["web", "state", "size", "is_calm"] (defScope (top 24)) := ⟨rfl, rfl, rfl, by decide +kernel, rfl, by decide +kernel, by decide +kernel⟩
theorem ok_lots_that (B : Bs P w K mg) (c_heights_in : Cal P w K mg base T "heights_in" 3 2 f_heights_in) (c_lots_of_size : Cal P w K mg base T "lots_of_size" 1 2 f_lots_of_size) (c_painted : Cal P w K mg base T "painted" 1 2 f_painted) {f : Addr} {fd : FuncData} (F1 : Fun K "lots_that" "lots_that" (top 24) f fd) (hm : mg "lots_that" = some (.ref f)) (hb : Binds K fd ["web", "state", "size", "is_calm"] []) : Cal P w K mg base T "lots_that" (3 + 1) 4 f_lots_that :=
  ⟨f, fd, ["web", "state", "size", "is_calm"], fn_ok F1 sc_lots_that rfl (fun cdv A outer s H E W hr tk po =>
  ss_cons (st_own sc_lots_that.nd rfl (by first | exact Or.inl rfl | exact Or.inr rfl) (fe_lst (ms_nil)) (show 4 ∉ ([] : List Nat) by decide))
  (ss_cons (st_for po rfl rfl (mi_seq rfl (me_cal c_lots_of_size rfl rfl hr tk rfl (ma_v (me_at (room1 hr) rfl (pv 0) (me_int)) (ma_v (me_var (pv 2)) (ma_nil))))) (tg_name sc_lots_that.nd rfl (by first | exact Or.inl rfl | exact Or.inr rfl) (show 5 ∉ ([] : List Nat) by decide)) (ss_one (st_if (mt_val (me_fnB (cr_any rfl) p_any rfl B.b_any boot_any (mo_cons (me_of (fe_lc (own := [("other", 6)]) rfl sc_lots_that.nd (show ∀ v ∈ ([6] : List Nat), v ∉ ([] : List Nat) by decide) (by decide) (mi_seq rfl (me_cal c_painted rfl rfl hr tk rfl (ma_v (me_var (pv 1)) (ma_v (me_var (pv 5)) (ma_nil))))) (blkOk_by (by kernel_rfl)) (fun _ _ _ _ _ => tg_name sc_lots_that.nd rfl (by first | exact Or.inl rfl | exact Or.inr rfl) (show 6 ∉ ([] : List Nat) by decide)) (fun _ _ _ _ _ => mts_nil) (fun _ _ _ _ _ => me_cmp (op_eqD (room64 hr)) p_eq (me_cmp op_notN p_notN (me_cal c_heights_in rfl rfl hr takes_no rfl (ma_v (me_var (pv 0)) (ma_v (me_var (pv 6)) (ma_nil)))) (me_non) (nomark _)) (pv 3) (nomark _)))) (mo_nil)))) (ss_one (st_expr (me_app (pe_bm F.plainAttrs_list F.slot_list_append F.type_list_append mt_append (pv 4) (ms_cons (me_var (pv 5)) ms_nil))))) (ss_nil))))
  (ss_one (st_ret (me_var (pv 4)))))), hm, F1.kp, hb⟩
theorem sc_fewest : FnScope ["web", "state", "is_calm", "size", "found"] ["web", "state", "is_calm"] (defScope (top 25)) := ⟨rfl, rfl, rfl, by decide +kernel, rfl, by decide +kernel, by decide +kernel⟩
theorem ok_fewest (B : Bs P w K mg) (c_lots_that : Cal P w K mg base T "lots_that" 4 4 f_lots_that) {f : Addr} {fd : FuncData} (F1 : Fun K "fewest" "fewest" (top 25) f fd) (hm : mg "fewest" = some (.ref f)) (hb : Binds K fd ["web", "state", "is_calm"] []) : Cal P w K mg base T "fewest" (4 + 1) 3 f_fewest :=
  ⟨f, fd, ["web", "state", "is_calm"], fn_ok F1 sc_fewest rfl (fun cdv A outer s H E W hr tk po =>
  ss_cons (st_for po rfl rfl (mi_rng1 rfl B.b_range (mo_cons (me_op op_addA p_add (me_at (room1 hr) rfl (pv 0) (me_int)) (me_int)) (mo_nil))) (tg_name sc_fewest.nd rfl (by first | exact Or.inl rfl | exact Or.inr rfl) (show 3 ∉ ([] : List Nat) by decide)) (ss_cons (st_set sc_fewest.nd rfl (by first | exact Or.inl rfl | exact Or.inr rfl) (me_cal c_lots_that rfl rfl hr tk rfl (ma_v (me_var (pv 0)) (ma_v (me_var (pv 1)) (ma_v (me_var (pv 3)) (ma_v (me_var (pv 2)) (ma_nil)))))) (show 4 ∉ ([] : List Nat) by decide))
  (ss_one (st_if (mt_cmp (op_neD (room64 hr)) p_ne (pv 4) (me_of (fe_lst (ms_nil))) (nomark _)) (ss_one (st_ret (me_fnT call_tuple_of p_tuple rfl B.b_tuple boot_tuple (mo_cons (pv 4) (mo_nil))))) (ss_nil)))))
  (ss_one (st_ret (me_tup (ms_nil))))), hm, F1.kp, hb⟩
theorem sc_calmed : FnScope ["web", "state"] ["web", "state"] (defScope (top 26)) := ⟨rfl, rfl, rfl, by decide +kernel, rfl, by decide +kernel, by decide +kernel⟩
theorem ok_calmed (B : Bs P w K mg) (c_need_both : Cal P w K mg base T "need_both" 4 2 f_need_both) (c_fewest : Cal P w K mg base T "fewest" 5 3 f_fewest) {f : Addr} {fd : FuncData} (F1 : Fun K "calmed" "calmed" (top 26) f fd) (hm : mg "calmed" = some (.ref f)) (hb : Binds K fd ["web", "state"] []) : Cal P w K mg base T "calmed" (5 + 1) 2 f_calmed :=
  ⟨f, fd, ["web", "state"], fn_ok F1 sc_calmed rfl (fun cdv A outer s H E W hr tk po =>
  ss_cons (st_expr (me_cal c_need_both rfl rfl hr tk rfl (ma_v (me_var (pv 0)) (ma_v (me_var (pv 1)) (ma_nil)))))
  (ss_one (st_ret (me_cal c_fewest rfl rfl hr tk rfl (ma_v (me_var (pv 0)) (ma_v (me_var (pv 1)) (ma_v (me_bl) (ma_nil)))))))), hm, F1.kp, hb⟩
theorem sc_stirring : FnScope ["web", "state"] ["web", "state"] (defScope (top 27)) := ⟨rfl, rfl, rfl, by decide +kernel, rfl, by decide +kernel, by decide +kernel⟩
theorem ok_stirring (B : Bs P w K mg) (c_has_ring : Cal P w K mg base T "has_ring" 3 1 f_has_ring) (c_need_both : Cal P w K mg base T "need_both" 4 2 f_need_both) (c_fewest : Cal P w K mg base T "fewest" 5 3 f_fewest) {f : Addr} {fd : FuncData} (F1 : Fun K "stirring" "stirring" (top 27) f fd) (hm : mg "stirring" = some (.ref f)) (hb : Binds K fd ["web", "state"] []) : Cal P w K mg base T "stirring" (5 + 1) 2 f_stirring :=
  ⟨f, fd, ["web", "state"], fn_ok F1 sc_stirring rfl (fun cdv A outer s H E W hr tk po =>
  ss_cons (st_expr (me_cal c_need_both rfl rfl hr tk rfl (ma_v (me_var (pv 0)) (ma_v (me_var (pv 1)) (ma_nil)))))
  (ss_one (st_ret (me_if (mt_val (me_cal c_has_ring rfl rfl hr tk rfl (ma_v (me_var (pv 0)) (ma_nil)))) (me_cal c_fewest rfl rfl hr tk rfl (ma_v (me_var (pv 0)) (ma_v (me_var (pv 1)) (ma_v (me_bl) (ma_nil))))) (me_tup (ms_nil)))))), hm, F1.kp, hb⟩
theorem sc__law_taken : FnScope ["_law_row", "_law_many", "_law_found", "_law_cell"] ["_law_row", "_law_many"] (defScope (top 29)) := ⟨rfl, rfl, rfl, by decide +kernel, rfl, by decide +kernel, by decide +kernel⟩
theorem ok__law_taken (B : Bs P w K mg) {f : Addr} {fd : FuncData} (F1 : Fun K "_law_taken" "_law_taken" (top 29) f fd) (hm : mg "_law_taken" = some (.ref f)) (hb : Binds K fd ["_law_row", "_law_many"] []) : Cal P w K mg base T "_law_taken" (0 + 1) 2 f__law_taken :=
  ⟨f, fd, ["_law_row", "_law_many"], fn_ok F1 sc__law_taken rfl (fun cdv A outer s H E W hr tk po =>
  ss_cons (st_if (mt_cmp op_gt p_gt (me_at (room1 hr) rfl (pv 0) (me_int)) (me_int) (nomark _)) (ss_cons (st_set sc__law_taken.nd rfl (by first | exact Or.inl rfl | exact Or.inr rfl) (me_op op_mod p_mod (me_fnT call_int1 p_int rfl B.b_int boot_int (mo_cons (me_at (room1 hr) rfl (pv 0) (me_int)) (mo_nil))) (pv 1)) (show 2 ∉ ([0] : List Nat) by decide))
  (ss_cons (st_asg (me_op op_fdivW p_fdiv (me_at (room1 hr) rfl (pv 0) (me_int)) (pv 1)) (tg_put (pg_sub (pv 0) (me_int) (set_any (room1 hr)))))
  (ss_one (st_ret (me_var (pv 2)))))) (ss_nil))
  (ss_cons (st_asg (me_op op_addA p_add (me_at (room1 hr) rfl (pv 0) (me_int)) (me_int)) (tg_put (pg_sub (pv 0) (me_int) (set_any (room1 hr)))))
  (ss_cons (st_if (mt_cmp op_gt p_gt (me_at (room1 hr) rfl (pv 0) (me_int)) (me_fnB call_lenA p_len rfl B.b_len PySem.boot_len (mo_cons (me_at (room1 hr) rfl (pv 0) (me_int)) (mo_nil))) (nomark _)) (ss_cons (st_asg (me_op op_mod p_mod (me_fnT call_int1 p_int rfl B.b_int boot_int (mo_cons (me_op op_addA p_add (me_op op_mulA p_mul (me_at (room1 hr) rfl (pv 0) (me_int)) (me_int)) (me_int)) (mo_nil))) (me_int)) (tg_put (pg_sub (pv 0) (me_int) (set_any (room1 hr)))))
  (ss_one (st_ret (me_op op_mod p_mod (me_fnT call_int1 p_int rfl B.b_int boot_int (mo_cons (me_op op_fdivW p_fdiv (me_at (room1 hr) rfl (pv 0) (me_int)) (me_int)) (mo_nil))) (pv 1))))) (ss_nil))
  (ss_cons (st_set sc__law_taken.nd rfl (by first | exact Or.inl rfl | exact Or.inr rfl) (me_at (room1 hr) rfl (me_at (room1 hr) rfl (pv 0) (me_int)) (me_op op_sub p_sub (me_at (room1 hr) rfl (pv 0) (me_int)) (me_int))) (show 3 ∉ ([0] : List Nat) by decide))
  (ss_cons (st_asg (me_op op_mod p_mod (me_fnT call_int1 p_int rfl B.b_int boot_int (mo_cons (me_op op_addA p_add (me_op op_addA p_add (me_op op_mulA p_mul (me_at (room1 hr) rfl (pv 0) (me_int)) (me_int)) (pv 3)) (me_int)) (mo_nil))) (me_int)) (tg_put (pg_sub (pv 0) (me_int) (set_any (room1 hr)))))
  (ss_cons (st_if (mt_cmp (op_ge.or (op_geT (room0 hr))) p_ge (pv 3) (me_op op_pow p_pow (me_int) (me_int)) (nomark _)) (ss_one (st_asg (me_op op_fdivW p_fdiv (pv 3) (pv 1)) (tg_put (pg_sub (pv 0) (me_int) (set_any (room1 hr)))))) (ss_nil))
  (ss_one (st_ret (me_op op_mod p_mod (me_fnT call_int1 p_int rfl B.b_int boot_int (mo_cons (pv 3) (mo_nil))) (pv 1)))))))))), hm, F1.kp, hb⟩
theorem sc__law_alike : FnScope ["_law_found", "_law_due", "_law_k"] ["_law_found", "_law_due"] (defScope (top 30)) := ⟨rfl, rfl, rfl, by decide +kernel, rfl, by decide +kernel, by decide +kernel⟩
theorem ok__law_alike (B : Bs P w K mg) {k : Nat} (c__law_alike : Cal P w K mg base T "_law_alike" k 2 (f__law_alike k)) {f : Addr} {fd : FuncData} (F1 : Fun K "_law_alike" "_law_alike" (top 30) f fd) (hm : mg "_law_alike" = some (.ref f)) (hb : Binds K fd ["_law_found", "_law_due"] []) : Cal P w K mg base T "_law_alike" (k + 1) 2 (f__law_alike (k + 1)) :=
  ⟨f, fd, ["_law_found", "_law_due"], fn_ok F1 sc__law_alike rfl (fun cdv A outer s H E W hr tk po =>
  ss_cons (st_if (mt_val (me_isi2 rfl rfl B.b_isinstance rfl B.b_tuple boot_tuple rfl B.b_list boot_list (pv 1))) (ss_cons (st_if (mt_bool (mw_or (mt_not (mt_val (me_isi2 rfl rfl B.b_isinstance rfl B.b_tuple boot_tuple rfl B.b_list boot_list (pv 0)))) (mw_or1 (mt_cmp (op_neD (room64 hr)) p_ne (me_isi rfl rfl B.b_isinstance rfl B.b_list boot_list (pv 0)) (me_isi rfl rfl B.b_isinstance rfl B.b_list boot_list (pv 1)) (nomark _))))) (ss_one (st_ret (me_bl))) (ss_nil))
  (ss_cons (st_if (mt_cmp (op_neD (room64 hr)) p_ne (me_fnB call_lenA p_len rfl B.b_len PySem.boot_len (mo_cons (pv 0) (mo_nil))) (me_fnB call_lenA p_len rfl B.b_len PySem.boot_len (mo_cons (pv 1) (mo_nil))) (nomark _)) (ss_one (st_ret (me_bl))) (ss_nil))
  (ss_one (st_ret (me_cmp (op_eqD (room64 hr)) p_eq (me_of (fe_lc (own := [("_law_k", 2)]) rfl sc__law_alike.nd (show ∀ v ∈ ([2] : List Nat), v ∉ ([] : List Nat) by decide) (by decide) (mi_rng1 rfl B.b_range (mo_cons (me_fnB call_lenA p_len rfl B.b_len PySem.boot_len (mo_cons (pv 1) (mo_nil))) (mo_nil))) (blkOk_by (by kernel_rfl)) (fun _ _ _ _ _ => tg_name sc__law_alike.nd rfl (by first | exact Or.inl rfl | exact Or.inr rfl) (show 2 ∉ ([] : List Nat) by decide)) (fun _ _ _ _ _ => mts_one (mt_not (mt_val (me_cal c__law_alike rfl rfl hr takes_no rfl (ma_v (me_at (room1 hr) rfl (pv 0) (pv 2)) (ma_v (me_at (room1 hr) rfl (pv 1) (pv 2)) (ma_nil))) (Nat.le_refl _))))) (fun _ _ _ _ _ => me_var (pv 2)))) (me_of (fe_lst (ms_nil))) (nomark _)))))) (ss_nil))
  (ss_cons (st_if (mt_bool (mw_or (mt_cmp op_isN p_isN (pv 1) (me_non) (nomark _)) (mw_or1 (mt_val (me_isi rfl rfl B.b_isinstance rfl B.b_str boot_str (pv 1)))))) (ss_one (st_ret (me_and (me_cmp (op_eqD (room64 hr)) p_eq (pv 0) (pv 1) (nomark _)) (me_one (me_cmp (op_eqD (room64 hr)) p_eq (me_isi rfl rfl B.b_isinstance rfl B.b_str boot_str (pv 0)) (me_isi rfl rfl B.b_isinstance rfl B.b_str boot_str (pv 1)) (nomark _)))))) (ss_nil))
  (ss_one (st_ret (me_and (me_isi rfl rfl B.b_isinstance rfl B.b_int boot_int (pv 0)) (me_and (me_cmp (op_eqD (room64 hr)) p_eq (me_isi rfl rfl B.b_isinstance rfl B.b_bool boot_bool (pv 0)) (me_isi rfl rfl B.b_isinstance rfl B.b_bool boot_bool (pv 1)) (nomark _)) (me_one (me_cmp (op_eqD (room64 hr)) p_eq (pv 0) (pv 1) (nomark _))))))))), hm, F1.kp, hb⟩
theorem sc__law_web : FnScope ["_law_row", "_law_most", "_law_folk", "_law_way", "_law_found", "_law_one", "_law_turn", "_law_other"] ["_law_row", "_law_most"] (defScope (top 31)) := ⟨rfl, rfl, rfl, by decide +kernel, rfl, by decide +kernel, by decide +kernel⟩
theorem ok__law_web (B : Bs P w K mg) (c__law_taken : Cal P w K mg base T "_law_taken" 1 2 f__law_taken) {f : Addr} {fd : FuncData} (F1 : Fun K "_law_web" "_law_web" (top 31) f fd) (hm : mg "_law_web" = some (.ref f)) (hb : Binds K fd ["_law_row", "_law_most"] []) : Cal P w K mg base T "_law_web" (1 + 1) 2 f__law_web :=
  ⟨f, fd, ["_law_row", "_law_most"], fn_ok F1 sc__law_web rfl (fun cdv A outer s H E W hr tk po =>
  ss_cons (st_par3 rfl sc__law_web.nd rfl rfl rfl (by decide) (by decide) (by decide) rfl rfl rfl (mp_v (me_op op_addA p_add (me_int) (me_cal c__law_taken rfl rfl hr tk rfl (ma_io (pv 0) (ma_v (me_var (pv 1)) (ma_nil))))) (mp_v (me_cal c__law_taken rfl rfl hr tk rfl (ma_io (pv 0) (ma_v (me_int) (ma_nil)))) (mp_f (fe_dict0) (mp_nil)))) (show ∀ v ∈ ([2, 3, 4] : List Nat), v ∉ ([0] : List Nat) by decide) rfl rfl)
  (ss_cons (st_for po rfl rfl (mi_rng2 rfl B.b_range (mo_cons (me_int) (mo_cons (pv 2) (mo_nil)))) (tg_name sc__law_web.nd rfl (by first | exact Or.inl rfl | exact Or.inr rfl) (show 5 ∉ ([0] : List Nat) by decide)) (ss_one (st_if (mt_bool (mw_or (mt_cmp op_gt p_gt (pv 3) (me_int) (nomark _)) (mw_or1 (mt_cmp op_gt p_gt (me_cal c__law_taken rfl rfl hr tk rfl (ma_io (pv 0) (ma_v (me_int) (ma_nil)))) (me_int) (nomark _))))) (ss_one (st_asg (me_bl) (tg_put (pg_sub (pv 4) (me_tup (ms_cons (me_if (mt_cmp op_lt p_lt (pv 3) (me_int) (nomark _)) (me_op op_sub p_sub (pv 5) (me_int)) (me_cal c__law_taken rfl rfl hr tk rfl (ma_io (pv 0) (ma_v (me_var (pv 5)) (ma_nil))))) (ms_cons (me_var (pv 5)) (ms_nil)))) (set_any (room1 hr)))))) (ss_nil))))
  (ss_cons (st_if (mt_bool (mw_and (mt_cmp (op_inAny (room65 hr)) (p_inAny (f := id)) (pv 3) (me_of (fe_lst (ms_cons (me_int) (ms_cons (me_int) (ms_nil))))) (by with_unfolding_all rfl)) (mw_and1 (mt_cmp op_gt p_gt (pv 2) (me_int) (nomark _))))) (ss_one (st_asg (me_bl) (tg_put (pg_sub (pv 4) (me_tup (ms_cons (me_int) (ms_cons (me_op op_sub p_sub (pv 2) (me_int)) (ms_nil)))) (set_any (room1 hr)))))) (ss_nil))
  (ss_cons (st_for po rfl rfl (mi_rng1 rfl B.b_range (mo_cons (me_if (mt_cmp (op_neD (room64 hr)) p_ne (pv 3) (me_int) (nomark _)) (me_cal c__law_taken rfl rfl hr tk rfl (ma_io (pv 0) (ma_v (me_var (pv 2)) (ma_nil)))) (me_int)) (mo_nil))) (tg_name sc__law_web.nd rfl (by first | exact Or.inl rfl | exact Or.inr rfl) (show 6 ∉ ([0] : List Nat) by decide)) (ss_cons (st_par2 rfl sc__law_web.nd rfl rfl (by decide) rfl rfl (mp_v (me_cal c__law_taken rfl rfl hr tk rfl (ma_io (pv 0) (ma_v (me_var (pv 2)) (ma_nil)))) (mp_v (me_cal c__law_taken rfl rfl hr tk rfl (ma_io (pv 0) (ma_v (me_var (pv 2)) (ma_nil)))) (mp_nil))) (show ∀ v ∈ ([5, 7] : List Nat), v ∉ ([0] : List Nat) by decide) rfl rfl)
  (ss_one (st_if (mt_cmp (op_neD (room64 hr)) p_ne (pv 5) (pv 7) (nomark _)) (ss_one (st_asg (me_bl) (tg_put (pg_sub (pv 4) (me_tup (ms_cons (me_fnB (call_min2 rfl) p_min2 rfl B.b_min boot_min (mo_cons (pv 5) (mo_cons (pv 7) (mo_nil)))) (ms_cons (me_fnB (call_max2 rfl) p_max2 rfl B.b_max boot_max (mo_cons (pv 5) (mo_cons (pv 7) (mo_nil)))) (ms_nil)))) (set_any (room1 hr)))))) (ss_nil)))))
  (ss_one (st_ret (me_tup (ms_cons (me_var (pv 2)) (ms_cons (me_fnT call_tuple_of p_tuple rfl B.b_tuple boot_tuple (mo_cons (me_of (fe_sort rfl rfl B.b_sorted (mo_cons (me_of (fe_keys rfl rfl rfl B.b_list (mo_cons (pv 4) (mo_nil)))) (mo_nil)))) (mo_nil))) (ms_nil)))))))))), hm, F1.kp, hb⟩
theorem sc__law_state : FnScope ["_law_row", "_law_web_here", "_law_way", "_law_found", "_law_one", "_law_drawn"] ["_law_row", "_law_web_here"] (defScope (top 32)) := ⟨rfl, rfl, rfl, by decide +kernel, rfl, by decide +kernel, by decide +kernel⟩
theorem ok__law_state (B : Bs P w K mg) (c__law_taken : Cal P w K mg base T "_law_taken" 1 2 f__law_taken) {f : Addr} {fd : FuncData} (F1 : Fun K "_law_state" "_law_state" (top 32) f fd) (hm : mg "_law_state" = some (.ref f)) (hb : Binds K fd ["_law_row", "_law_web_here"] []) : Cal P w K mg base T "_law_state" (1 + 1) 2 f__law_state :=
  ⟨f, fd, ["_law_row", "_law_web_here"], fn_ok F1 sc__law_state rfl (fun cdv A outer s H E W hr tk po =>
  ss_cons (st_par2 rfl sc__law_state.nd rfl rfl (by decide) rfl rfl (mp_v (me_cal c__law_taken rfl rfl hr tk rfl (ma_io (pv 0) (ma_v (me_int) (ma_nil)))) (mp_f (fe_lst (ms_nil)) (mp_nil))) (show ∀ v ∈ ([2, 3] : List Nat), v ∉ ([0] : List Nat) by decide) rfl rfl)
  (ss_cons (st_for po rfl rfl (mi_rng1 rfl B.b_range (mo_cons (me_at (room1 hr) rfl (pv 1) (me_int)) (mo_nil))) (tg_name sc__law_state.nd rfl (by first | exact Or.inl rfl | exact Or.inr rfl) (show 4 ∉ ([0] : List Nat) by decide)) (ss_cons (st_set sc__law_state.nd rfl (by first | exact Or.inl rfl | exact Or.inr rfl) (me_cal c__law_taken rfl rfl hr tk rfl (ma_io (pv 0) (ma_v (me_int) (ma_nil)))) (show 5 ∉ ([0] : List Nat) by decide))
  (ss_one (st_expr (me_app (pe_bm F.plainAttrs_list F.slot_list_append F.type_list_append mt_append (pv 3) (ms_cons (me_if (mt_cmp op_gt p_gt (pv 2) (me_int) (nomark _)) (me_var (pv 5)) (me_op op_mod p_mod (me_fnT call_int1 p_int rfl B.b_int boot_int (mo_cons (me_op op_addA p_add (pv 4) (me_fnT call_int1 p_int rfl B.b_int boot_int (mo_cons (me_cmp (op_eqD (room64 hr)) p_eq (pv 5) (me_int) (nomark _)) (mo_nil)))) (mo_nil))) (me_int))) ms_nil)))))))
  (ss_one (st_ret (me_fnT call_tuple_of p_tuple rfl B.b_tuple boot_tuple (mo_cons (pv 3) (mo_nil))))))), hm, F1.kp, hb⟩
theorem sc__law_near : FnScope ["_law_web_here", "_law_found", "_law_one", "_law_other"] ["_law_web_here"] (defScope (top 33)) := ⟨rfl, rfl, rfl, by decide +kernel, rfl, by decide +kernel, by decide +kernel⟩
theorem ok__law_near (B : Bs P w K mg) {f : Addr} {fd : FuncData} (F1 : Fun K "_law_near" "_law_near" (top 33) f fd) (hm : mg "_law_near" = some (.ref f)) (hb : Binds K fd ["_law_web_here"] []) : Cal P w K mg base T "_law_near" (0 + 1) 1 f__law_near :=
  ⟨f, fd, ["_law_web_here"], fn_ok F1 sc__law_near rfl (fun cdv A outer s H E W hr tk po =>
  ss_cons (st_own sc__law_near.nd rfl (by first | exact Or.inl rfl | exact Or.inr rfl) (fe_lst (ms_nil)) (show 1 ∉ ([] : List Nat) by decide))
  (ss_cons (st_for po rfl rfl (mi_rng1 rfl B.b_range (mo_cons (me_at (room1 hr) rfl (pv 0) (me_int)) (mo_nil))) (tg_name sc__law_near.nd rfl (by first | exact Or.inl rfl | exact Or.inr rfl) (show 2 ∉ ([] : List Nat) by decide)) (ss_one (st_expr (me_app (pe_bm F.plainAttrs_list F.slot_list_append F.type_list_append mt_append (pv 1) (ms_cons (me_of (fe_lc (own := [("_law_other", 3)]) rfl sc__law_near.nd (show ∀ v ∈ ([3] : List Nat), v ∉ ([] : List Nat) by decide) (by decide) (mi_rng1 rfl B.b_range (mo_cons (me_at (room1 hr) rfl (pv 0) (me_int)) (mo_nil))) (blkOk_by (by kernel_rfl)) (fun _ _ _ _ _ => tg_name sc__law_near.nd rfl (by first | exact Or.inl rfl | exact Or.inr rfl) (show 3 ∉ ([] : List Nat) by decide)) (fun _ _ _ _ _ => mts_one (mt_cmp (op_inAny (room65 hr)) (p_inAny (f := id)) (me_tup (ms_cons (me_fnB (call_min2 rfl) p_min2 rfl B.b_min boot_min (mo_cons (pv 2) (mo_cons (pv 3) (mo_nil)))) (ms_cons (me_fnB (call_max2 rfl) p_max2 rfl B.b_max boot_max (mo_cons (pv 2) (mo_cons (pv 3) (mo_nil)))) (ms_nil)))) (me_at (room1 hr) rfl (pv 0) (me_int)) (by with_unfolding_all rfl))) (fun _ _ _ _ _ => me_var (pv 3)))) ms_nil))))))
  (ss_one (st_ret (me_var (pv 1)))))), hm, F1.kp, hb⟩
theorem sc__law_step : FnScope ["_law_state_here", "_law_one", "_law_other", "_law_pair"] ["_law_state_here", "_law_one", "_law_other"] (defScope (top 34)) := ⟨rfl, rfl, rfl, by decide +kernel, rfl, by decide +kernel, by decide +kernel⟩
theorem ok__law_step (B : Bs P w K mg) {f : Addr} {fd : FuncData} (F1 : Fun K "_law_step" "_law_step" (top 34) f fd) (hm : mg "_law_step" = some (.ref f)) (hb : Binds K fd ["_law_state_here", "_law_one", "_law_other"] []) : Cal P w K mg base T "_law_step" (0 + 1) 3 f__law_step :=
  ⟨f, fd, ["_law_state_here", "_law_one", "_law_other"], fn_ok F1 sc__law_step rfl (fun cdv A outer s H E W hr tk po =>
  ss_cons (st_set sc__law_step.nd rfl (by first | exact Or.inl rfl | exact Or.inr rfl) (me_tup (ms_cons (me_at (room1 hr) rfl (pv 0) (pv 1)) (ms_cons (me_at (room1 hr) rfl (pv 0) (pv 2)) (ms_nil)))) (show 3 ∉ ([] : List Nat) by decide))
  (ss_one (st_ret (me_if (mt_cmp (op_inAny (room65 hr)) (p_inAny (f := id)) (pv 3) (me_of (fe_lst (ms_cons (me_tup (ms_cons (me_int) (ms_cons (me_int) (ms_nil)))) (ms_cons (me_tup (ms_cons (me_int) (ms_cons (me_int) (ms_nil)))) (ms_cons (me_tup (ms_cons (me_int) (ms_cons (me_int) (ms_nil)))) (ms_nil)))))) (by with_unfolding_all rfl)) (me_int) (me_if (mt_cmp (op_neD (room64 hr)) p_ne (me_at (room1 hr) rfl (pv 3) (me_int)) (me_at (room1 hr) rfl (pv 3) (me_int)) (nomark _)) (me_neg (me_int)) (me_int)))))), hm, F1.kp, hb⟩
theorem sc__law_rings : FnScope ["_law_web_here", "_law_near_here", "_law_found", "_law_row", "_law_one", "_law_walk", "_law_there"] ["_law_web_here"] (defScope (top 35)) := ⟨rfl, rfl, rfl, by decide +kernel, rfl, by decide +kernel, by decide +kernel⟩
theorem ok__law_rings (B : Bs P w K mg) (c__law_near : Cal P w K mg base T "_law_near" 1 1 f__law_near) {f : Addr} {fd : FuncData} (F1 : Fun K "_law_rings" "_law_rings" (top 35) f fd) (hm : mg "_law_rings" = some (.ref f)) (hb : Binds K fd ["_law_web_here"] []) : Cal P w K mg base T "_law_rings" (1 + 1) 1 f__law_rings :=
  ⟨f, fd, ["_law_web_here"], fn_ok F1 sc__law_rings rfl (fun cdv A outer s H E W hr tk po =>
  ss_cons (st_par3 rfl sc__law_rings.nd rfl rfl rfl (by decide) (by decide) (by decide) rfl rfl rfl (mp_v (me_cal c__law_near rfl rfl hr tk rfl (ma_v (me_var (pv 0)) (ma_nil))) (mp_f (fe_lst (ms_nil)) (mp_f (fe_lc (own := [("_law_one", 4)]) rfl sc__law_rings.nd (show ∀ v ∈ ([4] : List Nat), v ∉ ([] : List Nat) by decide) (by decide) (mi_rng1 rfl B.b_range (mo_cons (me_at (room1 hr) rfl (pv 0) (me_int)) (mo_nil))) (blkOk_by (by kernel_rfl)) (fun _ _ _ _ _ => tg_name sc__law_rings.nd rfl (by first | exact Or.inl rfl | exact Or.inr rfl) (show 4 ∉ ([] : List Nat) by decide)) (fun _ _ _ _ _ => mts_nil) (fun _ _ _ _ _ => me_tup (ms_cons (me_var (pv 4)) (ms_nil)))) (mp_nil)))) (show ∀ v ∈ ([1, 2, 3] : List Nat), v ∉ ([] : List Nat) by decide) rfl rfl)
  (ss_cons (st_while 1000000 po (mt_cmp (op_neD (room64 hr)) p_ne (pv 3) (me_of (fe_lst (ms_nil))) (nomark _)) (ss_cons (st_set sc__law_rings.nd rfl (by first | exact Or.inl rfl | exact Or.inr rfl) (me_pop (pe_bm0 F.plainAttrs_list F.slot_list_pop F.type_list_pop mt_pop (pv 3))) (show 5 ∉ ([] : List Nat) by decide))
  (ss_cons (st_if (mt_bool (mw_and (mt_cmp op_gt p_gt (me_fnB call_lenA p_len rfl B.b_len PySem.boot_len (mo_cons (pv 5) (mo_nil))) (me_int) (nomark _)) (mw_and1 (mt_cmp (op_inAny (room65 hr)) (p_inAny (f := id)) (me_at (room1 hr) rfl (pv 5) (me_int)) (me_at (room1 hr) rfl (pv 1) (me_at (room1 hr) rfl (pv 5) (me_neg (me_int)))) (by with_unfolding_all rfl))))) (ss_one (st_expr (me_app (pe_bm F.plainAttrs_list F.slot_list_append F.type_list_append mt_append (pv 2) (ms_cons (me_var (pv 5)) ms_nil))))) (ss_nil))
  (ss_one (st_for po rfl rfl (mi_seq rfl (me_at (room1 hr) rfl (pv 1) (me_at (room1 hr) rfl (pv 5) (me_neg (me_int))))) (tg_name sc__law_rings.nd rfl (by first | exact Or.inl rfl | exact Or.inr rfl) (show 6 ∉ ([] : List Nat) by decide)) (ss_one (st_if (mt_bool (mw_and (mt_cmp op_gt p_gt (pv 6) (me_at (room1 hr) rfl (pv 5) (me_int)) (nomark _)) (mw_and1 (mt_cmp (op_notInAny (room65 hr)) (p_inAny (f := not)) (pv 6) (pv 5) (by with_unfolding_all rfl))))) (ss_one (st_expr (me_app (pe_bm F.plainAttrs_list F.slot_list_append F.type_list_append mt_append (pv 3) (ms_cons (me_op op_addA p_add (pv 5) (me_tup (ms_cons (me_var (pv 6)) (ms_nil)))) ms_nil))))) (ss_nil))))))))
  (ss_one (st_ret (me_var (pv 2)))))), hm, F1.kp, hb⟩
theorem sc__law_round : FnScope ["_law_state_here", "_law_ring", "_law_k"] ["_law_state_here", "_law_ring"] (defScope (top 36)) := ⟨rfl, rfl, rfl, by decide +kernel, rfl, by decide +kernel, by decide +kernel⟩
theorem ok__law_round (B : Bs P w K mg) (c__law_step : Cal P w K mg base T "_law_step" 1 3 f__law_step) {f : Addr} {fd : FuncData} (F1 : Fun K "_law_round" "_law_round" (top 36) f fd) (hm : mg "_law_round" = some (.ref f)) (hb : Binds K fd ["_law_state_here", "_law_ring"] []) : Cal P w K mg base T "_law_round" (1 + 1) 2 f__law_round :=
  ⟨f, fd, ["_law_state_here", "_law_ring"], fn_ok F1 sc__law_round rfl (fun cdv A outer s H E W hr tk po =>
  ss_one (st_ret (me_fnB (cr_sum rfl) p_sum rfl B.b_sum boot_sum (mo_cons (me_of (fe_lc (own := [("_law_k", 2)]) rfl sc__law_round.nd (show ∀ v ∈ ([2] : List Nat), v ∉ ([] : List Nat) by decide) (by decide) (mi_rng1 rfl B.b_range (mo_cons (me_fnB call_lenA p_len rfl B.b_len PySem.boot_len (mo_cons (pv 1) (mo_nil))) (mo_nil))) (blkOk_by (by kernel_rfl)) (fun _ _ _ _ _ => tg_name sc__law_round.nd rfl (by first | exact Or.inl rfl | exact Or.inr rfl) (show 2 ∉ ([] : List Nat) by decide)) (fun _ _ _ _ _ => mts_nil) (fun _ _ _ _ _ => me_cal c__law_step rfl rfl hr takes_no rfl (ma_v (me_var (pv 0)) (ma_v (me_at (room1 hr) rfl (pv 1) (me_op op_sub p_sub (pv 2) (me_int))) (ma_v (me_at (room1 hr) rfl (pv 1) (pv 2)) (ma_nil))))))) (mo_nil))))), hm, F1.kp, hb⟩
theorem sc__law_winds : FnScope ["_law_web_here", "_law_state_here", "_law_ring"] ["_law_web_here", "_law_state_here"] (defScope (top 37)) := ⟨rfl, rfl, rfl, by decide +kernel, rfl, by decide +kernel, by decide +kernel⟩
theorem ok__law_winds (B : Bs P w K mg) (c__law_rings : Cal P w K mg base T "_law_rings" 2 1 f__law_rings) (c__law_round : Cal P w K mg base T "_law_round" 2 2 f__law_round) {f : Addr} {fd : FuncData} (F1 : Fun K "_law_winds" "_law_winds" (top 37) f fd) (hm : mg "_law_winds" = some (.ref f)) (hb : Binds K fd ["_law_web_here", "_law_state_here"] []) : Cal P w K mg base T "_law_winds" (2 + 1) 2 f__law_winds :=
  ⟨f, fd, ["_law_web_here", "_law_state_here"], fn_ok F1 sc__law_winds rfl (fun cdv A outer s H E W hr tk po =>
  ss_one (st_ret (me_cmp (op_neD (room64 hr)) p_ne (me_of (fe_lc (own := [("_law_ring", 2)]) rfl sc__law_winds.nd (show ∀ v ∈ ([2] : List Nat), v ∉ ([] : List Nat) by decide) (by decide) (mi_seq rfl (me_cal c__law_rings rfl rfl hr tk rfl (ma_v (me_var (pv 0)) (ma_nil)))) (blkOk_by (by kernel_rfl)) (fun _ _ _ _ _ => tg_name sc__law_winds.nd rfl (by first | exact Or.inl rfl | exact Or.inr rfl) (show 2 ∉ ([] : List Nat) by decide)) (fun _ _ _ _ _ => mts_one (mt_cmp op_gt p_gt (me_cal c__law_round rfl rfl hr takes_no rfl (ma_v (me_var (pv 1)) (ma_v (me_var (pv 2)) (ma_nil)))) (me_int) (nomark _))) (fun _ _ _ _ _ => me_var (pv 2)))) (me_of (fe_lst (ms_nil))) (nomark _)))), hm, F1.kp, hb⟩
theorem sc__law_lots : FnScope ["_law_many", "_law_found", "_law_one", "_law_lot"] ["_law_many"] (defScope (top 38)) := ⟨rfl, rfl, rfl, by decide +kernel, rfl, by decide +kernel, by decide +kernel⟩
theorem ok__law_lots (B : Bs P w K mg) {f : Addr} {fd : FuncData} (F1 : Fun K "_law_lots" "_law_lots" (top 38) f fd) (hm : mg "_law_lots" = some (.ref f)) (hb : Binds K fd ["_law_many"] []) : Cal P w K mg base T "_law_lots" (0 + 1) 1 f__law_lots :=
  ⟨f, fd, ["_law_many"], fn_ok F1 sc__law_lots rfl (fun cdv A outer s H E W hr tk po =>
  ss_cons (st_set sc__law_lots.nd rfl (by first | exact Or.inl rfl | exact Or.inr rfl) (me_of (fe_lst (ms_cons (me_tup (ms_nil)) (ms_nil)))) (show 1 ∉ ([] : List Nat) by decide))
  (ss_cons (st_for po rfl rfl (mi_rng1 rfl B.b_range (mo_cons (pv 0) (mo_nil))) (tg_name sc__law_lots.nd rfl (by first | exact Or.inl rfl | exact Or.inr rfl) (show 2 ∉ ([] : List Nat) by decide)) (ss_one (st_set sc__law_lots.nd rfl (by first | exact Or.inl rfl | exact Or.inr rfl) (me_of (fe_op op_cat p_cat (pv 1) (me_of (fe_lc (own := [("_law_lot", 3)]) rfl sc__law_lots.nd (show ∀ v ∈ ([3] : List Nat), v ∉ ([] : List Nat) by decide) (by decide) (mi_seq rfl (me_var (pv 1))) (blkOk_by (by kernel_rfl)) (fun _ _ _ _ _ => tg_name sc__law_lots.nd rfl (by first | exact Or.inl rfl | exact Or.inr rfl) (show 3 ∉ ([] : List Nat) by decide)) (fun _ _ _ _ _ => mts_nil) (fun _ _ _ _ _ => me_op op_addA p_add (pv 3) (me_tup (ms_cons (me_var (pv 2)) (ms_nil)))))))) (show 1 ∉ ([] : List Nat) by decide))))
  (ss_one (st_ret (me_var (pv 1)))))), hm, F1.kp, hb⟩
theorem sc__law_painted : FnScope ["_law_state_here", "_law_lot", "_law_found", "_law_one", "_law_longer", "_law_other", "_law_mood"] ["_law_state_here", "_law_lot"] (defScope (top 39)) := ⟨rfl, rfl, rfl, by decide +kernel, rfl, by decide +kernel, by decide +kernel⟩
theorem ok__law_painted (B : Bs P w K mg) {f : Addr} {fd : FuncData} (F1 : Fun K "_law_painted" "_law_painted" (top 39) f fd) (hm : mg "_law_painted" = some (.ref f)) (hb : Binds K fd ["_law_state_here", "_law_lot"] []) : Cal P w K mg base T "_law_painted" (0 + 1) 2 f__law_painted :=
  ⟨f, fd, ["_law_state_here", "_law_lot"], fn_ok F1 sc__law_painted rfl (fun cdv A outer s H E W hr tk po =>
  ss_cons (st_set sc__law_painted.nd rfl (by first | exact Or.inl rfl | exact Or.inr rfl) (me_of (fe_lst (ms_cons (me_var (pv 0)) (ms_nil)))) (show 2 ∉ ([] : List Nat) by decide))
  (ss_cons (st_for po rfl rfl (mi_seq rfl (me_var (pv 1))) (tg_name sc__law_painted.nd rfl (by first | exact Or.inl rfl | exact Or.inr rfl) (show 3 ∉ ([] : List Nat) by decide)) (ss_cons (st_set sc__law_painted.nd rfl (by first | exact Or.inl rfl | exact Or.inr rfl) (me_of (fe_lst (ms_nil))) (show 4 ∉ ([] : List Nat) by decide))
  (ss_cons (st_for po rfl rfl (mi_seq rfl (me_var (pv 2))) (tg_name sc__law_painted.nd rfl (by first | exact Or.inl rfl | exact Or.inr rfl) (show 5 ∉ ([] : List Nat) by decide)) (ss_one (st_set sc__law_painted.nd rfl (by first | exact Or.inl rfl | exact Or.inr rfl) (me_of (fe_op op_cat p_cat (pv 4) (me_of (fe_lc (own := [("_law_mood", 6)]) rfl sc__law_painted.nd (show ∀ v ∈ ([6] : List Nat), v ∉ ([] : List Nat) by decide) (by decide) (mi_seq rfl (me_tup (ms_cons (me_int) (ms_cons (me_int) (ms_cons (me_int) (ms_nil)))))) (blkOk_by (by kernel_rfl)) (fun _ _ _ _ _ => tg_name sc__law_painted.nd rfl (by first | exact Or.inl rfl | exact Or.inr rfl) (show 6 ∉ ([] : List Nat) by decide)) (fun _ _ _ _ _ => mts_one (mt_cmp (op_neD (room64 hr)) p_ne (pv 6) (me_at (room1 hr) rfl (pv 0) (pv 3)) (nomark _))) (fun _ _ _ _ _ => me_op op_addA p_add (me_op op_addA p_add (me_cut rfl (pv 5) (po_no) (po_at (me_var (pv 3)))) (me_tup (ms_cons (me_var (pv 6)) (ms_nil)))) (me_cut rfl (pv 5) (po_at (me_op op_addA p_add (pv 3) (me_int))) (po_no))))))) (show 4 ∉ ([] : List Nat) by decide))))
  (ss_one (st_set sc__law_painted.nd rfl (by first | exact Or.inl rfl | exact Or.inr rfl) (me_var (pv 4)) (show 2 ∉ ([] : List Nat) by decide))))))
  (ss_one (st_ret (me_var (pv 2)))))), hm, F1.kp, hb⟩
theorem sc_law : FnScope ["_law_script", "_law_row", "_law_web_here", "_law_state_here", "_law_lots_here", "_law_wish", "_law_good", "_law_lot", "_law_some", "_law_other", "_law_told", "_law_size", "_law_ring", "_law_k", "_law_many"] ["_law_script"] (defScope (top 40)) := ⟨rfl, rfl, rfl, by decide +kernel, rfl, by decide +kernel, by decide +kernel⟩
theorem ok_law (B : Bs P w K mg) {tbA : Addr} (c_calmed : Cal P w K mg base [(tbA, (("law" : Str) ++ ".<locals>.") ++ "<lambda>")] "calmed" 6 2 f_calmed) (c_stirring : Cal P w K mg base [(tbA, (("law" : Str) ++ ".<locals>.") ++ "<lambda>")] "stirring" 6 2 f_stirring) (c__law_taken : Cal P w K mg base [(tbA, (("law" : Str) ++ ".<locals>.") ++ "<lambda>")] "_law_taken" 1 2 f__law_taken) (c__law_alike : Cal P w K mg base [(tbA, (("law" : Str) ++ ".<locals>.") ++ "<lambda>")] "_law_alike" 61 2 (f__law_alike 50)) (c__law_web : Cal P w K mg base [(tbA, (("law" : Str) ++ ".<locals>.") ++ "<lambda>")] "_law_web" 2 2 f__law_web) (c__law_state : Cal P w K mg base [(tbA, (("law" : Str) ++ ".<locals>.") ++ "<lambda>")] "_law_state" 2 2 f__law_state) (c__law_rings : Cal P w K mg base [(tbA, (("law" : Str) ++ ".<locals>.") ++ "<lambda>")] "_law_rings" 2 1 f__law_rings) (c__law_winds : Cal P w K mg base [(tbA, (("law" : Str) ++ ".<locals>.") ++ "<lambda>")] "_law_winds" 3 2 f__law_winds) (c__law_lots : Cal P w K mg base [(tbA, (("law" : Str) ++ ".<locals>.") ++ "<lambda>")] "_law_lots" 1 1 f__law_lots) (c__law_painted : Cal P w K mg base [(tbA, (("law" : Str) ++ ".<locals>.") ++ "<lambda>")] "_law_painted" 1 2 f__law_painted) {f co : Addr} {oc : Value} {od an : Option Addr} {kV doc pm ct : Value} {osl : Array (Option Value)} (TB : TabB base mg co tbA) (lkl : K.lookup f = some ⟨oc, od, .func (PySem.W.fnOf "law" "law" (defArgs (top 40)) (defBody (top 40)) (defScope (top 40)) .none kV doc pm an (.ref co) ct), osl⟩) (hcl : PySem.W.codeIn K (.ref co) "law" = true) (hk : PySem.W.keepIn K (.ref f) = true) :
  FnOk P w K mg base (L2.CX P w) (63 + 1) f (PySem.W.fnOf "law" "law" (defArgs (top 40)) (defBody (top 40)) (defScope (top 40)) .none kV doc pm an (.ref co) ct) ["_law_script"] (spM K [(tbA, (("law" : Str) ++ ".<locals>.") ++ "<lambda>")] mg 1 f_law) := by
  exact fn_okC lkl hcl sc_law rfl (fun A outer s H E W hr tk po =>
  ss_cons (st_own sc_law.nd rfl (by first | exact Or.inl rfl | exact Or.inr rfl) (fe_lst (ms_cons (me_var (pv 0)) (ms_cons (me_int) (ms_cons (me_int) (ms_cons (me_int) (ms_nil)))))) (show 1 ∉ ([] : List Nat) by decide))
  (ss_cons (st_set sc_law.nd rfl (by first | exact Or.inl rfl | exact Or.inr rfl) (me_cal c__law_web rfl rfl hr tk rfl (ma_io (pv 1) (ma_v (me_int) (ma_nil)))) (show 2 ∉ ([] : List Nat) by decide))
  (ss_cons (st_set sc_law.nd rfl (by first | exact Or.inl rfl | exact Or.inr rfl) (me_cal c__law_state rfl rfl hr tk rfl (ma_io (pv 1) (ma_v (me_var (pv 2)) (ma_nil)))) (show 3 ∉ ([] : List Nat) by decide))
  (ss_cons (st_set sc_law.nd rfl (by first | exact Or.inl rfl | exact Or.inr rfl) (me_of (fe_sortK (room65 hr) hr.depth rfl rfl B.b_sorted B.b_len TB rfl (List.mem_singleton.mpr rfl) (fun t ht _ => by rw [List.mem_singleton.mp ht]; rfl) rfl (by decide) rfl rfl rfl (by decide) rfl rfl rfl (fun _ _ _ _ _ _ => rfl) (me_cal c__law_lots rfl rfl hr tk rfl (ma_v (me_at (room1 hr) rfl (pv 2) (me_int)) (ma_nil))))) (show 4 ∉ ([] : List Nat) by decide))
  (ss_cons (st_for po rfl rfl (mi_seq rfl (me_of (fe_lst (ms_cons (me_bl) (ms_cons (me_bl) (ms_nil)))))) (tg_name sc_law.nd rfl (by first | exact Or.inl rfl | exact Or.inr rfl) (show 5 ∉ ([] : List Nat) by decide)) (ss_cons (st_set sc_law.nd rfl (by first | exact Or.inl rfl | exact Or.inr rfl) (me_of (fe_lst (ms_nil))) (show 6 ∉ ([] : List Nat) by decide))
  (ss_cons (st_for po rfl rfl (mi_seq rfl (me_of (fe_lc (own := [("_law_lot", 7)]) rfl sc_law.nd (show ∀ v ∈ ([7] : List Nat), v ∉ ([] : List Nat) by decide) (by decide) (mi_seq rfl (me_var (pv 4))) (blkOk_by (by kernel_rfl)) (fun _ _ _ _ _ => tg_name sc_law.nd rfl (by first | exact Or.inl rfl | exact Or.inr rfl) (show 7 ∉ ([] : List Nat) by decide)) (fun _ _ _ _ _ => mts_one (mt_cmp op_lt p_lt (me_fnB call_lenA p_len rfl B.b_len PySem.boot_len (mo_cons (pv 7) (mo_nil))) (me_int) (nomark _))) (fun _ _ _ _ _ => me_var (pv 7))))) (tg_name sc_law.nd rfl (by first | exact Or.inl rfl | exact Or.inr rfl) (show 7 ∉ ([] : List Nat) by decide)) (ss_one (st_if (mt_bool (mw_or (mt_cmp (op_eqD (room64 hr)) p_eq (pv 6) (me_of (fe_lst (ms_nil))) (nomark _)) (mw_or1 (mt_cmp (op_eqD (room64 hr)) p_eq (me_fnB call_lenA p_len rfl B.b_len PySem.boot_len (mo_cons (pv 7) (mo_nil))) (me_fnB call_lenA p_len rfl B.b_len PySem.boot_len (mo_cons (me_at (room1 hr) rfl (pv 6) (me_int)) (mo_nil))) (nomark _))))) (ss_cons (st_ownLc rfl sc_law.nd rfl rfl (show 8 ∉ ([] : List Nat) by decide) (own := [("_law_other", 9)]) (show ∀ v ∈ ([9] : List Nat), v ∉ ([] : List Nat) by decide) (by decide)  rfl (mi_seq rfl (me_cal c__law_painted rfl rfl hr tk rfl (ma_v (me_var (pv 3)) (ma_v (me_var (pv 7)) (ma_nil))))) (blkOk_by (by kernel_rfl)) (fun _ _ _ _ _ => tg_name sc_law.nd rfl (by first | exact Or.inl rfl | exact Or.inr rfl) (show 9 ∉ ([] : List Nat) by decide)) (fun _ _ _ _ _ => mts_one (mt_cmp (op_neD (room64 hr)) p_ne (me_cal c__law_winds rfl rfl hr takes_no rfl (ma_v (me_var (pv 2)) (ma_v (me_var (pv 9)) (ma_nil)))) (pv 5) (nomark _))) (fun _ _ _ _ _ => me_var (pv 9)))
  (ss_one (st_set sc_law.nd rfl (by first | exact Or.inl rfl | exact Or.inr rfl) (me_op op_addA p_add (pv 6) (me_if (mt_cmp (op_neD (room64 hr)) p_ne (pv 8) (me_of (fe_lst (ms_nil))) (nomark _)) (me_of (fe_lst (ms_cons (me_var (pv 7)) (ms_nil)))) (me_of (fe_lst (ms_nil))))) (show 6 ∉ ([] : List Nat) by decide)))) (ss_nil))))
  (ss_cons (st_set sc_law.nd rfl (by first | exact Or.inl rfl | exact Or.inr rfl) (me_if (mt_val (me_var (pv 5))) (me_cal c_calmed rfl rfl hr tk rfl (ma_v (me_var (pv 2)) (ma_v (me_var (pv 3)) (ma_nil)))) (me_cal c_stirring rfl rfl hr tk rfl (ma_v (me_var (pv 2)) (ma_v (me_var (pv 3)) (ma_nil))))) (show 10 ∉ ([] : List Nat) by decide))
  (ss_cons (st_if (mt_not (mt_val (me_cal c__law_alike rfl rfl hr tk rfl (ma_v (me_var (pv 10)) (ma_v (me_fnT call_tuple_of p_tuple rfl B.b_tuple boot_tuple (mo_cons (pv 6) (mo_nil))) (ma_nil)))))) (ss_one (st_ret (me_bl))) (ss_nil))
  (ss_one (st_if (mt_bool (mw_or (mt_bool (mw_and (mt_val (me_var (pv 5))) (mw_and1 (mt_cmp op_gt p_gt (me_op op_mulA p_mul (me_fnB call_lenA p_len rfl B.b_len PySem.boot_len (mo_cons (me_at (room1 hr) rfl (pv 6) (me_int)) (mo_nil))) (me_int)) (me_at (room1 hr) rfl (pv 2) (me_int)) (nomark _))))) (mw_or1 (mt_bool (mw_and (mt_not (mt_val (me_var (pv 5)))) (mw_and (mt_cmp (op_neD (room64 hr)) p_ne (pv 6) (me_of (fe_lst (ms_nil))) (nomark _)) (mw_and1 (mt_cmp op_gt p_gt (me_fnB call_lenA p_len rfl B.b_len PySem.boot_len (mo_cons (me_at (room1 hr) rfl (pv 6) (me_int)) (mo_nil))) (me_int) (nomark _))))))))) (ss_one (st_ret (me_bl))) (ss_nil))))))))
  (ss_cons (st_if (mt_cmp (op_neD (room64 hr)) p_ne (me_cmp (op_eqD (room64 hr)) p_eq (me_cal c_stirring rfl rfl hr tk rfl (ma_v (me_var (pv 2)) (ma_v (me_var (pv 3)) (ma_nil)))) (me_tup (ms_nil)) (nomark _)) (me_cmp (op_eqD (room64 hr)) p_eq (me_cal c__law_rings rfl rfl hr tk rfl (ma_v (me_var (pv 2)) (ma_nil))) (me_of (fe_lst (ms_nil))) (nomark _)) (nomark _)) (ss_one (st_ret (me_bl))) (ss_nil))
  (ss_cons (st_set sc_law.nd rfl (by first | exact Or.inl rfl | exact Or.inr rfl) (me_op op_addA p_add (me_int) (me_cal c__law_taken rfl rfl hr tk rfl (ma_io (pv 1) (ma_v (me_int) (ma_nil))))) (show 11 ∉ ([] : List Nat) by decide))
  (ss_cons (st_set sc_law.nd rfl (by first | exact Or.inl rfl | exact Or.inr rfl) (me_tup (ms_cons (me_var (pv 11)) (ms_cons (me_fnT call_tuple_of p_tuple rfl B.b_tuple boot_tuple (mo_cons (me_of (fe_sort rfl rfl B.b_sorted (mo_cons (me_of (fe_op op_cat p_cat (me_of (fe_lc (own := [("_law_k", 13)]) rfl sc_law.nd (show ∀ v ∈ ([13] : List Nat), v ∉ ([] : List Nat) by decide) (by decide) (mi_rng1 rfl B.b_range (mo_cons (me_op op_sub p_sub (pv 11) (me_int)) (mo_nil))) (blkOk_by (by kernel_rfl)) (fun _ _ _ _ _ => tg_name sc_law.nd rfl (by first | exact Or.inl rfl | exact Or.inr rfl) (show 13 ∉ ([] : List Nat) by decide)) (fun _ _ _ _ _ => mts_nil) (fun _ _ _ _ _ => me_tup (ms_cons (me_var (pv 13)) (ms_cons (me_op op_addA p_add (pv 13) (me_int)) (ms_nil)))))) (me_of (fe_lst (ms_cons (me_tup (ms_cons (me_int) (ms_cons (me_op op_sub p_sub (pv 11) (me_int)) (ms_nil)))) (ms_nil)))))) (mo_nil)))) (mo_nil))) (ms_nil)))) (show 12 ∉ ([] : List Nat) by decide))
  (ss_cons (st_set sc_law.nd rfl (by first | exact Or.inl rfl | exact Or.inr rfl) (me_fnB call_lenA p_len rfl B.b_len PySem.boot_len (mo_cons (me_cal c_stirring rfl rfl hr tk rfl (ma_v (me_var (pv 12)) (ma_v (me_op op_repTA p_repTA (me_tup (ms_cons (me_int) (ms_nil))) (pv 11)) (ma_nil)))) (mo_nil))) (show 14 ∉ ([] : List Nat) by decide))
  (ss_one (st_ret (me_and (me_cmp (op_eqD (room64 hr)) p_eq (me_cal c_calmed rfl rfl hr tk rfl (ma_v (me_var (pv 12)) (ma_v (me_op op_repTA p_repTA (me_tup (ms_cons (me_int) (ms_nil))) (pv 11)) (ma_nil)))) (me_tup (ms_cons (me_tup (ms_nil)) (ms_nil))) (nomark _)) (me_one (me_cmp (op_eqD (room64 hr)) p_eq (pv 14) (pv 11) (nomark _)))))))))))))))
end

set_option autoImplicit false
theorem atI_map {α β : Type} (f : α → β) (xs : List α) (i : Int) : L2.atI (xs.map f) i = (L2.atI xs i).map f := by
  unfold L2.atI
  rw [List.length_map]
  cases ixN xs.length i with
  | none => rfl
  | some j => simp
theorem set_set {ρ : Env} {i : Nat} {x : Sl} (h : ρ[i]? = some .no) : (ρ.set i x).set i .no = ρ := by
  rw [List.set_set]
  obtain ⟨hl, he⟩ := List.getElem?_eq_some_iff.mp h
  rw [← he]
  exact List.set_getElem_self hl
/-- a slot that a comprehension may use -/
def Free (ρ : Env) (i : Nat) : Prop := ∃ s, ρ[i]? = some s ∧ ∀ d, s ≠ .own d

set_option autoImplicit false
theorem ixN_nat (n i : Nat) : L2.ixN n (i : Int) = if i < n then some i else none := by
  unfold L2.ixN
  rw [if_pos (Int.natCast_nonneg i)]
  by_cases h : i < n
  · rw [if_pos (by omega), if_pos h]; rfl
  · rw [if_neg (by omega), if_neg h]
theorem atI_nat {α : Type} (xs : List α) (i : Nat) : L2.atI xs (i : Int) = xs[i]? := by
  unfold L2.atI
  rw [ixN_nat]
  by_cases h : i < xs.length
  · rw [if_pos h]; rfl
  · rw [if_neg h, List.getElem?_eq_none (by omega)]; rfl
theorem atI_0 {α : Type} (xs : List α) : L2.atI xs 0 = xs[0]? := atI_nat xs 0
theorem atI_1 {α : Type} (xs : List α) : L2.atI xs 1 = xs[1]? := atI_nat xs 1
theorem atI_2 {α : Type} (xs : List α) : L2.atI xs 2 = xs[2]? := atI_nat xs 2
theorem atI_3 {α : Type} (xs : List α) : L2.atI xs 3 = xs[3]? := atI_nat xs 3
theorem ix4_1 : L2.ixN 4 1 = some 1 := rfl
theorem ix4_2 : L2.ixN 4 2 = some 2 := rfl
theorem ix4_3 : L2.ixN 4 3 = some 3 := rfl
def rowD (ns : List Int) (k r h : Int) : D := .list [scrD ns, .int k, .int r, .int h]
structure RowOk (ns : List Int) (d : D) : Prop where
  ex : ∃ k r h, d = rowD ns k r h ∧ 0 ≤ k ∧ 0 ≤ r ∧ r < 2147483647
theorem log2_lt {m : Int} (h : m < 9000) (h0 : 0 < m) : m.natAbs.log2 < 9000 := by
  have h1 : m.natAbs.log2 ≤ m.natAbs := Nat.log2_le_self _
  omega
theorem lg7 : Nat.log2 7 < 9000 := Nat.lt_of_le_of_lt (Nat.log2_le_self 7) (by omega)
theorem taken {ns : List Int} {d : D} (h : RowOk ns d) {m : Int} (hm : 0 < m) (hm2 : m < 9000) : ∃ v d', f__law_taken [.own d, .fz (.int m)] = .ok (.int v) [d'] ∧ 0 ≤ v ∧ v < m ∧ RowOk ns d' := by
  obtain ⟨k, r, w, rfl, hk, hr, hr2⟩ := h
  have hl : m.natAbs.log2 < 9000 := log2_lt hm2 hm
  by_cases h1 : 0 < w
  · refine ⟨w % m, rowD ns k r (w / m), ?_, Int.emod_nonneg _ (by omega), Int.emod_lt_of_pos _ hm, ⟨k, r, w / m, rfl, hk, hr, hr2⟩⟩
    simp [f__law_taken, m__law_taken, fnM, ownIx, backs, sRet, sSeq, sIf, sSet, sOwn, sDo, sNil, sAsg, Rs.sr, mOp2, Opd.ev, Opd.fin, at_, Sl.val, Rs.then, mLit, mVar, mB, mAnd, mOr, mNot, bAnd, bOr, bNot, mIf, bYes, mTup, mLst, evm, evo, fino, mFn, mCall, eva, sls, ioIx, putBack, Arg.opd, iSeq, iRng, fR1, fR2, sFor, tmName, tmTup, tmSeq, mApp, mExt, mPutAt, dPutAt, mIsi, dTy, isB, dEq, dNe, dLt, dLe, dGt, dGe, dIsN, dNotN, dAdd, dSub, dMod, dFdiv, dMul, dAt, dLen, dInt, dTuple, dList, mChain, sPar, setP, rowD, atI_0, atI_1, atI_2, atI_3, ix4_3, h1, hm, hl, backs]
  · have hf : mulFits r 48271 = true := by simp [mulFits]
    by_cases h2 : (ns.length : Int) < k + 1
    · refine ⟨((r * 48271 + 11) % 2147483647) / 7 % m, rowD ns (k + 1) ((r * 48271 + 11) % 2147483647) w, ?_, Int.emod_nonneg _ (by omega), Int.emod_lt_of_pos _ hm, ⟨_, _, _, rfl, by omega, Int.emod_nonneg _ (by omega), Int.emod_lt_of_pos _ (by omega)⟩⟩
      simp [f__law_taken, m__law_taken, fnM, ownIx, backs, sRet, sSeq, sIf, sSet, sOwn, sDo, sNil, sAsg, Rs.sr, mOp2, Opd.ev, Opd.fin, at_, Sl.val, Rs.then, mLit, mVar, mB, mAnd, mOr, mNot, bAnd, bOr, bNot, mIf, bYes, mTup, mLst, evm, evo, fino, mFn, mCall, eva, sls, ioIx, putBack, Arg.opd, iSeq, iRng, fR1, fR2, sFor, tmName, tmTup, tmSeq, mApp, mExt, mPutAt, dPutAt, mIsi, dTy, isB, dEq, dNe, dLt, dLe, dGt, dGe, dIsN, dNotN, dAdd, dSub, dMod, dFdiv, dMul, dAt, dLen, dInt, dTuple, dList, mChain, sPar, setP, rowD, atI_0, atI_1, atI_2, atI_3, ix4_3, ix4_2, ix4_1, h1, hm, backs, hf, h2, scrD, lg7]
    · obtain ⟨x, hx⟩ : ∃ x, L2.atI ns k = some x := by
        have e : k = ((k.toNat : Nat) : Int) := by omega
        rw [e, atI_nat]
        exact ⟨_, List.getElem?_eq_getElem (by omega)⟩
      have hd : L2.atI (ns.map PyData.int) k = some (.int x) := by rw [atI_map, hx]; rfl
      have e1 : k + 1 - 1 = k := by omega
      by_cases h3 : (1000000000000000000 : Int) ≤ x
      · refine ⟨x % m, rowD ns (k + 1) ((r * 48271 + x + 11) % 2147483647) (x / m), ?_, Int.emod_nonneg _ (by omega), Int.emod_lt_of_pos _ hm, ⟨_, _, _, rfl, by omega, Int.emod_nonneg _ (by omega), Int.emod_lt_of_pos _ (by omega)⟩⟩
        simp [f__law_taken, m__law_taken, fnM, ownIx, backs, sRet, sSeq, sIf, sSet, sOwn, sDo, sNil, sAsg, Rs.sr, mOp2, Opd.ev, Opd.fin, at_, Sl.val, Rs.then, mLit, mVar, mB, mAnd, mOr, mNot, bAnd, bOr, bNot, mIf, bYes, mTup, mLst, evm, evo, fino, mFn, mCall, eva, sls, ioIx, putBack, Arg.opd, iSeq, iRng, fR1, fR2, sFor, tmName, tmTup, tmSeq, mApp, mExt, mPutAt, dPutAt, mIsi, dTy, isB, dEq, dNe, dLt, dLe, dGt, dGe, dIsN, dNotN, dAdd, dSub, dMod, dFdiv, dMul, dAt, dLen, dInt, dTuple, dList, mChain, sPar, setP, rowD, atI_0, atI_1, atI_2, atI_3, ix4_3, ix4_2, ix4_1, h1, hm, backs, hf, h2, scrD, dPow, hd, e1, h3, hl]
      · refine ⟨x % m, rowD ns (k + 1) ((r * 48271 + x + 11) % 2147483647) w, ?_, Int.emod_nonneg _ (by omega), Int.emod_lt_of_pos _ hm, ⟨_, _, _, rfl, by omega, Int.emod_nonneg _ (by omega), Int.emod_lt_of_pos _ (by omega)⟩⟩
        simp [f__law_taken, m__law_taken, fnM, ownIx, backs, sRet, sSeq, sIf, sSet, sOwn, sDo, sNil, sAsg, Rs.sr, mOp2, Opd.ev, Opd.fin, at_, Sl.val, Rs.then, mLit, mVar, mB, mAnd, mOr, mNot, bAnd, bOr, bNot, mIf, bYes, mTup, mLst, evm, evo, fino, mFn, mCall, eva, sls, ioIx, putBack, Arg.opd, iSeq, iRng, fR1, fR2, sFor, tmName, tmTup, tmSeq, mApp, mExt, mPutAt, dPutAt, mIsi, dTy, isB, dEq, dNe, dLt, dLe, dGt, dGe, dIsN, dNotN, dAdd, dSub, dMod, dFdiv, dMul, dAt, dLen, dInt, dTuple, dList, mChain, sPar, setP, rowD, atI_0, atI_1, atI_2, atI_3, ix4_3, ix4_2, ix4_1, h1, hm, backs, hf, h2, scrD, dPow, hd, e1, h3, hl]

set_option autoImplicit false
def WR (r : SR) (N : Env → Prop) (R : D → Env → Prop) : Prop := match r with
  | .nx ρ' => N ρ'
  | .rt d ρ' => R d ρ'
  | _ => False
/-- (a structure, so that nobody computes it by accident) -/
structure W (m : SM) (ρ : Env) (N : Env → Prop) (R : D → Env → Prop) : Prop where
  run : WR (m ρ) N R
theorem W.seq {a b : SM} {ρ : Env} {N : Env → Prop} {R : D → Env → Prop} (h : W a ρ (fun ρ' => W b ρ' N R) R) : W (sSeq a b) ρ N R := by
  obtain ⟨h⟩ := h
  refine ⟨?_⟩
  unfold sSeq
  cases e : a ρ with
  | nx ρ' => rw [e] at h; exact h.run
  | rt d ρ' => rw [e] at h; exact h
  | ex x ρ' => rw [e] at h; exact h.elim
  | stuck => rw [e] at h; exact h.elim
theorem W.imp {m : SM} {ρ : Env} {N N' : Env → Prop} {R R' : D → Env → Prop} (h : W m ρ N R) (hn : ∀ ρ, N ρ → N' ρ) (hr : ∀ d ρ, R d ρ → R' d ρ) : W m ρ N' R' := by
  obtain ⟨h⟩ := h
  refine ⟨?_⟩
  cases e : m ρ with
  | nx ρ' => rw [e] at h; exact hn _ h
  | rt d ρ' => rw [e] at h; exact hr _ _ h
  | ex x ρ' => rw [e] at h; exact h.elim
  | stuck => rw [e] at h; exact h.elim
theorem W.nx {m : SM} {ρ ρ' : Env} {N : Env → Prop} {R : D → Env → Prop} (e : m ρ = .nx ρ') (h : N ρ') : W m ρ N R := ⟨by rw [e]; exact h⟩
theorem W.rt {m : SM} {ρ ρ' : Env} {d : D} {N : Env → Prop} {R : D → Env → Prop} (e : m ρ = .rt d ρ') (h : R d ρ') : W m ρ N R := ⟨by rw [e]; exact h⟩
theorem W.forM {tm : TM} {b : SM} {R : D → Env → Prop} (I : Nat → Env → Prop) : ∀ (ds : List D) (k : Nat) (ρ : Env), I k ρ → (∀ i d ρ, ds[i]? = some d → I (k + i) ρ → ∃ ρ1, tm d ρ = .ok () ρ1 ∧ W b ρ1 (I (k + i + 1)) R) → W (forM tm b ds) ρ (I (k + ds.length)) R
  | [], k, ρ, h, _ => ⟨h⟩
  | d :: ds, k, ρ, h, hs => by
    obtain ⟨ρ1, e1, ⟨w⟩⟩ := hs 0 d ρ rfl h
    refine ⟨?_⟩
    unfold MP.forM
    rw [e1]
    show WR (match b ρ1 with
      | .nx ρ2 => MP.forM tm b ds ρ2
      | r => r) _ _
    cases e : b ρ1 with
    | nx ρ2 =>
      rw [e] at w
      have := W.forM (tm := tm) (b := b) (R := R) I ds (k + 1) ρ2 w fun i d ρ h1 h2 => by
        have := hs (i + 1) d ρ h1 (by rw [show k + (i + 1) = k + 1 + i by omega]; exact h2)
        rw [show k + (i + 1) + 1 = k + 1 + i + 1 by omega] at this
        exact this
      rw [show k + 1 + ds.length = k + (d :: ds).length by rw [List.length_cons]; omega] at this
      exact this.run
    | rt d ρ' => rw [e] at w; exact w
    | ex x ρ' => rw [e] at w; exact w.elim
    | stuck => rw [e] at w; exact w.elim
theorem W.for' {it : MI} {tm : TM} {b : SM} {ρ ρ0 : Env} {ds : List D} {N : Env → Prop} {R : D → Env → Prop} (I : Nat → Env → Prop) (hit : it ρ = .ok ds ρ0) (h0 : I 0 ρ0) (hs : ∀ i d ρ, ds[i]? = some d → I i ρ → ∃ ρ1, tm d ρ = .ok () ρ1 ∧ W b ρ1 (I (i + 1)) R) (hk : ∀ ρ, I ds.length ρ → N ρ) :
    W (sFor it tm b) ρ N R := by
  have h := W.forM (R := R) I ds 0 ρ0 h0 fun i d ρ h1 h2 => by
    rw [Nat.zero_add] at h2 ⊢
    exact hs i d ρ h1 h2
  rw [Nat.zero_add] at h
  have h' := (h.imp hk fun _ _ x => x).run
  refine ⟨?_⟩
  unfold sFor
  rw [hit]
  exact h'
theorem W.ite {t : MB} {a b : SM} {ρ ρ1 : Env} {x : Bool} {N : Env → Prop} {R : D → Env → Prop} (e : t ρ = .ok x ρ1) (h : W (if x = true then a else b) ρ1 N R) : W (sIf t a b) ρ N R := by
  obtain ⟨h⟩ := h
  refine ⟨?_⟩
  unfold sIf
  rw [e]
  cases x with
  | true => exact h
  | false => exact h
/-- a loop over numbers -/
theorem W.rngl {os : List Opd} {f : List D → Option (Int × Int)} {i : Nat} {b : SM} {ρ ρ0 : Env} {lo : Int} {n : Nat} {N : Env → Prop} {R : D → Env → Prop} (I : Nat → Env → Prop) (hit : iRng f os ρ = .ok (up lo n) ρ0) (h0 : I 0 ρ0)
    (hs : ∀ k ρ, k < n → I k ρ → W b (ρ.set i (.fz (.int (lo + k)))) (I (k + 1)) R) (hk : ∀ ρ, I n ρ → N ρ) : W (sFor (iRng f os) (tmName i) b) ρ N R := by
  refine W.for' I hit h0 (fun k d ρ h1 h2 => ?_) fun ρ h => hk ρ ?_
  · obtain ⟨h3, rfl⟩ := up_get _ _ _ _ h1
    exact ⟨_, rfl, hs k ρ h3 h2⟩
  · rw [up_len] at h
    exact h
theorem W.rng {os : List Opd} {f : List D → Option (Int × Int)} {i : Nat} {b : SM} {ρ ρ0 : Env} {n : Nat} {N : Env → Prop} {R : D → Env → Prop} (I : Nat → Env → Prop) (hit : iRng f os ρ = .ok (up 0 n) ρ0) (h0 : I 0 ρ0)
    (hs : ∀ (k : Nat) ρ, k < n → I k ρ → W b (ρ.set i (.fz (.int k))) (I (k + 1)) R) (hk : ∀ ρ, I n ρ → N ρ) : W (sFor (iRng f os) (tmName i) b) ρ N R :=
  W.rngl I hit h0 (fun k ρ h1 h2 => by rw [Int.zero_add]; exact hs k ρ h1 h2) hk
theorem iRng_ok {f : List D → Option (Int × Int)} {os : List Opd} {ρ ρ1 : Env} {xs : List (Option D)} {ds : List D} {lo hi : Int} (h1 : evo os ρ = .ok xs ρ1) (h2 : fino os xs ρ1 = some ds) (h3 : f ds = some (lo, hi)) (hb : -1000000 ≤ lo ∧ lo ≤ 1000000 ∧ -1000000 ≤ hi ∧ hi ≤ 1000000) : iRng f os ρ = .ok (up lo (hi - lo).toNat) ρ1 := by
  unfold iRng
  rw [h1]
  show (match (fino os xs ρ1).bind f with
    | some (i, j) => if -(2 ^ 62) ≤ i ∧ i < 2 ^ 62 ∧ -(2 ^ 62) ≤ j ∧ j < 2 ^ 62 then Rs.ok (up i (j - i).toNat) ρ1 else .stuck
    | none => .stuck) = _
  rw [h2]
  show (match f ds with
    | some (i, j) => if -(2 ^ 62) ≤ i ∧ i < 2 ^ 62 ∧ -(2 ^ 62) ≤ j ∧ j < 2 ^ 62 then Rs.ok (up i (j - i).toNat) ρ1 else .stuck
    | none => .stuck) = _
  rw [h3]
  exact if_pos (by omega)
theorem iRng_nat {os : List Opd} {ρ ρ1 : Env} {xs : List (Option D)} {n : Nat} (h1 : evo os ρ = .ok xs ρ1) (h2 : fino os xs ρ1 = some [.int n]) (hb : n ≤ 1000000) : iRng fR1 os ρ = .ok (up 0 n) ρ1 := by
  have := iRng_ok (f := fR1) (lo := 0) (hi := (n : Int)) h1 h2 rfl ⟨by omega, by omega, by omega, by omega⟩
  rw [show ((n : Int) - 0).toNat = n by omega] at this
  exact this
theorem W.fn {len n : Nat} {ios : List Nat} {m : SM} {ss : List Sl} {P : D → List D → Prop} (h : ownIx 0 ss = ios) (w : W m (ss ++ List.replicate (len - n) .no) (fun ρ => ∃ b, backs ios ρ = some b ∧ P .none b) fun d ρ => ∃ b, backs ios ρ = some b ∧ P d b) : ∃ d b, fnM len n ios m ss = .ok d b ∧ P d b := by
  obtain ⟨w⟩ := w
  unfold fnM
  rw [if_pos h]
  cases e : m (ss ++ List.replicate (len - n) .no) with
  | nx ρ' => rw [e] at w; obtain ⟨b, e1, p⟩ := w; exact ⟨_, b, by simp [e1], p⟩
  | rt d ρ' => rw [e] at w; obtain ⟨b, e1, p⟩ := w; exact ⟨d, b, by simp [e1], p⟩
  | ex x ρ' => rw [e] at w; exact w.elim
  | stuck => rw [e] at w; exact w.elim

set_option autoImplicit false
structure Web where
  n : Nat
  es : List (Nat × Nat)
def pairN (p : Nat × Nat) : D := .tuple [.int p.1, .int p.2]
def webD (w : Web) : D := .tuple [.int w.n, .tuple (w.es.map pairN)]
def stD (s : List Int) : D := .tuple (s.map PyData.int)
def lexN (p q : Nat × Nat) : Prop := p.1 < q.1 ∨ (p.1 = q.1 ∧ p.2 < q.2)
structure Web.Ok (w : Web) : Prop where
  pos : 1 ≤ w.n
  most : w.n ≤ 10
  few : w.es.length ≤ 100
  sorted : w.es.Pairwise lexN
  inn : ∀ e ∈ w.es, e.1 < e.2 ∧ e.2 < w.n
structure StOk (n : Nat) (s : List Int) : Prop where
  len : s.length = n
  three : ∀ x ∈ s, 0 ≤ x ∧ x < 3
theorem state_drawn {ns : List Int} {d : D} (h : RowOk ns d) {w : Web} (hw : w.Ok) : ∃ s d', f__law_state [.own d, .fz (webD w)] = .ok (stD s) [d'] ∧ StOk w.n s ∧ RowOk ns d' := by
  have hn := hw.pos
  have hm := hw.most
  obtain ⟨v, d1, e1, v0, v1, r1⟩ := taken h (m := 4) (by omega) (by omega)
  obtain ⟨r, b, e, s, d', er, eb, hs, hr⟩ := W.fn (len := 6) (n := 2) (ios := [0]) (m := m__law_state) (ss := [.own d, .fz (webD w)]) (P := fun r b => ∃ s d', r = stD s ∧ b = [d'] ∧ StOk w.n s ∧ RowOk ns d') rfl (by
    unfold m__law_state
    refine .seq (.nx (ρ' := [.own d1, .fz (webD w), .fz (.int v), .own (.list []), .no, .no]) (by simp [fnM, ownIx, backs, sRet, sSeq, sIf, sSet, sOwn, sDo, sNil, sAsg, Rs.sr, mOp2, Opd.ev, Opd.fin, at_, Sl.val, Rs.then, mLit, mVar, mB, mAnd, mOr, mNot, bAnd, bOr, bNot, mIf, bYes, mTup, mLst, evm, evo, fino, mFn, mCall, eva, sls, ioIx, putBack, Arg.opd, iSeq, iRng, fR1, fR2, sFor, tmName, tmTup, tmSeq, mApp, mExt, mPutAt, dPutAt, mIsi, dTy, isB, dEq, dNe, dLt, dLe, dGt, dGe, dIsN, dNotN, dAdd, dSub, dMod, dFdiv, dMul, dAt, dLen, dInt, dTuple, dList, mChain, sPar, setP, e1]) ?_)
    refine .seq (.rng (n := w.n) (ρ0 := [.own d1, .fz (webD w), .fz (.int v), .own (.list []), .no, .no]) (fun k ρ => ∃ (d : D) (s : List Int) (x y : Sl), ρ = [.own d, .fz (webD w), .fz (.int v), .own (.list (s.map PyData.int)), x, y] ∧ RowOk ns d ∧ s.length = k ∧ ∀ x ∈ s, 0 ≤ x ∧ x < 3) ?_ ?_ ?_ ?_)
    · refine iRng_nat (xs := [some (.int w.n)]) ?_ ?_ (by omega)
      · simp [fnM, ownIx, backs, sRet, sSeq, sIf, sSet, sOwn, sDo, sNil, sAsg, Rs.sr, mOp2, Opd.ev, Opd.fin, at_, Sl.val, Rs.then, mLit, mVar, mB, mAnd, mOr, mNot, bAnd, bOr, bNot, mIf, bYes, mTup, mLst, evm, evo, fino, mFn, mCall, eva, sls, ioIx, putBack, Arg.opd, iSeq, iRng, fR1, fR2, sFor, tmName, tmTup, tmSeq, mApp, mExt, mPutAt, dPutAt, mIsi, dTy, isB, dEq, dNe, dLt, dLe, dGt, dGe, dIsN, dNotN, dAdd, dSub, dMod, dFdiv, dMul, dAt, dLen, dInt, dTuple, dList, mChain, sPar, setP, webD, atI_0]
      · simp [fnM, ownIx, backs, sRet, sSeq, sIf, sSet, sOwn, sDo, sNil, sAsg, Rs.sr, mOp2, Opd.ev, Opd.fin, at_, Sl.val, Rs.then, mLit, mVar, mB, mAnd, mOr, mNot, bAnd, bOr, bNot, mIf, bYes, mTup, mLst, evm, evo, fino, mFn, mCall, eva, sls, ioIx, putBack, Arg.opd, iSeq, iRng, fR1, fR2, sFor, tmName, tmTup, tmSeq, mApp, mExt, mPutAt, dPutAt, mIsi, dTy, isB, dEq, dNe, dLt, dLe, dGt, dGe, dIsN, dNotN, dAdd, dSub, dMod, dFdiv, dMul, dAt, dLen, dInt, dTuple, dList, mChain, sPar, setP]
    · exact ⟨d1, [], .no, .no, rfl, r1, rfl, by simp⟩
    · rintro k _ k1 ⟨d, s, x, y, rfl, hr, hl, hs⟩
      obtain ⟨u, d2, e2, u0, u1, r2⟩ := taken hr (m := 3) (by omega) (by omega)
      have hz : s.length < sizeLine := by unfold sizeLine; omega
      have hput : ∀ z : Int, 0 ≤ z → z < 3 → ∃ (d : D) (s' : List Int) (x y : Sl), ([.own d2, .fz (webD w), .fz (.int v), .own (.list ((s ++ [z]).map PyData.int)), .fz (.int k), .fz (.int u)] : Env) = [.own d, .fz (webD w), .fz (.int v), .own (.list (s'.map PyData.int)), x, y] ∧ RowOk ns d ∧ s'.length = k + 1 ∧ ∀ x ∈ s', 0 ≤ x ∧ x < 3 := fun z z0 z1 =>
        ⟨d2, s ++ [z], _, _, rfl, r2, by simp; omega, fun q hq => by
          rcases List.mem_append.mp hq with p | p
          · exact hs q p
          · cases List.mem_singleton.mp p; exact ⟨z0, z1⟩⟩
      refine .seq (.nx (ρ' := [.own d2, .fz (webD w), .fz (.int v), .own (.list (s.map PyData.int)), .fz (.int k), .fz (.int u)]) (by simp [fnM, ownIx, backs, sRet, sSeq, sIf, sSet, sOwn, sDo, sNil, sAsg, Rs.sr, mOp2, Opd.ev, Opd.fin, at_, Sl.val, Rs.then, mLit, mVar, mB, mAnd, mOr, mNot, bAnd, bOr, bNot, mIf, bYes, mTup, mLst, evm, evo, fino, mFn, mCall, eva, sls, ioIx, putBack, Arg.opd, iSeq, iRng, fR1, fR2, sFor, tmName, tmTup, tmSeq, mApp, mExt, mPutAt, dPutAt, mIsi, dTy, isB, dEq, dNe, dLt, dLe, dGt, dGe, dIsN, dNotN, dAdd, dSub, dMod, dFdiv, dMul, dAt, dLen, dInt, dTuple, dList, mChain, sPar, setP, e2]) ?_)
      by_cases hv : 0 < v
      · exact .nx (ρ' := [.own d2, .fz (webD w), .fz (.int v), .own (.list ((s ++ [u]).map PyData.int)), .fz (.int k), .fz (.int u)]) (by simp [fnM, ownIx, backs, sRet, sSeq, sIf, sSet, sOwn, sDo, sNil, sAsg, Rs.sr, mOp2, Opd.ev, Opd.fin, at_, Sl.val, Rs.then, mLit, mVar, mB, mAnd, mOr, mNot, bAnd, bOr, bNot, mIf, bYes, mTup, mLst, evm, evo, fino, mFn, mCall, eva, sls, ioIx, putBack, Arg.opd, iSeq, iRng, fR1, fR2, sFor, tmName, tmTup, tmSeq, mApp, mExt, mPutAt, dPutAt, mIsi, dTy, isB, dEq, dNe, dLt, dLe, dGt, dGe, dIsN, dNotN, dAdd, dSub, dMod, dFdiv, dMul, dAt, dLen, dInt, dTuple, dList, mChain, sPar, setP, hv, hz]) (hput u u0 u1)
      · by_cases hu : u = 0
        · exact .nx (ρ' := [.own d2, .fz (webD w), .fz (.int v), .own (.list ((s ++ [((k : Int) + 1) % 3]).map PyData.int)), .fz (.int k), .fz (.int u)]) (by simp [fnM, ownIx, backs, sRet, sSeq, sIf, sSet, sOwn, sDo, sNil, sAsg, Rs.sr, mOp2, Opd.ev, Opd.fin, at_, Sl.val, Rs.then, mLit, mVar, mB, mAnd, mOr, mNot, bAnd, bOr, bNot, mIf, bYes, mTup, mLst, evm, evo, fino, mFn, mCall, eva, sls, ioIx, putBack, Arg.opd, iSeq, iRng, fR1, fR2, sFor, tmName, tmTup, tmSeq, mApp, mExt, mPutAt, dPutAt, mIsi, dTy, isB, dEq, dNe, dLt, dLe, dGt, dGe, dIsN, dNotN, dAdd, dSub, dMod, dFdiv, dMul, dAt, dLen, dInt, dTuple, dList, mChain, sPar, setP, hv, hz, hu, okD, SeqAt.shaped, PyData.canLay0, PyData.depth, PyData.eqv]) (hput _ (by omega) (by omega))
        · exact .nx (ρ' := [.own d2, .fz (webD w), .fz (.int v), .own (.list ((s ++ [((k : Int)) % 3]).map PyData.int)), .fz (.int k), .fz (.int u)]) (by simp [fnM, ownIx, backs, sRet, sSeq, sIf, sSet, sOwn, sDo, sNil, sAsg, Rs.sr, mOp2, Opd.ev, Opd.fin, at_, Sl.val, Rs.then, mLit, mVar, mB, mAnd, mOr, mNot, bAnd, bOr, bNot, mIf, bYes, mTup, mLst, evm, evo, fino, mFn, mCall, eva, sls, ioIx, putBack, Arg.opd, iSeq, iRng, fR1, fR2, sFor, tmName, tmTup, tmSeq, mApp, mExt, mPutAt, dPutAt, mIsi, dTy, isB, dEq, dNe, dLt, dLe, dGt, dGe, dIsN, dNotN, dAdd, dSub, dMod, dFdiv, dMul, dAt, dLen, dInt, dTuple, dList, mChain, sPar, setP, hv, hz, hu, okD, SeqAt.shaped, PyData.canLay0, PyData.depth, PyData.eqv]) (hput _ (by omega) (by omega))
    · rintro _ ⟨d, s, x, y, rfl, hr, hl, hs⟩
      exact .rt (d := stD s) (ρ' := [.own d, .fz (webD w), .fz (.int v), .own (.list (s.map PyData.int)), x, y]) (by simp [fnM, ownIx, backs, sRet, sSeq, sIf, sSet, sOwn, sDo, sNil, sAsg, Rs.sr, mOp2, Opd.ev, Opd.fin, at_, Sl.val, Rs.then, mLit, mVar, mB, mAnd, mOr, mNot, bAnd, bOr, bNot, mIf, bYes, mTup, mLst, evm, evo, fino, mFn, mCall, eva, sls, ioIx, putBack, Arg.opd, iSeq, iRng, fR1, fR2, sFor, tmName, tmTup, tmSeq, mApp, mExt, mPutAt, dPutAt, mIsi, dTy, isB, dEq, dNe, dLt, dLe, dGt, dGe, dIsN, dNotN, dAdd, dSub, dMod, dFdiv, dMul, dAt, dLen, dInt, dTuple, dList, mChain, sPar, setP, stD]) ⟨[d], rfl, s, d, rfl, rfl, ⟨hl, hs⟩, hr⟩)
  exact ⟨s, d', by rw [← er, ← eb]; exact e, hs, hr⟩

set_option autoImplicit false
def kvsD (es : List (Nat × Nat)) : List (D × D) := es.map fun p => (pairN p, .bool true)
theorem toKT_pair (p : Nat × Nat) : toKT (pairN p) = some [.inl (p.1 : Int), .inl (p.2 : Int)] := rfl
theorem toK1_pair (p : Nat × Nat) : toK1 (pairN p) = none := rfl
theorem dkEq_pair (p q : Nat × Nat) : dkEq (pairN p) (pairN q) = decide (p = q) := by
  unfold dkEq
  rw [toK1_pair, toK1_pair, toKT_pair, toKT_pair]
  obtain ⟨a, b⟩ := p
  obtain ⟨c, d⟩ := q
  simp
  congr 1 <;> exact decide_eq_decide.mpr (by omega)
theorem keyFits_pair (es : List (Nat × Nat)) (q : Nat × Nat) : keyFits (kvsD es) (pairN q) = true := by
  unfold keyFits
  rw [toK1_pair, toKT_pair]
  simp [kvsD, toKT_pair]
def addN (es : List (Nat × Nat)) (q : Nat × Nat) : List (Nat × Nat) := if q ∈ es then es else es ++ [q]
theorem dPutV_pair (es : List (Nat × Nat)) (q : Nat × Nat) : dPutV (kvsD es) (pairN q) (.bool true) = kvsD (addN es q) := by
  unfold dPutV addN
  have h : ((kvsD es).any fun p => dkEq p.1 (pairN q)) = decide (q ∈ es) := by
    rw [Bool.eq_iff_iff]
    simp [kvsD, dkEq_pair]
  rw [h]
  by_cases hq : q ∈ es
  · rw [if_pos (by simpa using hq), if_pos hq]
    unfold kvsD
    rw [List.map_map]
    refine List.map_congr_left fun p hp => ?_
    show (if dkEq (pairN p) (pairN q) = true then (pairN p, PyData.bool true) else (pairN p, PyData.bool true)) = _
    rw [ite_self]
  · rw [if_neg (by simpa using hq), if_neg hq]
    simp [kvsD]
def castP (p : Nat × Nat) : Int × Int := (p.1, p.2)
def unP (p : Int × Int) : Nat × Nat := (p.1.toNat, p.2.toNat)
def sortN (es : List (Nat × Nat)) : List (Nat × Nat) := (sortP (es.map castP)).map unP
theorem sortN_cast (es : List (Nat × Nat)) : (sortN es).map castP = sortP (es.map castP) := by
  unfold sortN
  rw [List.map_map]
  refine (List.map_congr_left fun p hp => ?_).trans (List.map_id _)
  have hm : p ∈ es.map castP := (isort_perm leP _).mem_iff.mp hp
  obtain ⟨q, _, rfl⟩ := List.mem_map.mp hm
  rfl
theorem sortN_perm (es : List (Nat × Nat)) : (sortN es).Perm es := by
  have h : (sortP (es.map castP)).Perm (es.map castP) := isort_perm leP _
  have h2 := h.map unP
  rw [List.map_map] at h2
  have e : List.map (unP ∘ castP) es = es := (List.map_congr_left fun p _ => rfl).trans (List.map_id _)
  rw [e] at h2
  exact h2
theorem sortN_sorted {es : List (Nat × Nat)} (h : es.Nodup) : (sortN es).Pairwise lexN := by
  have h1 : (sortP (es.map castP)).Pairwise fun x y => leP x y = true := isort_sorted (fun a b c h1 h2 => by rw [leP_iff] at *; omega) (fun a b => by rw [leP_iff, leP_iff]; omega) _
  rw [← sortN_cast, List.pairwise_map] at h1
  have h2 : (sortN es).Nodup := (sortN_perm es).nodup_iff.mpr h
  refine (h1.and h2).imp fun {a b} ⟨h3, h4⟩ => ?_
  rw [leP_iff] at h3
  obtain ⟨a1, a2⟩ := a
  obtain ⟨b1, b2⟩ := b
  have : ¬ (a1 = b1 ∧ a2 = b2) := fun ⟨x, y⟩ => h4 (by rw [x, y])
  simp only [castP] at h3
  simp only [lexN]
  omega
theorem dSort_pair (es : List (Nat × Nat)) : dSort [.list (es.map pairN)] = some (.list ((sortN es).map pairN)) := by
  have e : ∀ l : List (Nat × Nat), l.map pairN = (l.map castP).map pairD := fun l => by rw [List.map_map]; rfl
  cases es with
  | nil => rfl
  | cons p es =>
    have h1 : dInts ((p :: es).map pairN) = none := rfl
    have h2 : dPairs ((p :: es).map pairN) = some ((p :: es).map castP) := by rw [e]; exact dPairs_of _
    rw [e (sortN _), sortN_cast]
    unfold dSort
    simp only [h1, h2]
structure Half (n k : Nat) (es : List (Nat × Nat)) : Prop where
  nd : es.Nodup
  inn : ∀ e ∈ es, e.1 < e.2 ∧ e.2 < n
  few : es.length ≤ k
theorem Half.add {n k : Nat} {es : List (Nat × Nat)} (h : Half n k es) {a b : Nat} (h1 : a < b) (h2 : b < n) : Half n (k + 1) (addN es (a, b)) := by
  unfold addN
  by_cases hq : (a, b) ∈ es
  · rw [if_pos hq]; exact ⟨h.nd, h.inn, Nat.le_succ_of_le h.few⟩
  · rw [if_neg hq]
    refine ⟨List.nodup_append.mpr ⟨h.nd, by simp, fun x hx y hy e => ?_⟩, fun e he => ?_, by simp; exact h.few⟩
    · cases List.mem_singleton.mp hy; exact hq (e ▸ hx)
    · rcases List.mem_append.mp he with p | p
      · exact h.inn e p
      · cases List.mem_singleton.mp p; exact ⟨h1, h2⟩
theorem Half.more {n k l : Nat} {es : List (Nat × Nat)} (h : Half n k es) (hk : k ≤ l) : Half n l es := ⟨h.nd, h.inn, Nat.le_trans h.few hk⟩
theorem Half.ok {n k : Nat} {es : List (Nat × Nat)} (h : Half n k es) (h1 : 1 ≤ n) (h2 : n ≤ 10) (hk : k ≤ 100) : Web.Ok ⟨n, sortN es⟩ :=
  ⟨h1, h2, by rw [(sortN_perm es).length_eq]; exact Nat.le_trans h.few hk, sortN_sorted h.nd, fun e he => h.inn e ((sortN_perm es).mem_iff.mp he)⟩
theorem put_pair {es : List (Nat × Nat)} (h : es.length ≤ 100) (q : Nat × Nat) : dPutAt (.dict (kvsD es)) (pairN q) (.bool true) = some (.dict (kvsD (addN es q))) := by
  have hl : (kvsD es).length < sizeLine := by unfold kvsD sizeLine; rw [List.length_map]; omega
  unfold dPutAt
  have hk := keyFits_pair es q
  cases q with
  | mk a b =>
    show (if (kvsD es).length < sizeLine ∧ keyFits (kvsD es) (pairN (a, b)) = true then some (PyData.dict (dPutV (kvsD es) (pairN (a, b)) (.bool true))) else none) = _
    rw [if_pos ⟨hl, hk⟩, dPutV_pair]

set_option autoImplicit false
theorem kvsD_T (es : List (Nat × Nat)) : ((kvsD es).all fun p => (toKT p.1).isSome) = true := by simp [kvsD, toKT_pair]
theorem kvsD_keys (es : List (Nat × Nat)) : (kvsD es).map (·.1) = es.map pairN := by simp [kvsD]
theorem web_drawn {ns : List Int} {d : D} (h : RowOk ns d) {most : Int} (hm0 : 0 < most) (hm : most ≤ 10) : ∃ (w : Web) (d' : D), f__law_web [.own d, .fz (.int most)] = .ok (webD w) [d'] ∧ w.Ok ∧ (w.n : Int) ≤ most ∧ RowOk ns d' := by
  obtain ⟨u, d1, e1, u0, u1, r1⟩ := taken h (m := most) (by omega) (by omega)
  obtain ⟨way, d2, e2, y0, y1, r2⟩ := taken r1 (m := 5) (by omega) (by omega)
  obtain ⟨n, hn⟩ : ∃ n : Nat, 1 + u = n := ⟨(1 + u).toNat, by omega⟩
  have n1 : 1 ≤ n := by omega
  have n2 : (n : Int) ≤ most := by omega
  obtain ⟨r, b, e, w, d', er, eb, hs, hn', hr⟩ := W.fn (len := 8) (n := 2) (ios := [0]) (m := m__law_web) (ss := [.own d, .fz (.int most)]) (P := fun r b => ∃ w d', r = webD w ∧ b = [d'] ∧ w.Ok ∧ (w.n : Int) ≤ most ∧ RowOk ns d') rfl (by
    unfold m__law_web
    refine .seq (.nx (ρ' := [.own d2, .fz (.int most), .fz (.int n), .fz (.int way), .own (.dict (kvsD [])), .no, .no, .no]) (by simp [fnM, ownIx, backs, sRet, sSeq, sIf, sSet, sOwn, sDo, sNil, sAsg, Rs.sr, mOp2, Opd.ev, Opd.fin, at_, Sl.val, Rs.then, mLit, mVar, mB, mAnd, mOr, mNot, bAnd, bOr, bNot, mIf, bYes, mTup, mLst, evm, evo, fino, mFn, mCall, eva, sls, ioIx, putBack, Arg.opd, iSeq, iRng, fR1, fR2, sFor, tmName, tmTup, tmSeq, mApp, mExt, mPutAt, dPutAt, mIsi, dTy, isB, dEq, dNe, dLt, dLe, dGt, dGe, dIsN, dNotN, dAdd, dSub, dMod, dFdiv, dMul, dAt, dLen, dInt, dTuple, dList, mChain, sPar, setP, e1, e2, mDict0, hn, kvsD]) ?_)
    refine .seq (.rngl (lo := 1) (n := n - 1) (ρ0 := [.own d2, .fz (.int most), .fz (.int n), .fz (.int way), .own (.dict (kvsD [])), .no, .no, .no]) (fun k ρ => ∃ (d : D) (es : List (Nat × Nat)) (x : Sl), ρ = [.own d, .fz (.int most), .fz (.int n), .fz (.int way), .own (.dict (kvsD es)), x, .no, .no] ∧ RowOk ns d ∧ Half n k es) ?_ ?_ ?_ ?_)
    · have := iRng_ok (f := fR2) (os := [.ex (mLit (.int 1)), .sl 2]) (lo := 1) (hi := (n : Int)) (ρ := [.own d2, .fz (.int most), .fz (.int n), .fz (.int way), .own (.dict (kvsD [])), .no, .no, .no]) (ρ1 := [.own d2, .fz (.int most), .fz (.int n), .fz (.int way), .own (.dict (kvsD [])), .no, .no, .no]) (xs := [some (.int 1), none]) (ds := [.int 1, .int n]) (by simp [fnM, ownIx, backs, sRet, sSeq, sIf, sSet, sOwn, sDo, sNil, sAsg, Rs.sr, mOp2, Opd.ev, Opd.fin, at_, Sl.val, Rs.then, mLit, mVar, mB, mAnd, mOr, mNot, bAnd, bOr, bNot, mIf, bYes, mTup, mLst, evm, evo, fino, mFn, mCall, eva, sls, ioIx, putBack, Arg.opd, iSeq, iRng, fR1, fR2, sFor, tmName, tmTup, tmSeq, mApp, mExt, mPutAt, dPutAt, mIsi, dTy, isB, dEq, dNe, dLt, dLe, dGt, dGe, dIsN, dNotN, dAdd, dSub, dMod, dFdiv, dMul, dAt, dLen, dInt, dTuple, dList, mChain, sPar, setP]) (by simp [fnM, ownIx, backs, sRet, sSeq, sIf, sSet, sOwn, sDo, sNil, sAsg, Rs.sr, mOp2, Opd.ev, Opd.fin, at_, Sl.val, Rs.then, mLit, mVar, mB, mAnd, mOr, mNot, bAnd, bOr, bNot, mIf, bYes, mTup, mLst, evm, evo, fino, mFn, mCall, eva, sls, ioIx, putBack, Arg.opd, iSeq, iRng, fR1, fR2, sFor, tmName, tmTup, tmSeq, mApp, mExt, mPutAt, dPutAt, mIsi, dTy, isB, dEq, dNe, dLt, dLe, dGt, dGe, dIsN, dNotN, dAdd, dSub, dMod, dFdiv, dMul, dAt, dLen, dInt, dTuple, dList, mChain, sPar, setP]) rfl ⟨by omega, by omega, by omega, by omega⟩
      rw [show ((n : Int) - 1).toNat = n - 1 by omega] at this
      exact this
    · exact ⟨d2, [], _, rfl, r2, ⟨by simp, by simp, by simp⟩⟩
    · rintro k _ hk ⟨d, es, x, rfl, hr, hh⟩
      have hp : ∀ (a b : Nat) (x y : Int), x = a → y = b → dPutAt (.dict (kvsD es)) (.tuple [.int x, .int y]) (.bool true) = some (.dict (kvsD (addN es (a, b)))) := fun a b x y hx hy => by
        rw [hx, hy]; exact put_pair (es := es) (Nat.le_trans hh.few (by omega)) (a, b)
      have fin : ∀ (d : D) (a : Nat), RowOk ns d → a < k + 1 → ∃ (d' : D) (es' : List (Nat × Nat)) (x : Sl), ([.own d, .fz (.int most), .fz (.int n), .fz (.int way), .own (.dict (kvsD (addN es (a, k + 1)))), .fz (.int (1 + k)), .no, .no] : Env) = [.own d', .fz (.int most), .fz (.int n), .fz (.int way), .own (.dict (kvsD es')), x, .no, .no] ∧ RowOk ns d' ∧ Half n (k + 1) es' := fun d a h1 h2 => ⟨d, _, _, rfl, h1, hh.add h2 (by omega)⟩
      have key : ∀ d, RowOk ns d → W (sAsg (mLit (.bool true)) (mPutAt 4 (.ex (mTup [mIf (mB (mOp2 dLt (.sl 3) (.ex (mLit (.int 3))))) (mOp2 dSub (.sl 5) (.ex (mLit (.int 1)))) (mCall f__law_taken [.io 0, .v (mVar 5)]), mVar 5])))) [.own d, .fz (.int most), .fz (.int n), .fz (.int way), .own (.dict (kvsD es)), .fz (.int (1 + k)), .no, .no]
          (fun ρ => ∃ (d : D) (es : List (Nat × Nat)) (x : Sl), ρ = [.own d, .fz (.int most), .fz (.int n), .fz (.int way), .own (.dict (kvsD es)), x, .no, .no] ∧ RowOk ns d ∧ Half n (k + 1) es) fun d ρ => False := fun d hr => by
        by_cases hw : way < 3
        · exact .nx (by simp [fnM, ownIx, backs, sRet, sSeq, sIf, sSet, sOwn, sDo, sNil, sAsg, Rs.sr, mOp2, Opd.ev, Opd.fin, at_, Sl.val, Rs.then, mLit, mVar, mB, mAnd, mOr, mNot, bAnd, bOr, bNot, mIf, bYes, mTup, mLst, evm, evo, fino, mFn, mCall, eva, sls, ioIx, putBack, Arg.opd, iSeq, iRng, fR1, fR2, sFor, tmName, tmTup, tmSeq, mApp, mExt, mPutAt, mIsi, dTy, isB, dEq, dNe, dLt, dLe, dGt, dGe, dIsN, dNotN, dAdd, dSub, dMod, dFdiv, dMul, dAt, dLen, dInt, dTuple, dList, mChain, sPar, setP, hw, hp k (k + 1) (1 + k - 1) (1 + k) (by omega) (by omega)]) (fin d k hr (by omega))
        · obtain ⟨v, d', e, v0, v1, r⟩ := taken hr (m := 1 + k) (by omega) (by omega)
          exact .nx (by simp [fnM, ownIx, backs, sRet, sSeq, sIf, sSet, sOwn, sDo, sNil, sAsg, Rs.sr, mOp2, Opd.ev, Opd.fin, at_, Sl.val, Rs.then, mLit, mVar, mB, mAnd, mOr, mNot, bAnd, bOr, bNot, mIf, bYes, mTup, mLst, evm, evo, fino, mFn, mCall, eva, sls, ioIx, putBack, Arg.opd, iSeq, iRng, fR1, fR2, sFor, tmName, tmTup, tmSeq, mApp, mExt, mPutAt, mIsi, dTy, isB, dEq, dNe, dLt, dLe, dGt, dGe, dIsN, dNotN, dAdd, dSub, dMod, dFdiv, dMul, dAt, dLen, dInt, dTuple, dList, mChain, sPar, setP, hw, e, hp v.toNat (k + 1) v (1 + k) (by omega) (by omega)]) (fin d' v.toNat r (by omega))
      by_cases hy : 0 < way
      · exact .ite (x := true) (ρ1 := [.own d, .fz (.int most), .fz (.int n), .fz (.int way), .own (.dict (kvsD es)), .fz (.int (1 + k)), .no, .no]) (by simp [fnM, ownIx, backs, sRet, sSeq, sIf, sSet, sOwn, sDo, sNil, sAsg, Rs.sr, mOp2, Opd.ev, Opd.fin, at_, Sl.val, Rs.then, mLit, mVar, mB, mAnd, mOr, mNot, bAnd, bOr, bNot, mIf, bYes, mTup, mLst, evm, evo, fino, mFn, mCall, eva, sls, ioIx, putBack, Arg.opd, iSeq, iRng, fR1, fR2, sFor, tmName, tmTup, tmSeq, mApp, mExt, mPutAt, mIsi, dTy, isB, dEq, dNe, dLt, dLe, dGt, dGe, dIsN, dNotN, dAdd, dSub, dMod, dFdiv, dMul, dAt, dLen, dInt, dTuple, dList, mChain, sPar, setP, hy]) ((key d hr).imp (fun _ h => h) fun _ _ h => h.elim)
      · obtain ⟨v, d', e, v0, v1, r⟩ := taken hr (m := 3) (by omega) (by omega)
        by_cases hv : 0 < v
        · exact .ite (x := true) (ρ1 := [.own d', .fz (.int most), .fz (.int n), .fz (.int way), .own (.dict (kvsD es)), .fz (.int (1 + k)), .no, .no]) (by simp [fnM, ownIx, backs, sRet, sSeq, sIf, sSet, sOwn, sDo, sNil, sAsg, Rs.sr, mOp2, Opd.ev, Opd.fin, at_, Sl.val, Rs.then, mLit, mVar, mB, mAnd, mOr, mNot, bAnd, bOr, bNot, mIf, bYes, mTup, mLst, evm, evo, fino, mFn, mCall, eva, sls, ioIx, putBack, Arg.opd, iSeq, iRng, fR1, fR2, sFor, tmName, tmTup, tmSeq, mApp, mExt, mPutAt, mIsi, dTy, isB, dEq, dNe, dLt, dLe, dGt, dGe, dIsN, dNotN, dAdd, dSub, dMod, dFdiv, dMul, dAt, dLen, dInt, dTuple, dList, mChain, sPar, setP, hy, e, hv]) ((key d' r).imp (fun _ h => h) fun _ _ h => h.elim)
        · exact .ite (x := false) (ρ1 := [.own d', .fz (.int most), .fz (.int n), .fz (.int way), .own (.dict (kvsD es)), .fz (.int (1 + k)), .no, .no]) (by simp [fnM, ownIx, backs, sRet, sSeq, sIf, sSet, sOwn, sDo, sNil, sAsg, Rs.sr, mOp2, Opd.ev, Opd.fin, at_, Sl.val, Rs.then, mLit, mVar, mB, mAnd, mOr, mNot, bAnd, bOr, bNot, mIf, bYes, mTup, mLst, evm, evo, fino, mFn, mCall, eva, sls, ioIx, putBack, Arg.opd, iSeq, iRng, fR1, fR2, sFor, tmName, tmTup, tmSeq, mApp, mExt, mPutAt, mIsi, dTy, isB, dEq, dNe, dLt, dLe, dGt, dGe, dIsN, dNotN, dAdd, dSub, dMod, dFdiv, dMul, dAt, dLen, dInt, dTuple, dList, mChain, sPar, setP, hy, e, hv]) (.nx rfl ⟨d', es, _, rfl, r, hh.more (by omega)⟩)
    · rintro _ ⟨d3, es, x, rfl, r3, h3⟩
      have hp : dPutAt (.dict (kvsD es)) (.tuple [.int 0, .int ((n : Int) - 1)]) (.bool true) = some (.dict (kvsD (addN es (0, n - 1)))) := by
        have := put_pair (es := es) (Nat.le_trans h3.few (by omega)) (0, n - 1)
        rw [← this]
        unfold pairN
        rw [show (((0, n - 1) : Nat × Nat).2 : Int) = (n : Int) - 1 by show ((n - 1 : Nat) : Int) = _; omega]
        rfl
      refine .seq (W.imp (N := fun ρ => ∃ (d : D) (es : List (Nat × Nat)) (x y : Sl), ρ = [.own d, .fz (.int most), .fz (.int n), .fz (.int way), .own (.dict (kvsD es)), x, y, .no] ∧ RowOk ns d ∧ Half n n es) (R := fun _ _ => False) ?_ ?_ fun _ _ h => h.elim)
      · have st : ∀ (d : D) (es' : List (Nat × Nat)), RowOk ns d → Half n n es' → ∃ (d' : D) (es : List (Nat × Nat)) (x' y : Sl), ([.own d, .fz (.int most), .fz (.int n), .fz (.int way), .own (.dict (kvsD es')), x, .no, .no] : Env) = [.own d', .fz (.int most), .fz (.int n), .fz (.int way), .own (.dict (kvsD es)), x', y, .no] ∧ RowOk ns d' ∧ Half n n es := fun d es' h1 h2 => ⟨d, es', x, .no, rfl, h1, h2⟩
        by_cases hc : (way = 1 ∨ way = 2) ∧ 2 < n
        · obtain ⟨hc1, hc2⟩ := hc
          have hc3 : (2 : Int) < n := by omega
          refine .ite (x := true) (ρ1 := [.own d3, .fz (.int most), .fz (.int n), .fz (.int way), .own (.dict (kvsD es)), x, .no, .no]) ?_ (.nx (by simp [fnM, ownIx, backs, sRet, sSeq, sIf, sSet, sOwn, sDo, sNil, sAsg, Rs.sr, mOp2, Opd.ev, Opd.fin, at_, Sl.val, Rs.then, mLit, mVar, mB, mAnd, mOr, mNot, bAnd, bOr, bNot, mIf, bYes, mTup, mLst, evm, evo, fino, mFn, mCall, eva, sls, ioIx, putBack, Arg.opd, iSeq, iRng, fR1, fR2, sFor, tmName, tmTup, tmSeq, mApp, mExt, mPutAt, mIsi, dTy, isB, dEq, dNe, dLt, dLe, dGt, dGe, dIsN, dNotN, dAdd, dSub, dMod, dFdiv, dMul, dAt, dLen, dInt, dTuple, dList, mChain, sPar, setP, hp]) (st d3 _ r3 ((h3.add (a := 0) (b := n - 1) (by omega) (by omega)).more (by omega))))
          rcases hc1 with rfl | rfl <;> simp [fnM, ownIx, backs, sRet, sSeq, sIf, sSet, sOwn, sDo, sNil, sAsg, Rs.sr, mOp2, Opd.ev, Opd.fin, at_, Sl.val, Rs.then, mLit, mVar, mB, mAnd, mOr, mNot, bAnd, bOr, bNot, mIf, bYes, mTup, mLst, evm, evo, fino, mFn, mCall, eva, sls, ioIx, putBack, Arg.opd, iSeq, iRng, fR1, fR2, sFor, tmName, tmTup, tmSeq, mApp, mExt, mPutAt, mIsi, dTy, isB, dEq, dNe, dLt, dLe, dGt, dGe, dIsN, dNotN, dAdd, dSub, dMod, dFdiv, dMul, dAt, dLen, dInt, dTuple, dList, mChain, sPar, setP, dIn, dHas, inAny, okD, SeqAt.shaped, PyData.canLay0, PyData.canLayAll0, PyData.depth, PyData.depthAll, PyData.eqv, hc2, hc3]
        · refine .ite (x := false) (ρ1 := [.own d3, .fz (.int most), .fz (.int n), .fz (.int way), .own (.dict (kvsD es)), x, .no, .no]) ?_ (.nx rfl (st d3 _ r3 (h3.more (by omega))))
          by_cases hc1 : way = 1 ∨ way = 2
          · have hc3 : ¬ (2 : Int) < n := by omega
            rcases hc1 with rfl | rfl <;> simp [fnM, ownIx, backs, sRet, sSeq, sIf, sSet, sOwn, sDo, sNil, sAsg, Rs.sr, mOp2, Opd.ev, Opd.fin, at_, Sl.val, Rs.then, mLit, mVar, mB, mAnd, mOr, mNot, bAnd, bOr, bNot, mIf, bYes, mTup, mLst, evm, evo, fino, mFn, mCall, eva, sls, ioIx, putBack, Arg.opd, iSeq, iRng, fR1, fR2, sFor, tmName, tmTup, tmSeq, mApp, mExt, mPutAt, mIsi, dTy, isB, dEq, dNe, dLt, dLe, dGt, dGe, dIsN, dNotN, dAdd, dSub, dMod, dFdiv, dMul, dAt, dLen, dInt, dTuple, dList, mChain, sPar, setP, dIn, dHas, inAny, okD, SeqAt.shaped, PyData.canLay0, PyData.canLayAll0, PyData.depth, PyData.depthAll, PyData.eqv, hc3]
          · have hc2 : ¬ 1 = way := by omega
            have hc3 : ¬ 2 = way := by omega
            simp [fnM, ownIx, backs, sRet, sSeq, sIf, sSet, sOwn, sDo, sNil, sAsg, Rs.sr, mOp2, Opd.ev, Opd.fin, at_, Sl.val, Rs.then, mLit, mVar, mB, mAnd, mOr, mNot, bAnd, bOr, bNot, mIf, bYes, mTup, mLst, evm, evo, fino, mFn, mCall, eva, sls, ioIx, putBack, Arg.opd, iSeq, iRng, fR1, fR2, sFor, tmName, tmTup, tmSeq, mApp, mExt, mPutAt, mIsi, dTy, isB, dEq, dNe, dLt, dLe, dGt, dGe, dIsN, dNotN, dAdd, dSub, dMod, dFdiv, dMul, dAt, dLen, dInt, dTuple, dList, mChain, sPar, setP, dIn, dHas, inAny, okD, SeqAt.shaped, PyData.canLay0, PyData.canLayAll0, PyData.depth, PyData.depthAll, PyData.eqv, hc2, hc3]
      · rintro _ ⟨d4, es, x, y, rfl, r4, h4⟩
        obtain ⟨c, d5, hit, r5, hc⟩ : ∃ (c : Nat) (d5 : D), iRng fR1 [.ex (mIf (mB (mOp2 dNe (.sl 3) (.ex (mLit (.int 1))))) (mCall f__law_taken [.io 0, .v (mVar 2)]) (mLit (.int 0)))] [.own d4, .fz (.int most), .fz (.int n), .fz (.int way), .own (.dict (kvsD es)), x, y, .no] = .ok (up 0 c) [.own d5, .fz (.int most), .fz (.int n), .fz (.int way), .own (.dict (kvsD es)), x, y, .no] ∧ RowOk ns d5 ∧ c ≤ n := by
          by_cases hw : way = 1
          · refine ⟨0, d4, iRng_nat (xs := [some (.int 0)]) ?_ rfl (by omega), r4, by omega⟩
            simp [fnM, ownIx, backs, sRet, sSeq, sIf, sSet, sOwn, sDo, sNil, sAsg, Rs.sr, mOp2, Opd.ev, Opd.fin, at_, Sl.val, Rs.then, mLit, mVar, mB, mAnd, mOr, mNot, bAnd, bOr, bNot, mIf, bYes, mTup, mLst, evm, evo, fino, mFn, mCall, eva, sls, ioIx, putBack, Arg.opd, iSeq, iRng, fR1, fR2, sFor, tmName, tmTup, tmSeq, mApp, mExt, mPutAt, mIsi, dTy, isB, dEq, dNe, dLt, dLe, dGt, dGe, dIsN, dNotN, dAdd, dSub, dMod, dFdiv, dMul, dAt, dLen, dInt, dTuple, dList, mChain, sPar, setP, hw, okD, SeqAt.shaped, PyData.canLay0, PyData.depth, PyData.eqv]
          · obtain ⟨v, d', e, v0, v1, r⟩ := taken r4 (m := n) (by omega) (by omega)
            have hv : v = (v.toNat : Int) := by omega
            refine ⟨v.toNat, d', iRng_nat (xs := [some (.int v)]) ?_ (by rw [← hv]; rfl) (by omega), r, by omega⟩
            simp [fnM, ownIx, backs, sRet, sSeq, sIf, sSet, sOwn, sDo, sNil, sAsg, Rs.sr, mOp2, Opd.ev, Opd.fin, at_, Sl.val, Rs.then, mLit, mVar, mB, mAnd, mOr, mNot, bAnd, bOr, bNot, mIf, bYes, mTup, mLst, evm, evo, fino, mFn, mCall, eva, sls, ioIx, putBack, Arg.opd, iSeq, iRng, fR1, fR2, sFor, tmName, tmTup, tmSeq, mApp, mExt, mPutAt, mIsi, dTy, isB, dEq, dNe, dLt, dLe, dGt, dGe, dIsN, dNotN, dAdd, dSub, dMod, dFdiv, dMul, dAt, dLen, dInt, dTuple, dList, mChain, sPar, setP, hw, e, okD, SeqAt.shaped, PyData.canLay0, PyData.depth, PyData.eqv]
        refine .seq (.rng (n := c) (fun k ρ => ∃ (d : D) (es : List (Nat × Nat)) (x y z : Sl), ρ = [.own d, .fz (.int most), .fz (.int n), .fz (.int way), .own (.dict (kvsD es)), x, y, z] ∧ RowOk ns d ∧ Half n (n + k) es) hit ⟨d5, es, x, y, _, rfl, r5, h4⟩ ?_ ?_)
        · rintro k _ hk ⟨d, es, x, y, z, rfl, r, hh⟩
          obtain ⟨a', e1, g1, a0, a1, q1⟩ := taken r (m := n) (by omega) (by omega)
          obtain ⟨b', e2, g2, b0, b1, q2⟩ := taken q1 (m := n) (by omega) (by omega)
          refine .seq (.nx (ρ' := [.own e2, .fz (.int most), .fz (.int n), .fz (.int way), .own (.dict (kvsD es)), .fz (.int a'), .fz (.int k), .fz (.int b')]) (by simp [fnM, ownIx, backs, sRet, sSeq, sIf, sSet, sOwn, sDo, sNil, sAsg, Rs.sr, mOp2, Opd.ev, Opd.fin, at_, Sl.val, Rs.then, mLit, mVar, mB, mAnd, mOr, mNot, bAnd, bOr, bNot, mIf, bYes, mTup, mLst, evm, evo, fino, mFn, mCall, eva, sls, ioIx, putBack, Arg.opd, iSeq, iRng, fR1, fR2, sFor, tmName, tmTup, tmSeq, mApp, mExt, mPutAt, mIsi, dTy, isB, dEq, dNe, dLt, dLe, dGt, dGe, dIsN, dNotN, dAdd, dSub, dMod, dFdiv, dMul, dAt, dLen, dInt, dTuple, dList, mChain, sPar, setP, g1, g2]) ?_)
          have fin : ∀ es' : List (Nat × Nat), Half n (n + (k + 1)) es' → ∃ (d : D) (es : List (Nat × Nat)) (x y z : Sl), ([.own e2, .fz (.int most), .fz (.int n), .fz (.int way), .own (.dict (kvsD es')), .fz (.int a'), .fz (.int k), .fz (.int b')] : Env) = [.own d, .fz (.int most), .fz (.int n), .fz (.int way), .own (.dict (kvsD es)), x, y, z] ∧ RowOk ns d ∧ Half n (n + (k + 1)) es := fun es' h => ⟨e2, es', _, _, _, rfl, q2, h⟩
          by_cases hab : a' = b'
          · refine .ite (x := false) (ρ1 := [.own e2, .fz (.int most), .fz (.int n), .fz (.int way), .own (.dict (kvsD es)), .fz (.int a'), .fz (.int k), .fz (.int b')]) ?_ (.nx rfl (fin es (hh.more (by omega))))
            simp [fnM, ownIx, backs, sRet, sSeq, sIf, sSet, sOwn, sDo, sNil, sAsg, Rs.sr, mOp2, Opd.ev, Opd.fin, at_, Sl.val, Rs.then, mLit, mVar, mB, mAnd, mOr, mNot, bAnd, bOr, bNot, mIf, bYes, mTup, mLst, evm, evo, fino, mFn, mCall, eva, sls, ioIx, putBack, Arg.opd, iSeq, iRng, fR1, fR2, sFor, tmName, tmTup, tmSeq, mApp, mExt, mPutAt, mIsi, dTy, isB, dEq, dNe, dLt, dLe, dGt, dGe, dIsN, dNotN, dAdd, dSub, dMod, dFdiv, dMul, dAt, dLen, dInt, dTuple, dList, mChain, sPar, setP, okD, SeqAt.shaped, PyData.canLay0, PyData.depth, PyData.eqv, hab]
          · refine .ite (x := true) (ρ1 := [.own e2, .fz (.int most), .fz (.int n), .fz (.int way), .own (.dict (kvsD es)), .fz (.int a'), .fz (.int k), .fz (.int b')]) ?_ (.nx ?_ (fin (addN es ((min a' b').toNat, (max a' b').toNat)) (hh.add (by omega) (by omega))))
            · simp [fnM, ownIx, backs, sRet, sSeq, sIf, sSet, sOwn, sDo, sNil, sAsg, Rs.sr, mOp2, Opd.ev, Opd.fin, at_, Sl.val, Rs.then, mLit, mVar, mB, mAnd, mOr, mNot, bAnd, bOr, bNot, mIf, bYes, mTup, mLst, evm, evo, fino, mFn, mCall, eva, sls, ioIx, putBack, Arg.opd, iSeq, iRng, fR1, fR2, sFor, tmName, tmTup, tmSeq, mApp, mExt, mPutAt, mIsi, dTy, isB, dEq, dNe, dLt, dLe, dGt, dGe, dIsN, dNotN, dAdd, dSub, dMod, dFdiv, dMul, dAt, dLen, dInt, dTuple, dList, mChain, sPar, setP, okD, SeqAt.shaped, PyData.canLay0, PyData.depth, PyData.eqv, hab]
            · have hp : ∀ x y : Int, x = min a' b' → y = max a' b' → dPutAt (.dict (kvsD es)) (.tuple [.int x, .int y]) (.bool true) = some (.dict (kvsD (addN es ((min a' b').toNat, (max a' b').toNat)))) := fun x y hx hy => by
                rw [← put_pair (es := es) (Nat.le_trans hh.few (by omega)), show x = ((min a' b').toNat : Int) by omega, show y = ((max a' b').toNat : Int) by omega]
                rfl
              rcases Int.lt_or_gt_of_ne hab with l | l
              · have l1 : ¬ b' < a' := by omega
                simp [fnM, ownIx, backs, sRet, sSeq, sIf, sSet, sOwn, sDo, sNil, sAsg, Rs.sr, mOp2, Opd.ev, Opd.fin, at_, Sl.val, Rs.then, mLit, mVar, mB, mAnd, mOr, mNot, bAnd, bOr, bNot, mIf, bYes, mTup, mLst, evm, evo, fino, mFn, mCall, eva, sls, ioIx, putBack, Arg.opd, iSeq, iRng, fR1, fR2, sFor, tmName, tmTup, tmSeq, mApp, mExt, mPutAt, mIsi, dTy, isB, dEq, dNe, dLt, dLe, dGt, dGe, dIsN, dNotN, dAdd, dSub, dMod, dFdiv, dMul, dAt, dLen, dInt, dTuple, dList, mChain, sPar, setP, dMin2, dMax2, l, l1, hp a' b' (by omega) (by omega)]
              · have l1 : ¬ a' < b' := by omega
                have l2 : b' < a' := l
                simp [fnM, ownIx, backs, sRet, sSeq, sIf, sSet, sOwn, sDo, sNil, sAsg, Rs.sr, mOp2, Opd.ev, Opd.fin, at_, Sl.val, Rs.then, mLit, mVar, mB, mAnd, mOr, mNot, bAnd, bOr, bNot, mIf, bYes, mTup, mLst, evm, evo, fino, mFn, mCall, eva, sls, ioIx, putBack, Arg.opd, iSeq, iRng, fR1, fR2, sFor, tmName, tmTup, tmSeq, mApp, mExt, mPutAt, mIsi, dTy, isB, dEq, dNe, dLt, dLe, dGt, dGe, dIsN, dNotN, dAdd, dSub, dMod, dFdiv, dMul, dAt, dLen, dInt, dTuple, dList, mChain, sPar, setP, dMin2, dMax2, l1, l2, hp b' a' (by omega) (by omega)]
        · rintro _ ⟨d6, es, x, y, z, rfl, r6, h6⟩
          exact .rt (d := webD ⟨n, sortN es⟩) (ρ' := [.own d6, .fz (.int most), .fz (.int n), .fz (.int way), .own (.dict (kvsD es)), x, y, z]) (by simp [fnM, ownIx, backs, sRet, sSeq, sIf, sSet, sOwn, sDo, sNil, sAsg, Rs.sr, mOp2, Opd.ev, Opd.fin, at_, Sl.val, Rs.then, mLit, mVar, mB, mAnd, mOr, mNot, bAnd, bOr, bNot, mIf, bYes, mTup, mLst, evm, evo, fino, mFn, mCall, eva, sls, ioIx, putBack, Arg.opd, iSeq, iRng, fR1, fR2, sFor, tmName, tmTup, tmSeq, mApp, mExt, mPutAt, dPutAt, mIsi, dTy, isB, dEq, dNe, dLt, dLe, dGt, dGe, dIsN, dNotN, dAdd, dSub, dMod, dFdiv, dMul, dAt, dLen, dInt, dTuple, dList, mChain, sPar, setP, mKeys, kvsD_T, kvsD_keys, dSort_pair, webD]) ⟨[d6], rfl, ⟨n, sortN es⟩, d6, rfl, rfl, h6.ok n1 (by omega) (by omega), n2, r6⟩)
  exact ⟨w, d', by rw [← er, ← eb]; exact e, hs, hn', hr⟩

set_option autoImplicit false
theorem depthAll_le {α : Type} {f : α → D} {k : Nat} (h : ∀ x, (f x).depth ≤ k) : ∀ l : List α, PyData.depthAll (l.map f) ≤ k
  | [] => Nat.zero_le _
  | x :: l => by
    show max _ _ ≤ k
    have h1 := h x
    have h2 := depthAll_le h l
    omega
theorem canAll_map {α : Type} {f : α → D} (h : ∀ x, (f x).canLay0 = true) : ∀ l : List α, PyData.canLayAll0 (l.map f) = true
  | [] => by simp [PyData.canLayAll0]
  | x :: l => by
    simp only [List.map_cons, PyData.canLayAll0, h x, canAll_map h l, Bool.and_self]
/-- laid, no deeper than k -/
structure Shp (k : Nat) (d : D) : Prop where
  can : d.canLay0 = true
  dep : d.depth ≤ k
theorem Shp.ok {k : Nat} {d : D} (h : Shp k d) (hk : k ≤ 64 := by decide) : okD d = true := by
  unfold okD SeqAt.shaped
  rw [h.can, Bool.true_and, decide_eq_true_iff]
  exact Nat.le_trans h.dep hk
theorem Shp.int (i : Int) : Shp 0 (.int i) := ⟨by simp [PyData.canLay0], by simp [PyData.depth]⟩
theorem Shp.none : Shp 0 .none := ⟨by simp [PyData.canLay0], by simp [PyData.depth]⟩
theorem Shp.bool (b : Bool) : Shp 0 (.bool b) := ⟨by simp [PyData.canLay0], by simp [PyData.depth]⟩
theorem Shp.mono {k l : Nat} {d : D} (h : Shp k d) (hk : k ≤ l) : Shp l d := ⟨h.can, Nat.le_trans h.dep hk⟩
theorem Shp.list {α : Type} {f : α → D} {k : Nat} (h : ∀ x, Shp k (f x)) (l : List α) : Shp (k + 1) (.list (l.map f)) := ⟨by simp only [PyData.canLay0]; exact canAll_map (fun x => (h x).can) l, by
  have := depthAll_le (fun x => (h x).dep) l
  simp only [PyData.depth]; omega⟩
theorem Shp.tup {α : Type} {f : α → D} {k : Nat} (h : ∀ x, Shp k (f x)) (l : List α) : Shp (k + 1) (.tuple (l.map f)) := ⟨by simp only [PyData.canLay0]; exact canAll_map (fun x => (h x).can) l, by
  have := depthAll_le (fun x => (h x).dep) l
  simp only [PyData.depth]; omega⟩
theorem Shp.pair (p : Nat × Nat) : Shp 1 (pairN p) := Shp.tup (f := PyData.int) (k := 0) Shp.int [(p.1 : Int), (p.2 : Int)]
theorem okI (i : Int) : okD (.int i) = true := (Shp.int i).ok
theorem okB (b : Bool) : okD (.bool b) = true := (Shp.bool b).ok
theorem okPair (p : Nat × Nat) : okD (pairN p) = true := (Shp.pair p).ok
theorem okPairs (es : List (Nat × Nat)) : okD (.tuple (es.map pairN)) = true := (Shp.tup Shp.pair es).ok
theorem okInts (l : List Int) : okD (.list (l.map PyData.int)) = true := (Shp.list Shp.int l).ok
theorem okIntsT (l : List Int) : okD (.tuple (l.map PyData.int)) = true := (Shp.tup Shp.int l).ok
theorem eqv_int (i j : Int) : PyData.eqv (.int i) (.int j) = decide (i = j) := by simp only [PyData.eqv]; rfl
theorem eqvAll_map {α : Type} [DecidableEq α] {f : α → D} (h : ∀ x y, PyData.eqv (f x) (f y) = decide (x = y)) : ∀ l m : List α, PyData.eqvAll (l.map f) (m.map f) = decide (l = m)
  | [], [] => by simp [PyData.eqvAll]
  | x :: l, [] => by simp [PyData.eqvAll]
  | [], x :: l => by simp [PyData.eqvAll]
  | x :: l, y :: m => by
    simp only [List.map_cons, PyData.eqvAll, h x y, eqvAll_map h l m]
    rw [← Bool.decide_and]
    exact decide_eq_decide.mpr (by simp)
theorem eqv_intsT (l m : List Int) : PyData.eqv (.tuple (l.map PyData.int)) (.tuple (m.map PyData.int)) = decide (l = m) := by simp only [PyData.eqv]; exact eqvAll_map eqv_int l m
theorem eqv_pair (p q : Nat × Nat) : PyData.eqv (pairN p) (pairN q) = decide (p = q) := by
  have := eqv_intsT [(p.1 : Int), (p.2 : Int)] [(q.1 : Int), (q.2 : Int)]
  refine this.trans (decide_eq_decide.mpr ?_)
  obtain ⟨a, b⟩ := p
  obtain ⟨c, d⟩ := q
  simp
  omega
theorem inAny_map {α : Type} [DecidableEq α] {f : α → D} (h : ∀ x y, PyData.eqv (f x) (f y) = decide (x = y)) (l : List α) (x : α) : inAny (l.map f) (f x) = decide (x ∈ l) := by
  unfold inAny
  rw [Bool.eq_iff_iff]
  simp [h]
def natD (i : Nat) : D := .int i
theorem up_range (n : Nat) : up 0 n = (List.range n).map natD := by
  refine List.ext_getElem? fun i => ?_
  by_cases h : i < n
  · have h1 : i < (up 0 n).length := by rw [up_len]; exact h
    obtain ⟨_, h3⟩ := up_get n 0 i _ (List.getElem?_eq_getElem h1)
    rw [List.getElem?_eq_getElem h1, h3]
    simp [h, natD]
  · rw [List.getElem?_eq_none (by rw [up_len]; omega), List.getElem?_eq_none (by simp; omega)]
theorem compM_of {α : Type} {f : α → D} {i : Nat} {cd : MB} {elt : ME} {p : α → Bool} {g : α → D} {ρ : Env} (hi : ρ[i]? = some .no) : ∀ (ds : List α) (acc : List D), (∀ d ∈ ds, cd (ρ.set i (.fz (f d))) = .ok (p d) (ρ.set i (.fz (f d)))) → (∀ d ∈ ds, p d = true → elt (ρ.set i (.fz (f d))) = .ok (g d) (ρ.set i (.fz (f d)))) →
    compM (tmName i) cd elt [i] (ds.map f) acc ρ = .ok (acc ++ (ds.filter p).map g) ρ
  | [], acc, _, _ => by simp [compM]
  | d :: ds, acc, hc, he => by
    have h1 := hc d List.mem_cons_self
    have ih := fun acc' => compM_of hi ds acc' (fun x hx => hc x (List.mem_cons_of_mem _ hx)) fun x hx => he x (List.mem_cons_of_mem _ hx)
    have ew : wipeE (ρ.set i (.fz (f d))) [i] = ρ := by
      show (wipeE (ρ.set i (.fz (f d))) []).set i .no = ρ
      exact set_set hi
    have e0 : compM (tmName i) cd elt [i] ((d :: ds).map f) acc ρ = (cd (ρ.set i (.fz (f d)))).then fun b ρ2 => if b = true then (elt ρ2).then fun y ρ3 => compM (tmName i) cd elt [i] (ds.map f) (acc ++ [y]) (wipeE ρ3 [i]) else compM (tmName i) cd elt [i] (ds.map f) acc (wipeE ρ2 [i]) := rfl
    rw [e0, h1]
    cases hp : p d with
    | false =>
      show compM (tmName i) cd elt [i] (ds.map f) acc (wipeE (ρ.set i (.fz (f d))) [i]) = _
      rw [ew, ih acc, List.filter_cons_of_neg (by rw [hp]; decide)]
    | true =>
      have h2 := he d List.mem_cons_self hp
      show ((elt (ρ.set i (.fz (f d)))).then fun y ρ3 => compM (tmName i) cd elt [i] (ds.map f) (acc ++ [y]) (wipeE ρ3 [i])) = _
      rw [h2]
      show compM (tmName i) cd elt [i] (ds.map f) (acc ++ [g d]) (wipeE (ρ.set i (.fz (f d))) [i]) = _
      rw [ew, ih, List.filter_cons_of_pos hp, List.map_cons, List.append_assoc]
      rfl
theorem mComp_of {α : Type} {f : α → D} {i : Nat} {it : MI} {cd : MB} {elt : ME} (p : α → Bool) (g : α → D) {ρ ρ1 : Env} {ds : List α} (hit : it ρ = .ok (ds.map f) ρ1) (hf : Free ρ1 i) (hc : ∀ d ∈ ds, cd (ρ1.set i (.fz (f d))) = .ok (p d) (ρ1.set i (.fz (f d))))
    (he : ∀ d ∈ ds, p d = true → elt (ρ1.set i (.fz (f d))) = .ok (g d) (ρ1.set i (.fz (f d)))) (hz : ds.length ≤ 1000000 := by omega) : mComp it (tmName i) cd elt [i] ρ = .ok (.list ((ds.filter p).map g)) ρ1 := by
  obtain ⟨s, hs, hn⟩ := hf
  obtain ⟨hl, hg⟩ := List.getElem?_eq_some_iff.mp hs
  have hw : wipeE ρ1 [i] = ρ1.set i .no := rfl
  have hi : (ρ1.set i .no)[i]? = some .no := List.getElem?_set_self hl
  have z := compM_of (f := f) (cd := cd) (elt := elt) (p := p) (g := g) hi ds [] (fun d hd => by rw [List.set_set]; exact hc d hd) fun d hd hp => by rw [List.set_set]; exact he d hd hp
  unfold mComp
  rw [hit]
  show (if (ds.map f).length ≤ sizeLine then _ else _) = _
  rw [if_pos (by rw [List.length_map]; unfold sizeLine; omega), hw, z]
  show Rs.ok _ (unwipe ρ1 (ρ1.set i .no) [i]) = _
  have hu : unwipe ρ1 (ρ1.set i .no) [i] = ρ1 := by
    show (unwipe ρ1 (ρ1.set i .no) []).set i (Sl.keep ρ1[i]?) = ρ1
    show (ρ1.set i .no).set i (Sl.keep ρ1[i]?) = ρ1
    rw [List.set_set, hs]
    have hk : Sl.keep (some s) = s := by
      cases s with
      | no => rfl
      | fz d => rfl
      | own d => exact (hn d rfl).elim
    rw [hk, ← hg]
    exact List.set_getElem_self hl
  rw [hu]
  rfl

set_option autoImplicit false
def Web.adj (w : Web) (i j : Nat) : Bool := decide ((min i j, max i j) ∈ w.es)
def Web.nbr (w : Web) (i : Nat) : List Nat := (List.range w.n).filter (w.adj i)
def nearD (w : Web) : D := .list ((List.range w.n).map fun i => .list ((w.nbr i).map natD))
theorem fn_rt {len n : Nat} {ios : List Nat} {m : SM} {ss : List Sl} {d : D} {ρ : Env} {b : List D} (h : ownIx 0 ss = ios) (e : m (ss ++ List.replicate (len - n) .no) = .rt d ρ) (hb : backs ios ρ = some b) : fnM len n ios m ss = .ok d b := by
  unfold fnM
  rw [if_pos h, e]
  simp [hb]
/-- the same, by steps -/
theorem W.fn0 {len n : Nat} {m : SM} {ss : List Sl} {d : D} (h : ownIx 0 ss = []) (w : W m (ss ++ List.replicate (len - n) .no) (fun _ => d = .none) fun d' _ => d' = d) : fnM len n [] m ss = .ok d [] := by
  obtain ⟨d', b, e, rfl, rfl⟩ := W.fn (P := fun d' b => d' = d ∧ b = []) h (w.imp (fun ρ h => ⟨[], rfl, h.symm, rfl⟩) fun d ρ h => ⟨[], rfl, h, rfl⟩)
  exact e
/-- the same, with a law -/
theorem W.fnP {len n : Nat} {m : SM} {ss : List Sl} {P : D → Prop} (h : ownIx 0 ss = []) (w : W m (ss ++ List.replicate (len - n) .no) (fun _ => P .none) fun d _ => P d) : ∃ d, fnM len n [] m ss = .ok d [] ∧ P d := by
  obtain ⟨d, b, e, p, rfl⟩ := W.fn (P := fun d b => P d ∧ b = []) h (w.imp (fun ρ h => ⟨[], rfl, h, rfl⟩) fun d ρ h => ⟨[], rfl, h, rfl⟩)
  exact ⟨d, e, p⟩
theorem Free.no {ρ : Env} {i : Nat} (h : ρ[i]? = some .no) : Free ρ i := ⟨_, h, fun _ e => nomatch e⟩
theorem Free.fz {ρ : Env} {i : Nat} {d : D} (h : ρ[i]? = some (.fz d)) : Free ρ i := ⟨_, h, fun _ e => nomatch e⟩
theorem sDo_app {i : Nat} {m : ME} {ρ ρ' : Env} {d : D} {ds0 ds : List D} (h0 : ρ[i]? = some (.own (.list ds0))) (h1 : m ρ = .ok d ρ') (h2 : ρ'[i]? = some (.own (.list ds))) (hz : ds.length < sizeLine) : sDo (mApp i m) ρ = .nx (ρ'.set i (.own (.list (ds ++ [d])))) := by
  unfold sDo mApp
  rw [h0]
  simp only [h1, Rs.then]
  rw [h2]
  simp only [if_pos hz]
  rfl
theorem W.app {i : Nat} {m : ME} {ρ ρ' : Env} {d : D} {ds0 ds : List D} {N : Env → Prop} {R : D → Env → Prop} (h0 : ρ[i]? = some (.own (.list ds0))) (h1 : m ρ = .ok d ρ') (h2 : ρ'[i]? = some (.own (.list ds))) (hz : ds.length < 1000000) (h : N (ρ'.set i (.own (.list (ds ++ [d]))))) : W (sDo (mApp i m)) ρ N R :=
  .nx (sDo_app h0 h1 h2 (by unfold sizeLine; omega)) h
theorem W.own {i : Nat} {m : ME} {ρ ρ' : Env} {d : D} {N : Env → Prop} {R : D → Env → Prop} (e : m ρ = .ok d ρ') (h : N (ρ'.set i (.own d))) : W (sOwn i m) ρ N R := .nx (by unfold sOwn; rw [e]; rfl) h
theorem W.set' {i : Nat} {m : ME} {ρ ρ' : Env} {d : D} {N : Env → Prop} {R : D → Env → Prop} (e : m ρ = .ok d ρ') (h : N (ρ'.set i (.fz d))) : W (sSet i m) ρ N R := .nx (by unfold sSet; rw [e]; rfl) h
theorem W.ret {m : ME} {ρ ρ' : Env} {d : D} {N : Env → Prop} {R : D → Env → Prop} (e : m ρ = .ok d ρ') (h : R d ρ') : W (sRet m) ρ N R := .rt (by unfold sRet; rw [e]; rfl) h
theorem W.do' {m : ME} {ρ ρ' : Env} {d : D} {N : Env → Prop} {R : D → Env → Prop} (e : m ρ = .ok d ρ') (h : N ρ') : W (sDo m) ρ N R := .nx (by unfold sDo; rw [e]; rfl) h
theorem op2_ok {g : D → D → Option D} {o1 o2 : Opd} {ρ ρ1 ρ2 : Env} {x1 x2 : Option D} {d1 d2 d : D} (h1 : o1.ev ρ = .ok x1 ρ1) (h2 : o2.ev ρ1 = .ok x2 ρ2) (f1 : o1.fin x1 ρ2 = some d1) (f2 : o2.fin x2 ρ2 = some d2) (hg : g d1 d2 = some d) : mOp2 g o1 o2 ρ = .ok d ρ2 := by
  unfold mOp2
  rw [h1]
  simp only [Rs.then]
  rw [h2]
  simp only [Rs.then]
  rw [f1, f2]
  simp only [hg]
theorem mFn_ok {g : List D → Option D} {os : List Opd} {ρ ρ1 : Env} {xs : List (Option D)} {ds : List D} {d : D} (h1 : evo os ρ = .ok xs ρ1) (h2 : fino os xs ρ1 = some ds) (hg : g ds = some d) : mFn g os ρ = .ok d ρ1 := by
  unfold mFn
  rw [h1]
  simp only [Rs.then]
  rw [h2]
  simp only [hg]
theorem ev_ex {m : ME} {ρ ρ' : Env} {d : D} (e : m ρ = .ok d ρ') : (Opd.ex m).ev ρ = .ok (some d) ρ' := by
  show (m ρ).then _ = _
  rw [e]
  rfl
theorem W.ifT {t : MB} {a b : SM} {ρ ρ1 : Env} {N : Env → Prop} {R : D → Env → Prop} (e : t ρ = .ok true ρ1) (h : W a ρ1 N R) : W (sIf t a b) ρ N R := .ite e h
theorem W.ifF {t : MB} {a b : SM} {ρ ρ1 : Env} {N : Env → Prop} {R : D → Env → Prop} (e : t ρ = .ok false ρ1) (h : W b ρ1 N R) : W (sIf t a b) ρ N R := .ite e h
theorem W.nil {ρ : Env} {N : Env → Prop} {R : D → Env → Prop} (h : N ρ) : W sNil ρ N R := .nx rfl h
/-- a range of numbers, as it is evaluated -/
theorem rng_map {os : List Opd} {ρ ρ1 : Env} {xs : List (Option D)} {n : Nat} (h1 : evo os ρ = .ok xs ρ1) (h2 : fino os xs ρ1 = some [.int n]) (hb : n ≤ 1000000) : iRng fR1 os ρ = .ok ((List.range n).map natD) ρ1 := by
  rw [iRng_nat h1 h2 hb, up_range]
theorem in_es (w : Web) (a b : Int) (h : 0 ≤ a) (h2 : 0 ≤ b) : dIn (.tuple [.int a, .int b]) (.tuple (w.es.map pairN)) = some (.bool (decide ((a.toNat, b.toNat) ∈ w.es))) := by
  have e : (PyData.tuple [.int a, .int b]) = pairN (a.toNat, b.toNat) := by
    unfold pairN
    rw [show (((a.toNat, b.toNat) : Nat × Nat).1 : Int) = a by show ((a.toNat : Nat) : Int) = a; omega, show (((a.toNat, b.toNat) : Nat × Nat).2 : Int) = b by show ((b.toNat : Nat) : Int) = b; omega]
  rw [e]
  show Option.map PyData.bool (if (okD (pairN (a.toNat, b.toNat)) && okD (.tuple (w.es.map pairN))) = true then some (inAny (w.es.map pairN) (pairN (a.toNat, b.toNat))) else none) = _
  rw [okPair, okPairs, inAny_map eqv_pair]
  simp
theorem in_adj (w : Web) (i j : Nat) : dIn (.tuple [.int (if j < i then (j : Int) else i), .int (if i < j then (j : Int) else i)]) (.tuple (w.es.map pairN)) = some (.bool (w.adj i j)) := by
  rw [in_es w _ _ (by split <;> omega) (by split <;> omega)]
  unfold Web.adj
  rw [show (if j < i then (j : Int) else i).toNat = min i j by split <;> omega, show (if i < j then (j : Int) else i).toNat = max i j by split <;> omega]
theorem law_near_row {w : Web} (hw : w.Ok) {k : Nat} (hk : k < w.n) (L : D) : mComp (iRng fR1 [.ex (mOp2 dAt (.sl 0) (.ex (mLit (.int 0))))]) (tmName 3) (mB (mOp2 dIn (.ex (mTup [mFn dMin2 [.sl 2, .sl 3], mFn dMax2 [.sl 2, .sl 3]])) (.ex (mOp2 dAt (.sl 0) (.ex (mLit (.int 1))))))) (mVar 3) [3] [.fz (webD w), .own L, .fz (.int k), .no] = .ok (.list ((w.nbr k).map natD)) [.fz (webD w), .own L, .fz (.int k), .no] := by
  have hm := hw.most
  have hc := mComp_of (f := natD) (i := 3) (it := iRng fR1 [.ex (mOp2 dAt (.sl 0) (.ex (mLit (.int 0))))]) (cd := mB (mOp2 dIn (.ex (mTup [mFn dMin2 [.sl 2, .sl 3], mFn dMax2 [.sl 2, .sl 3]])) (.ex (mOp2 dAt (.sl 0) (.ex (mLit (.int 1)))))))
      (elt := mVar 3) (w.adj k) natD (ρ := [.fz (webD w), .own L, .fz (.int k), .no]) (ρ1 := [.fz (webD w), .own L, .fz (.int k), .no]) (ds := List.range w.n)
      (rng_map (xs := [some (.int w.n)]) (by simp [fnM, ownIx, backs, sRet, sSeq, sIf, sSet, sOwn, sDo, sNil, sAsg, Rs.sr, mOp2, Opd.ev, Opd.fin, at_, Sl.val, Rs.then, mLit, mVar, mB, mAnd, mOr, mNot, bAnd, bOr, bNot, mIf, bYes, mTup, mLst, evm, evo, fino, mFn, mCall, eva, sls, ioIx, putBack, Arg.opd, iSeq, iRng, fR1, fR2, sFor, tmName, tmTup, tmSeq, mApp, mExt, mPutAt, dPutAt, mIsi, dTy, isB, dEq, dNe, dLt, dLe, dGt, dGe, dIsN, dNotN, dAdd, dSub, dMod, dFdiv, dMul, dAt, dLen, dInt, dTuple, dList, mChain, sPar, setP, webD, atI_0]) (by simp [fnM, ownIx, backs, sRet, sSeq, sIf, sSet, sOwn, sDo, sNil, sAsg, Rs.sr, mOp2, Opd.ev, Opd.fin, at_, Sl.val, Rs.then, mLit, mVar, mB, mAnd, mOr, mNot, bAnd, bOr, bNot, mIf, bYes, mTup, mLst, evm, evo, fino, mFn, mCall, eva, sls, ioIx, putBack, Arg.opd, iSeq, iRng, fR1, fR2, sFor, tmName, tmTup, tmSeq, mApp, mExt, mPutAt, dPutAt, mIsi, dTy, isB, dEq, dNe, dLt, dLe, dGt, dGe, dIsN, dNotN, dAdd, dSub, dMod, dFdiv, dMul, dAt, dLen, dInt, dTuple, dList, mChain, sPar, setP]) (by omega)) (.no rfl) (fun j hj => by simp [fnM, ownIx, backs, sRet, sSeq, sIf, sSet, sOwn, sDo, sNil, sAsg, Rs.sr, mOp2, Opd.ev, Opd.fin, at_, Sl.val, Rs.then, mLit, mVar, mB, mAnd, mOr, mNot, bAnd, bOr, bNot, mIf, bYes, mTup, mLst, evm, evo, fino, mFn, mCall, eva, sls, ioIx, putBack, Arg.opd, iSeq, iRng, fR1, fR2, sFor, tmName, tmTup, tmSeq, mApp, mExt, mPutAt, dPutAt, mIsi, dTy, isB, dEq, dNe, dLt, dLe, dGt, dGe, dIsN, dNotN, dAdd, dSub, dMod, dFdiv, dMul, dAt, dLen, dInt, dTuple, dList, mChain, sPar, setP, webD, natD, atI_1, dMin2, dMax2, in_adj]) (fun j hj _ => by simp [fnM, ownIx, backs, sRet, sSeq, sIf, sSet, sOwn, sDo, sNil, sAsg, Rs.sr, mOp2, Opd.ev, Opd.fin, at_, Sl.val, Rs.then, mLit, mVar, mB, mAnd, mOr, mNot, bAnd, bOr, bNot, mIf, bYes, mTup, mLst, evm, evo, fino, mFn, mCall, eva, sls, ioIx, putBack, Arg.opd, iSeq, iRng, fR1, fR2, sFor, tmName, tmTup, tmSeq, mApp, mExt, mPutAt, dPutAt, mIsi, dTy, isB, dEq, dNe, dLt, dLe, dGt, dGe, dIsN, dNotN, dAdd, dSub, dMod, dFdiv, dMul, dAt, dLen, dInt, dTuple, dList, mChain, sPar, setP, natD]) (by simp; omega)
  exact hc
theorem law_near_eq {w : Web} (hw : w.Ok) : f__law_near [.fz (webD w)] = .ok (nearD w) [] := by
  have hm := hw.most
  refine W.fn0 rfl ?_
  unfold m__law_near
  refine .seq (.nx (ρ' := [.fz (webD w), .own (.list []), .no, .no]) (by simp [fnM, ownIx, backs, sRet, sSeq, sIf, sSet, sOwn, sDo, sNil, sAsg, Rs.sr, mOp2, Opd.ev, Opd.fin, at_, Sl.val, Rs.then, mLit, mVar, mB, mAnd, mOr, mNot, bAnd, bOr, bNot, mIf, bYes, mTup, mLst, evm, evo, fino, mFn, mCall, eva, sls, ioIx, putBack, Arg.opd, iSeq, iRng, fR1, fR2, sFor, tmName, tmTup, tmSeq, mApp, mExt, mPutAt, dPutAt, mIsi, dTy, isB, dEq, dNe, dLt, dLe, dGt, dGe, dIsN, dNotN, dAdd, dSub, dMod, dFdiv, dMul, dAt, dLen, dInt, dTuple, dList, mChain, sPar, setP]) ?_)
  refine .seq (.rng (n := w.n) (ρ0 := [.fz (webD w), .own (.list []), .no, .no]) (fun k ρ => ∃ (x : Sl), ρ = [.fz (webD w), .own (.list ((List.range k).map fun i => .list ((w.nbr i).map natD))), x, .no]) ?_ ⟨_, rfl⟩ ?_ ?_)
  · exact iRng_nat (xs := [some (.int w.n)]) (by simp [fnM, ownIx, backs, sRet, sSeq, sIf, sSet, sOwn, sDo, sNil, sAsg, Rs.sr, mOp2, Opd.ev, Opd.fin, at_, Sl.val, Rs.then, mLit, mVar, mB, mAnd, mOr, mNot, bAnd, bOr, bNot, mIf, bYes, mTup, mLst, evm, evo, fino, mFn, mCall, eva, sls, ioIx, putBack, Arg.opd, iSeq, iRng, fR1, fR2, sFor, tmName, tmTup, tmSeq, mApp, mExt, mPutAt, dPutAt, mIsi, dTy, isB, dEq, dNe, dLt, dLe, dGt, dGe, dIsN, dNotN, dAdd, dSub, dMod, dFdiv, dMul, dAt, dLen, dInt, dTuple, dList, mChain, sPar, setP, webD, atI_0]) (by simp [fnM, ownIx, backs, sRet, sSeq, sIf, sSet, sOwn, sDo, sNil, sAsg, Rs.sr, mOp2, Opd.ev, Opd.fin, at_, Sl.val, Rs.then, mLit, mVar, mB, mAnd, mOr, mNot, bAnd, bOr, bNot, mIf, bYes, mTup, mLst, evm, evo, fino, mFn, mCall, eva, sls, ioIx, putBack, Arg.opd, iSeq, iRng, fR1, fR2, sFor, tmName, tmTup, tmSeq, mApp, mExt, mPutAt, dPutAt, mIsi, dTy, isB, dEq, dNe, dLt, dLe, dGt, dGe, dIsN, dNotN, dAdd, dSub, dMod, dFdiv, dMul, dAt, dLen, dInt, dTuple, dList, mChain, sPar, setP]) (by omega)
  · rintro k _ hk ⟨x, rfl⟩
    have hc := law_near_row hw hk (.list ((List.range k).map fun i => .list ((w.nbr i).map natD)))
    refine .app rfl hc rfl (by simp; omega) ⟨.fz (.int k), ?_⟩
    simp [List.range_succ]
  · rintro _ ⟨x, rfl⟩
    exact .rt (ρ' := [.fz (webD w), .fz (nearD w), x, .no]) (by simp [fnM, ownIx, backs, sRet, sSeq, sIf, sSet, sOwn, sDo, sNil, sAsg, Rs.sr, mOp2, Opd.ev, Opd.fin, at_, Sl.val, Rs.then, mLit, mVar, mB, mAnd, mOr, mNot, bAnd, bOr, bNot, mIf, bYes, mTup, mLst, evm, evo, fino, mFn, mCall, eva, sls, ioIx, putBack, Arg.opd, iSeq, iRng, fR1, fR2, sFor, tmName, tmTup, tmSeq, mApp, mExt, mPutAt, dPutAt, mIsi, dTy, isB, dEq, dNe, dLt, dLe, dGt, dGe, dIsN, dNotN, dAdd, dSub, dMod, dFdiv, dMul, dAt, dLen, dInt, dTuple, dList, mChain, sPar, setP, nearD]) rfl

set_option autoImplicit false
theorem Web.adj_lt {w : Web} (hw : w.Ok) {i j : Nat} (h : w.adj i j = true) : i < w.n ∧ j < w.n ∧ i ≠ j := by
  unfold Web.adj at h
  have h1 := hw.inn _ (of_decide_eq_true h)
  simp only at h1
  omega
theorem Web.adj_comm (w : Web) (i j : Nat) : w.adj i j = w.adj j i := by
  unfold Web.adj
  rw [Nat.min_comm, Nat.max_comm]
theorem Web.mem_nbr {w : Web} (hw : w.Ok) {i j : Nat} : j ∈ w.nbr i ↔ w.adj i j = true := by
  unfold Web.nbr
  rw [List.mem_filter, List.mem_range]
  exact ⟨fun h => h.2, fun h => ⟨(Web.adj_lt hw h).2.1, h⟩⟩
def mood (s : List Int) (i : Nat) : Int := s.getD i 0
def stp (s : List Int) (a b : Nat) : Int := (mood s b - mood s a + 1) % 3 - 1
def hot (w : Web) (s : List Int) (i : Nat) : Bool := (w.nbr i).any fun j => decide (stp s i j = 1)
def nxt (w : Web) (s : List Int) : List Int := (List.range w.n).map fun i => if hot w s i = true then (mood s i + 1) % 3 else mood s i
def runL (w : Web) (s : List Int) : Nat → List Int
  | 0 => s
  | k + 1 => nxt w (runL w s k)
def cnt (w : Web) (s : List Int) : Nat → Nat → Int
  | 0, _ => 0
  | k + 1, i => cnt w s k i + if hot w (runL w s k) i = true then 1 else 0
theorem mood_three {n : Nat} {s : List Int} (h : StOk n s) (i : Nat) : 0 ≤ mood s i ∧ mood s i < 3 := by
  unfold mood
  rw [List.getD_eq_getElem?_getD]
  cases e : s[i]? with
  | none => simp
  | some x => exact h.three x (List.mem_of_getElem? e)
theorem nxt_ok {w : Web} {s : List Int} (h : StOk w.n s) : StOk w.n (nxt w s) := by
  refine ⟨by unfold nxt; simp, fun x hx => ?_⟩
  unfold nxt at hx
  obtain ⟨i, _, rfl⟩ := List.mem_map.mp hx
  have := mood_three h i
  split <;> omega
theorem run_ok {w : Web} {s : List Int} (h : StOk w.n s) : ∀ k, StOk w.n (runL w s k)
  | 0 => h
  | k + 1 => nxt_ok (run_ok h k)
def Ht (w : Web) (s : List Int) (h : Nat → Int) : Prop := ∀ a b, w.adj a b = true → h b - h a = stp s a b
section
variable {w : Web} {s : List Int} {h : Nat → Int}
theorem filter_lt {α : Type} {p q : α → Bool} {l : List α} (h : ∀ x ∈ l, q x = true → p x = true) {x : α} (hx : x ∈ l) (h1 : p x = true) (h2 : q x = false) : (l.filter q).length < (l.filter p).length := by
  induction l with
  | nil => cases hx
  | cons y l ih =>
    have hl : (l.filter q).length ≤ (l.filter p).length := by
      clear ih
      have h' : ∀ x ∈ l, q x = true → p x = true := fun x hx => h x (List.mem_cons_of_mem _ hx)
      clear hx h
      induction l with
      | nil => exact Nat.le_refl _
      | cons z l ih =>
        have := ih fun x hx => h' x (List.mem_cons_of_mem _ hx)
        have hz := h' z List.mem_cons_self
        rw [List.filter_cons, List.filter_cons]
        cases a : q z <;> cases b : p z <;> simp_all <;> omega
    have hy := h y List.mem_cons_self
    rw [List.filter_cons, List.filter_cons]
    rcases List.mem_cons.mp hx with rfl | hx'
    · simp [h1, h2]; omega
    · have := ih (fun x hx => h x (List.mem_cons_of_mem _ hx)) hx'
      cases a : q y <;> cases b : p y <;> simp_all <;> omega
end
/-- a way from one to another -/
inductive Reach (w : Web) : Nat → Nat → Prop where
  | here (i : Nat) : Reach w i i
  | on {i j k : Nat} (h : Reach w i j) (e : w.adj j k = true) : Reach w i k
/-- heights with their greatest ones at 0 -/
structure Tops (w : Web) (s : List Int) (g : Nat → Int) : Prop where
  ht : Ht w s g
  le : ∀ i, i < w.n → g i ≤ 0
  top : ∀ i, i < w.n → ∃ j, j < w.n ∧ Reach w i j ∧ g j = 0

set_option autoImplicit false
theorem W.whileM {t : MB} {b : SM} {N : Env → Prop} {R : D → Env → Prop} (I : Nat → Env → Prop)
    (hs : ∀ m ρ, I m ρ → ∃ x ρ1, t ρ = .ok x ρ1 ∧ (x = true → W b ρ1 (fun ρ' => ∃ m', m' < m ∧ I m' ρ') R) ∧ (x = false → N ρ1)) : ∀ (fuel m : Nat) (ρ : Env), m < fuel → I m ρ → W (whileM t b fuel) ρ N R
  | 0, m, ρ, h, _ => by omega
  | fuel + 1, m, ρ, h, hI => by
    obtain ⟨x, ρ1, e, h1, h2⟩ := hs m ρ hI
    refine ⟨?_⟩
    unfold MP.whileM
    rw [e]
    cases x with
    | false => exact h2 rfl
    | true =>
      obtain ⟨w⟩ := h1 rfl
      show WR (match b ρ1 with
        | .nx ρ2 => MP.whileM t b fuel ρ2
        | r => r) _ _
      cases eb : b ρ1 with
      | nx ρ2 =>
        rw [eb] at w
        obtain ⟨m', hm, hI'⟩ := w
        exact (W.whileM I hs fuel m' ρ2 (by omega) hI').run
      | rt d ρ' => rw [eb] at w; exact w
      | ex x ρ' => rw [eb] at w; exact w.elim
      | stuck => rw [eb] at w; exact w.elim
theorem W.forA {α : Type} {f : α → D} {l : List α} {it : MI} {v : Nat} {b : SM} {ρ ρ0 : Env} {N : Env → Prop} {R : D → Env → Prop} (I : Nat → Env → Prop) (hit : it ρ = .ok (l.map f) ρ0) (h0 : I 0 ρ0)
    (hs : ∀ i a ρ, l[i]? = some a → I i ρ → W b (ρ.set v (.fz (f a))) (I (i + 1)) R) (hk : ∀ ρ, I l.length ρ → N ρ) : W (sFor it (tmName v) b) ρ N R := by
  refine W.for' I hit h0 (fun i d ρ h1 h2 => ?_) fun ρ h => hk ρ (by rw [List.length_map] at h; exact h)
  rw [List.getElem?_map] at h1
  cases e : l[i]? with
  | none => rw [e] at h1; cases h1
  | some a =>
    rw [e] at h1
    cases h1
    exact ⟨_, rfl, hs i a ρ e h2⟩
def optD : Option Int → D
  | none => .none
  | some i => .int i
def fD (f : List (Option Int)) : D := .list (f.map optD)
def nc (f : List (Option Int)) : Nat := (f.filter (·.isNone)).length
theorem nc_set : ∀ {f : List (Option Int)} {i : Nat} (x : Int), f[i]? = some none → nc (f.set i (some x)) + 1 = nc f
  | [], i, x, h => by cases i <;> cases h
  | y :: f, 0, x, h => by
    cases h
    rfl
  | y :: f, i + 1, x, h => by
    have := nc_set (f := f) (i := i) x h
    unfold nc at *
    show ((y :: f.set i (some x)).filter _).length + 1 = _
    rw [List.filter_cons, List.filter_cons]
    split <;> (try simp only [List.length_cons]) <;> omega
theorem nc_le (f : List (Option Int)) : nc f ≤ f.length := List.length_filter_le _ _
theorem near_at {w : Web} {i : Nat} (h : i < w.n) : dAt (nearD w) (.int i) = some (.list ((w.nbr i).map natD)) := by
  unfold nearD
  show atI _ (i : Int) = _
  rw [atI_nat, List.getElem?_map, List.getElem?_range h]
  rfl
theorem near_at' {w : Web} {i : Nat} (h : i < w.n) : dAt (nearD w) (natD i) = some (.list ((w.nbr i).map natD)) := near_at h
theorem okNats (l : List Nat) : okD (.list (l.map natD)) = true := (Shp.list (f := natD) (k := 0) (fun x => Shp.int x) l).ok
theorem okNatsT (l : List Nat) : okD (.tuple (l.map natD)) = true := (Shp.tup (f := natD) (k := 0) (fun x => Shp.int x) l).ok
theorem eqv_nat (i j : Nat) : PyData.eqv (natD i) (natD j) = decide (i = j) := by
  unfold natD
  rw [eqv_int]
  exact decide_eq_decide.mpr (by omega)
theorem eqv_nats (l m : List Nat) : PyData.eqv (.list (l.map natD)) (.list (m.map natD)) = decide (l = m) := by simp only [PyData.eqv]; exact eqvAll_map eqv_nat l m
theorem ne_nil (l : List Nat) : dNe (.list (l.map natD)) (.list []) = some (.bool (!l.isEmpty)) := by
  have h := eqv_nats l []
  have h2 := okNats []
  unfold dNe
  simp only [List.map_nil] at h h2
  rw [okNats, h2, h]
  cases l <;> rfl
theorem look_lt {α : Type} {f : List α} {i : Nat} {x : α} (h : f[i]? = some x) : i < f.length := by
  obtain ⟨h, _⟩ := List.getElem?_eq_some_iff.mp h
  exact h
theorem Web.nbr_len (w : Web) (i : Nat) : (w.nbr i).length ≤ w.n := by
  have := List.length_filter_le (w.adj i) (List.range w.n)
  rw [List.length_range] at this
  exact this
theorem Reach.lt {w : Web} (hw : w.Ok) {i j : Nat} (hi : i < w.n) (h : Reach w i j) : j < w.n := by
  induction h with
  | here => exact hi
  | on r e ih => exact (Web.adj_lt hw e).2.1
def Has (f : List (Option Int)) (v : Nat) : Prop := ∃ x, f[v]? = some (some x)
theorem Has.set {f : List (Option Int)} {v i : Nat} {x : Int} (h : Has f v) : Has (f.set i (some x)) v := by
  obtain ⟨y, hy⟩ := h
  by_cases e : i = v
  · subst e
    exact ⟨x, by rw [List.getElem?_set_self (look_lt hy)]⟩
  · exact ⟨y, by rw [List.getElem?_set_ne e]; exact hy⟩
theorem Has.here {f : List (Option Int)} {i : Nat} {x : Int} (h : i < f.length) : Has (f.set i (some x)) i := ⟨x, by rw [List.getElem?_set_self h]⟩
theorem Has.of_set {f : List (Option Int)} {v i : Nat} {x : Int} (h : Has (f.set i (some x)) v) : v = i ∨ Has f v := by
  by_cases e : i = v
  · exact .inl e.symm
  · obtain ⟨y, hy⟩ := h
    rw [List.getElem?_set_ne e] at hy
    exact .inr ⟨y, hy⟩
structure Bfs (w : Web) (r : Nat) (f : List (Option Int)) (q : List Nat) : Prop where
  len : f.length = w.n
  rt : Has f r
  snd : ∀ v, Has f v → Reach w r v
  cls : ∀ v, Has f v → v ∈ q ∨ ∀ u, w.adj v u = true → Has f u
  inq : ∀ v ∈ q, Has f v
theorem Bfs.add {w : Web} {r : Nat} {f : List (Option Int)} {q : List Nat} {h u : Nat} {x : Int} (b : Bfs w r f q) (hq : h ∈ q) (a : w.adj h u = true) (hu : u < w.n) : Bfs w r (f.set u (some x)) (q ++ [u]) := by
  refine ⟨by rw [List.length_set]; exact b.len, b.rt.set, fun v hv => ?_, fun v hv => ?_, fun v hv => ?_⟩
  · rcases hv.of_set with rfl | hv
    · exact .on (b.snd h (b.inq h hq)) a
    · exact b.snd v hv
  · rcases hv.of_set with rfl | hv
    · exact .inl (by simp)
    · rcases b.cls v hv with m | m
      · exact .inl (List.mem_append_left _ m)
      · exact .inr fun u hu => (m u hu).set
  · rcases List.mem_append.mp hv with m | m
    · exact (b.inq v m).set
    · cases List.mem_singleton.mp m
      exact .here (by rw [b.len]; exact hu)
theorem Bfs.sub {w : Web} {r : Nat} {f : List (Option Int)} {q q' : List Nat} (b : Bfs w r f q) (hs : ∀ v, v ∈ q' → v ∈ q) (hd : ∀ v, v ∈ q → v ∈ q' ∨ ∀ u, w.adj v u = true → Has f u) : Bfs w r f q' :=
  ⟨b.len, b.rt, b.snd, fun v hv => (b.cls v hv).elim (hd v) .inr, fun v hv => b.inq v (hs v hv)⟩
theorem Bfs.done {w : Web} {r : Nat} {f : List (Option Int)} (b : Bfs w r f []) (v : Nat) : Has f v ↔ Reach w r v := by
  refine ⟨b.snd v, fun h => ?_⟩
  induction h with
  | here => exact b.rt
  | on _ e ih => rcases b.cls _ ih with m | m
                 · cases m
                 · exact m _ e
theorem dRep_list (a : List D) (k : Int) : dRep (.list a) (.int k) = if repFits a.length k = true then some (.list (reps a k)) else none := rfl
theorem rep_none {n : Nat} (h : n ≤ 10) : dRep (.list [.none]) (.int n) = some (.list ((List.replicate n (none : Option Int)).map optD)) := by
  have h1 : reps [PyData.none] (n : Int) = (List.replicate n (none : Option Int)).map optD := by
    unfold reps
    rw [Int.toNat_natCast, List.map_replicate]
    clear h
    induction n with
    | zero => rfl
    | succ n ih => rw [List.replicate_succ, List.flatten_cons, ih, List.replicate_succ]; rfl
  have h2 : repFits 1 (n : Int) = true := by
    unfold repFits sizeLine
    simp
    omega
  rw [dRep_list, if_pos (show repFits [PyData.none].length n = true from h2), h1]
theorem ways_eq {w : Web} (hw : w.Ok) {r : Nat} (hr : r < w.n) : ∃ d, f_ways_from [.fz (nearD w), .fz (natD r)] = .ok d [] ∧ ∃ f, d = fD f ∧ f.length = w.n ∧ ∀ v, Has f v ↔ Reach w r v := by
  have hm := hw.most
  refine W.fnP (P := fun d => ∃ f, d = fD f ∧ f.length = w.n ∧ ∀ v, Has f v ↔ Reach w r v) rfl ?_
  unfold m_ways_from
  have hn : dLen [nearD w] = some (.int w.n) := by
    unfold nearD dLen
    simp
  refine .seq (.own (op2_ok (x1 := some (.list [.none])) (x2 := some (.int w.n)) (ρ1 := [.fz (nearD w), .fz (natD r), .no, .no, .no, .no, .no]) (ρ2 := [.fz (nearD w), .fz (natD r), .no, .no, .no, .no, .no]) (by simp [fnM, ownIx, backs, sRet, sSeq, sIf, sSet, sOwn, sDo, sNil, sAsg, Rs.sr, mOp2, Opd.ev, Opd.fin, at_, Sl.val, Rs.then, mLit, mVar, mB, mAnd, mOr, mNot, bAnd, bOr, bNot, mIf, bYes, mTup, mLst, evm, evo, fino, mFn, mCall, eva, sls, ioIx, putBack, Arg.opd, iSeq, iRng, fR1, fR2, sFor, tmName, tmTup, tmSeq, mApp, mExt, mPutAt, dPutAt, mIsi, dTy, isB, dEq, dNe, dLt, dLe, dGt, dGe, dIsN, dNotN, dAdd, dSub, dMod, dFdiv, dMul, dAt, dLen, dInt, dTuple, dList, mChain, sPar, setP]) (by simp [fnM, ownIx, backs, sRet, sSeq, sIf, sSet, sOwn, sDo, sNil, sAsg, Rs.sr, mOp2, Opd.ev, Opd.fin, at_, Sl.val, Rs.then, mLit, mVar, mB, mAnd, mOr, mNot, bAnd, bOr, bNot, mIf, bYes, mTup, mLst, evm, evo, fino, mFn, mCall, eva, sls, ioIx, putBack, Arg.opd, iSeq, iRng, fR1, fR2, sFor, tmName, tmTup, tmSeq, mApp, mExt, mPutAt, dPutAt, mIsi, dTy, isB, dEq, dNe, dLt, dLe, dGt, dGe, dIsN, dNotN, dAdd, dSub, dMod, dFdiv, dMul, dAt, dInt, dTuple, dList, mChain, sPar, setP, hn]) rfl rfl (rep_none hm)) ?_)
  show W _ [.fz (nearD w), .fz (natD r), .own (fD (List.replicate w.n none)), .no, .no, .no, .no] _ _
  have hf : Bfs w r ((List.replicate w.n none).set r (some 0)) [r] := by
    have hl : ((List.replicate w.n (none : Option Int)).set r (some 0)).length = w.n := by simp
    have hv : ∀ v, Has ((List.replicate w.n (none : Option Int)).set r (some 0)) v → v = r := fun v h => by
      rcases h.of_set with e | ⟨x, h⟩
      · exact e
      · rw [List.getElem?_replicate] at h
        split at h <;> cases h
    exact ⟨hl, .here (by simp; exact hr), fun v h => by rw [hv v h]; exact .here r, fun v h => .inl (by rw [hv v h]; simp), fun v h => by cases List.mem_singleton.mp h; exact .here (by simp; exact hr)⟩
  refine .seq (.nx (ρ' := [.fz (nearD w), .fz (natD r), .own (fD ((List.replicate w.n none).set r (some 0))), .fz (.list ([r].map natD)), .no, .no, .no]) (by simp [fnM, ownIx, backs, sRet, sSeq, sIf, sSet, sOwn, sDo, sNil, sAsg, Rs.sr, mOp2, Opd.ev, Opd.fin, at_, Sl.val, Rs.then, mLit, mVar, mB, mAnd, mOr, mNot, bAnd, bOr, bNot, mIf, bYes, mTup, mLst, evm, evo, fino, mFn, mCall, eva, sls, ioIx, putBack, Arg.opd, iSeq, iRng, fR1, fR2, sFor, tmName, tmTup, tmSeq, mApp, mExt, mPutAt, dPutAt, mIsi, dTy, isB, dEq, dNe, dLt, dLe, dGt, dGe, dIsN, dNotN, dAdd, dSub, dMod, dFdiv, dMul, dAt, dLen, dInt, dTuple, dList, mChain, sPar, setP, sParT, asgP, asg1, fD, natD, ixN_nat, hr, optD, List.map_set]) ?_)
  refine .seq (.whileM (fun m ρ => ∃ (f : List (Option Int)) (row : List Nat) (x y z : Sl), ρ = [.fz (nearD w), .fz (natD r), .own (fD f), .fz (.list (row.map natD)), x, y, z] ∧ Bfs w r f row ∧ m = nc f + min 1 row.length ∧ row.length ≤ w.n ∧ ∀ d, x ≠ .own d) ?_ _ (nc ((List.replicate w.n none).set r (some 0)) + 1) _ ?_ ⟨_, [r], _, _, _, rfl, hf, rfl, by simp; omega, by simp⟩)
  · rintro m _ ⟨f, row, x, y, z, rfl, bf, rfl, hl, hx⟩
    refine ⟨!row.isEmpty, [.fz (nearD w), .fz (natD r), .own (fD f), .fz (.list (row.map natD)), x, y, z], ?_, fun hne => ?_, fun he => ?_⟩
    · simp [fnM, ownIx, backs, sRet, sSeq, sIf, sSet, sOwn, sDo, sNil, sAsg, Rs.sr, mOp2, Opd.ev, Opd.fin, at_, Sl.val, Rs.then, mLit, mVar, mB, mAnd, mOr, mNot, bAnd, bOr, bNot, mIf, bYes, mTup, mLst, evm, evo, fino, mFn, mCall, eva, sls, ioIx, putBack, Arg.opd, iSeq, iRng, fR1, fR2, sFor, tmName, tmTup, tmSeq, mApp, mExt, mPutAt, dPutAt, mIsi, dTy, isB, dEq, dLt, dLe, dGt, dGe, dIsN, dNotN, dAdd, dSub, dMod, dFdiv, dMul, dAt, dLen, dInt, dTuple, dList, mChain, sPar, setP, ne_nil]
    · refine .seq (.nx (ρ' := [.fz (nearD w), .fz (natD r), .own (fD f), .fz (.list (row.map natD)), .own (.list (([] : List Nat).map natD)), y, z]) (by simp [fnM, ownIx, backs, sRet, sSeq, sIf, sSet, sOwn, sDo, sNil, sAsg, Rs.sr, mOp2, Opd.ev, Opd.fin, at_, Sl.val, Rs.then, mLit, mVar, mB, mAnd, mOr, mNot, bAnd, bOr, bNot, mIf, bYes, mTup, mLst, evm, evo, fino, mFn, mCall, eva, sls, ioIx, putBack, Arg.opd, iSeq, iRng, fR1, fR2, sFor, tmName, tmTup, tmSeq, mApp, mExt, mPutAt, dPutAt, mIsi, dTy, isB, dEq, dNe, dLt, dLe, dGt, dGe, dIsN, dNotN, dAdd, dSub, dMod, dFdiv, dMul, dAt, dLen, dInt, dTuple, dList, mChain, sPar, setP]) ?_)
      refine .seq (.forA (f := natD) (l := row) (ρ0 := [.fz (nearD w), .fz (natD r), .own (fD f), .fz (.list (row.map natD)), .own (.list (([] : List Nat).map natD)), y, z]) (fun k ρ => ∃ (f' : List (Option Int)) (later : List Nat) (y z : Sl), ρ = [.fz (nearD w), .fz (natD r), .own (fD f'), .fz (.list (row.map natD)), .own (.list (later.map natD)), y, z] ∧ Bfs w r f' (row.drop k ++ later) ∧ nc f' + min 1 later.length ≤ nc f ∧ later.length + nc f' ≤ w.n) (by simp [fnM, ownIx, backs, sRet, sSeq, sIf, sSet, sOwn, sDo, sNil, sAsg, Rs.sr, mOp2, Opd.ev, Opd.fin, at_, Sl.val, Rs.then, mLit, mVar, mB, mAnd, mOr, mNot, bAnd, bOr, bNot, mIf, bYes, mTup, mLst, evm, evo, fino, mFn, mCall, eva, sls, ioIx, putBack, Arg.opd, iSeq, iRng, fR1, fR2, sFor, tmName, tmTup, tmSeq, mApp, mExt, mPutAt, dPutAt, mIsi, dTy, isB, dEq, dNe, dLt, dLe, dGt, dGe, dIsN, dNotN, dAdd, dSub, dMod, dFdiv, dMul, dAt, dLen, dInt, dTuple, dList, mChain, sPar, setP]) ⟨f, [], y, z, rfl, by simpa using bf, by simp, by have := nc_le f; have := bf.len; simp; omega⟩ ?_ ?_)
      · rintro k h _ ek ⟨f1, later1, y, z, rfl, b1, c1, l1⟩
        have hk := look_lt ek
        have hin : h ∈ row.drop k := by rw [List.drop_eq_getElem_cons hk]; rw [List.getElem?_eq_getElem hk] at ek; cases ek; exact List.mem_cons_self
        have hh : h < w.n := by
          obtain ⟨x, hx⟩ := b1.inq h (List.mem_append_left _ hin)
          have := look_lt hx
          rw [b1.len] at this
          exact this
        refine .forA (f := natD) (l := w.nbr h) (ρ0 := [.fz (nearD w), .fz (natD r), .own (fD f1), .fz (.list (row.map natD)), .own (.list (later1.map natD)), .fz (natD h), z]) (fun j ρ => ∃ (f' : List (Option Int)) (later : List Nat) (z : Sl), ρ = [.fz (nearD w), .fz (natD r), .own (fD f'), .fz (.list (row.map natD)), .own (.list (later.map natD)), .fz (natD h), z] ∧ Bfs w r f' (row.drop k ++ later) ∧ nc f' + min 1 later.length ≤ nc f ∧ later.length + nc f' ≤ w.n ∧ ∀ u ∈ (w.nbr h).take j, Has f' u) ?_ ⟨f1, later1, z, rfl, b1, c1, l1, by simp⟩ ?_ ?_
        · have := near_at' hh
          simp [fnM, ownIx, backs, sRet, sSeq, sIf, sSet, sOwn, sDo, sNil, sAsg, Rs.sr, mOp2, Opd.ev, Opd.fin, at_, Sl.val, Rs.then, mLit, mVar, mB, mAnd, mOr, mNot, bAnd, bOr, bNot, mIf, bYes, mTup, mLst, evm, evo, fino, mFn, mCall, eva, sls, ioIx, putBack, Arg.opd, iSeq, iRng, fR1, fR2, sFor, tmName, tmTup, tmSeq, mApp, mExt, mPutAt, dPutAt, mIsi, dTy, isB, dEq, dNe, dLt, dLe, dGt, dGe, dIsN, dNotN, dAdd, dSub, dMod, dFdiv, dMul, dLen, dInt, dTuple, dList, mChain, sPar, setP, this]
        · rintro j u _ ej ⟨f2, later2, z, rfl, b2, c2, l2, t2⟩
          have ha : w.adj h u = true := (Web.mem_nbr hw).mp (List.mem_of_getElem? ej)
          have hu : u < w.n := (Web.adj_lt hw ha).2.1
          obtain ⟨x, hx⟩ := b2.inq h (List.mem_append_left _ hin)
          have hul : u < f2.length := by rw [b2.len]; exact hu
          have htake : (w.nbr h).take (j + 1) = (w.nbr h).take j ++ [u] := by rw [List.take_add_one, ej]; rfl
          cases eu : f2[u]? with
          | none => rw [List.getElem?_eq_getElem hul] at eu; cases eu
          | some o =>
            cases o with
            | none =>
              have hn := nc_set (x + 1) eu
              refine .ifT (ρ1 := [.fz (nearD w), .fz (natD r), .own (fD f2), .fz (.list (row.map natD)), .own (.list (later2.map natD)), .fz (natD h), .fz (natD u)]) (by simp [fnM, ownIx, backs, sRet, sSeq, sIf, sSet, sOwn, sDo, sNil, sAsg, Rs.sr, mOp2, Opd.ev, Opd.fin, at_, Sl.val, Rs.then, mLit, mVar, mB, mAnd, mOr, mNot, bAnd, bOr, bNot, mIf, bYes, mTup, mLst, evm, evo, fino, mFn, mCall, eva, sls, ioIx, putBack, Arg.opd, iSeq, iRng, fR1, fR2, sFor, tmName, tmTup, tmSeq, mApp, mExt, mPutAt, dPutAt, mIsi, dTy, isB, dEq, dNe, dLt, dLe, dGt, dGe, dIsN, dNotN, dAdd, dSub, dMod, dFdiv, dMul, dAt, dLen, dInt, dTuple, dList, mChain, sPar, setP, natD, fD, atI_nat, eu, optD]) (.seq (.nx (ρ' := [.fz (nearD w), .fz (natD r), .own (fD (f2.set u (some (x + 1)))), .fz (.list (row.map natD)), .own (.list (later2.map natD)), .fz (natD h), .fz (natD u)]) (by simp [fnM, ownIx, backs, sRet, sSeq, sIf, sSet, sOwn, sDo, sNil, sAsg, Rs.sr, mOp2, Opd.ev, Opd.fin, at_, Sl.val, Rs.then, mLit, mVar, mB, mAnd, mOr, mNot, bAnd, bOr, bNot, mIf, bYes, mTup, mLst, evm, evo, fino, mFn, mCall, eva, sls, ioIx, putBack, Arg.opd, iSeq, iRng, fR1, fR2, sFor, tmName, tmTup, tmSeq, mApp, mExt, mPutAt, dPutAt, mIsi, dTy, isB, dEq, dNe, dLt, dLe, dGt, dGe, dIsN, dNotN, dAdd, dSub, dMod, dFdiv, dMul, dAt, dLen, dInt, dTuple, dList, mChain, sPar, setP, natD, fD, atI_nat, hx, optD, ixN_nat, hul, List.map_set]) ?_))
              refine .app rfl (d := natD u) (ρ' := [.fz (nearD w), .fz (natD r), .own (fD (f2.set u (some (x + 1)))), .fz (.list (row.map natD)), .own (.list (later2.map natD)), .fz (natD h), .fz (natD u)]) rfl rfl (by simp; omega) ⟨f2.set u (some (x + 1)), later2 ++ [u], .fz (natD u), by simp, ?_, ?_, ?_, ?_⟩
              · rw [← List.append_assoc]
                exact b2.add (List.mem_append_left _ hin) ha hu
              · simp; omega
              · simp; omega
              · intro v hv
                rw [htake] at hv
                rcases List.mem_append.mp hv with m | m
                · exact (t2 v m).set
                · cases List.mem_singleton.mp m
                  exact .here hul
            | some o =>
              refine .nx (ρ' := [.fz (nearD w), .fz (natD r), .own (fD f2), .fz (.list (row.map natD)), .own (.list (later2.map natD)), .fz (natD h), .fz (natD u)]) ?_ ⟨_, _, _, rfl, b2, c2, l2, ?_⟩
              · simp [fnM, ownIx, backs, sRet, sSeq, sIf, sSet, sOwn, sDo, sNil, sAsg, Rs.sr, mOp2, Opd.ev, Opd.fin, at_, Sl.val, Rs.then, mLit, mVar, mB, mAnd, mOr, mNot, bAnd, bOr, bNot, mIf, bYes, mTup, mLst, evm, evo, fino, mFn, mCall, eva, sls, ioIx, putBack, Arg.opd, iSeq, iRng, fR1, fR2, sFor, tmName, tmTup, tmSeq, mApp, mExt, mPutAt, dPutAt, mIsi, dTy, isB, dEq, dNe, dLt, dLe, dGt, dGe, dIsN, dNotN, dAdd, dSub, dMod, dFdiv, dMul, dAt, dLen, dInt, dTuple, dList, mChain, sPar, setP, natD, fD, atI_nat, eu, optD]
              · intro v hv
                rw [htake] at hv
                rcases List.mem_append.mp hv with m | m
                · exact t2 v m
                · cases List.mem_singleton.mp m
                  exact ⟨o, eu⟩
        · rintro _ ⟨f2, later2, z, rfl, b2, c2, l2, t2⟩
          rw [List.take_length] at t2
          refine ⟨f2, later2, _, z, rfl, b2.sub (fun v hv => ?_) (fun v hv => ?_), c2, l2⟩
          · rcases List.mem_append.mp hv with m | m
            · exact List.mem_append_left _ (by rw [List.drop_eq_getElem_cons hk]; exact List.mem_cons_of_mem _ m)
            · exact List.mem_append_right _ m
          · rcases List.mem_append.mp hv with m | m
            · rw [List.drop_eq_getElem_cons hk] at m
              rcases List.mem_cons.mp m with e | m
              · refine .inr fun u hu => t2 u ((Web.mem_nbr hw).mpr ?_)
                rw [List.getElem?_eq_getElem hk] at ek
                cases ek
                rw [← e]
                exact hu
              · exact .inl (List.mem_append_left _ m)
            · exact .inl (List.mem_append_right _ m)
      · rintro _ ⟨f1, later1, y, z, rfl, b1, c1, l1⟩
        rw [List.drop_length] at b1
        refine .nx (ρ' := [.fz (nearD w), .fz (natD r), .own (fD f1), .fz (.list (later1.map natD)), .fz (.list (later1.map natD)), y, z]) (by simp [fnM, ownIx, backs, sRet, sSeq, sIf, sSet, sOwn, sDo, sNil, sAsg, Rs.sr, mOp2, Opd.ev, Opd.fin, at_, Sl.val, Rs.then, mLit, mVar, mB, mAnd, mOr, mNot, bAnd, bOr, bNot, mIf, bYes, mTup, mLst, evm, evo, fino, mFn, mCall, eva, sls, ioIx, putBack, Arg.opd, iSeq, iRng, fR1, fR2, sFor, tmName, tmTup, tmSeq, mApp, mExt, mPutAt, dPutAt, mIsi, dTy, isB, dEq, dNe, dLt, dLe, dGt, dGe, dIsN, dNotN, dAdd, dSub, dMod, dFdiv, dMul, dAt, dLen, dInt, dTuple, dList, mChain, sPar, setP]) ⟨_, ?_, f1, later1, _, _, _, rfl, b1, rfl, by omega, by simp⟩
        cases row with
        | nil => cases hne
        | cons a l => simp; omega
    · have : row = [] := by cases row with
        | nil => rfl
        | cons a l => cases he
      subst this
      exact .rt (d := fD f) (ρ' := [.fz (nearD w), .fz (natD r), .fz (fD f), .fz (.list (([] : List Nat).map natD)), x, y, z]) (by simp [fnM, ownIx, backs, sRet, sSeq, sIf, sSet, sOwn, sDo, sNil, sAsg, Rs.sr, mOp2, Opd.ev, Opd.fin, at_, Sl.val, Rs.then, mLit, mVar, mB, mAnd, mOr, mNot, bAnd, bOr, bNot, mIf, bYes, mTup, mLst, evm, evo, fino, mFn, mCall, eva, sls, ioIx, putBack, Arg.opd, iSeq, iRng, fR1, fR2, sFor, tmName, tmTup, tmSeq, mApp, mExt, mPutAt, dPutAt, mIsi, dTy, isB, dEq, dNe, dLt, dLe, dGt, dGe, dIsN, dNotN, dAdd, dSub, dMod, dFdiv, dMul, dAt, dLen, dInt, dTuple, dList, mChain, sPar, setP]) ⟨f, rfl, bf.len, bf.done⟩
  · have := nc_le ((List.replicate w.n (none : Option Int)).set r (some 0))
    simp at this
    omega

set_option autoImplicit false
def nbE (i : Nat) (e : Nat × Nat) : Option Nat := if e.1 = i then some e.2 else if e.2 = i then some e.1 else none
def nb (es : List (Nat × Nat)) (i : Nat) : List Nat := es.filterMap (nbE i)
theorem nb_len (es : List (Nat × Nat)) (i : Nat) : (nb es i).length ≤ es.length := List.length_filterMap_le _ _
theorem nb_snoc (es : List (Nat × Nat)) (e : Nat × Nat) (i : Nat) : nb (es ++ [e]) i = nb es i ++ (nbE i e).toList := by
  unfold nb
  rw [List.filterMap_append]
  cases h : nbE i e <;> simp [h]
theorem set_range {α : Type} (n : Nat) (g : Nat → α) (a : Nat) (x : α) : ((List.range n).map g).set a x = (List.range n).map fun i => if i = a then x else g i := by
  refine List.ext_getElem? fun i => ?_
  rw [List.getElem?_set, List.getElem?_map, List.getElem?_map]
  by_cases hi : i < n
  · rw [List.getElem?_range hi]
    by_cases e : a = i
    · subst e
      simp [hi]
    · rw [if_neg e]
      simp [show ¬ i = a from fun z => e z.symm]
  · rw [List.getElem?_eq_none (by simp; omega)]
    simp; intro _; omega
theorem nb_near {w : Web} (hw : w.Ok) (i : Nat) : dSort [.list ((nb w.es i).map natD)] = some (.list ((w.nbr i).map natD)) := by
  have e : ∀ l : List Nat, l.map natD = (l.map fun (k : Nat) => (k : Int)).map PyData.int := fun l => by rw [List.map_map]; rfl
  have hp : ((w.nbr i).map fun (k : Nat) => (k : Int)).Perm ((nb w.es i).map fun (k : Nat) => (k : Int)) := by
    refine List.Perm.map _ ((List.perm_ext_iff_of_nodup ?_ ?_).mpr fun v => ?_)
    · unfold Web.nbr
      exact List.Pairwise.filter _ List.nodup_range
    · unfold nb List.Nodup
      rw [List.pairwise_filterMap]
      refine (List.Pairwise.and_mem.mp hw.sorted).imp fun {p q} ⟨hp, hq, hl⟩ b hb b' hb' => ?_
      have h1 := hw.inn p hp
      have h2 := hw.inn q hq
      unfold nbE at hb hb'
      unfold lexN at hl
      split at hb <;> split at hb' <;> simp at hb hb' <;> omega
    · rw [Web.mem_nbr hw]
      unfold nb Web.adj
      rw [List.mem_filterMap, decide_eq_true_iff]
      constructor
      · intro h
        have := hw.inn _ h
        refine ⟨_, h, ?_⟩
        unfold nbE
        simp only at this ⊢
        by_cases hv : i ≤ v
        · rw [if_pos (by omega)]
          congr 1
          omega
        · rw [if_neg (by omega), if_pos (by omega)]
          congr 1
          omega
      · rintro ⟨⟨a, b⟩, h, hn⟩
        have := hw.inn _ h
        unfold nbE at hn
        simp only at this hn
        split at hn
        · cases hn
          subst i
          rw [show min a v = a by omega, show max a v = v by omega]
          exact h
        · split at hn
          · cases hn
            subst i
            rw [show min b v = v by omega, show max b v = b by omega]
            exact h
          · cases hn
  have hs : ((w.nbr i).map fun (k : Nat) => (k : Int)).Pairwise (· ≤ ·) := by
    rw [List.pairwise_map]
    unfold Web.nbr
    refine List.Pairwise.filter _ ?_
    exact (List.pairwise_lt_range (n := w.n)).imp fun {a b} h => by omega
  unfold dSort
  rw [e, e]
  simp only [dInts_of]
  rw [← sortI_uniq hp hs]
def nbsD (n : Nat) (es : List (Nat × Nat)) : List (List D) := (List.range n).map fun i => (nb es i).map natD
theorem dApp_ok {ix : Opd} {m : ME} {dss : List (List D)} {ρ ρ1 ρ2 : Env} {kx : Option D} {k : Int} {j : Nat} {d : D} {ds : List D} (h1 : ix.ev ρ = .ok kx ρ1) (h2 : ix.fin kx ρ1 = some (.int k)) (h3 : ixN dss.length k = some j) (h4 : m ρ1 = .ok d ρ2) (h5 : dss[j]? = some ds) (h6 : ds.length < sizeLine) : dApp ix m dss ρ = .nx (dss.set j (ds ++ [d])) ρ2 := by
  unfold dApp
  rw [h1]
  simp only [Rs.dr]
  rw [h2]
  simp only [h3, h4, h5, if_pos h6]
theorem near_for {w : Web} (hw : w.Ok) : ∀ (rest done : List (Nat × Nat)) (x2 x3 x4 : Sl), done ++ rest = w.es → ∃ y2 y3, dForM (tmTup [([2], tmName 2), ([3], tmName 3)]) (dSeq (dApp (.sl 2) (mVar 3)) (dApp (.sl 3) (mVar 2))) (rest.map pairN) (nbsD w.n done) [.fz (webD w), .no, x2, x3, x4] = .nx (nbsD w.n w.es) [.fz (webD w), .no, y2, y3, x4]
  | [], done, x2, x3, x4, h => ⟨x2, x3, by rw [List.append_nil] at h; subst h; rfl⟩
  | (a, b) :: rest, done, x2, x3, x4, h => by
    have hi := hw.inn (a, b) (by rw [← h]; simp)
    simp only at hi
    obtain ⟨y2, y3, ih⟩ := near_for hw rest (done ++ [(a, b)]) (.fz (natD a)) (.fz (natD b)) x4 (by rw [← h]; simp)
    refine ⟨y2, y3, ?_⟩
    rw [← ih]
    have hd : done.length ≤ 100 := by
      have := hw.few
      rw [← h] at this
      simp at this
      omega
    have la := nb_len done a
    have lb := nb_len done b
    have za : (nb done a).length < sizeLine := by unfold sizeLine; omega
    have zb : (nb done b).length < sizeLine := by unfold sizeLine; omega
    have hl : ∀ es, (nbsD w.n es).length = w.n := fun es => by unfold nbsD; simp
    have ha : (nbsD w.n done)[a]? = some ((nb done a).map natD) := by
      unfold nbsD
      rw [List.getElem?_map, List.getElem?_range (by omega)]
      rfl
    have hb : ((nbsD w.n done).set a ((nb done a).map natD ++ [natD b]))[b]? = some ((nb done b).map natD) := by
      rw [List.getElem?_set_ne (by omega)]
      unfold nbsD
      rw [List.getElem?_map, List.getElem?_range (by omega)]
      rfl
    have hn : ((nbsD w.n done).set a ((nb done a).map natD ++ [natD b])).set b ((nb done b).map natD ++ [natD a]) = nbsD w.n (done ++ [(a, b)]) := by
      unfold nbsD
      rw [set_range, set_range]
      refine List.map_congr_left fun i _ => ?_
      rw [nb_snoc]
      unfold nbE
      simp only
      by_cases e1 : i = b
      · subst e1
        rw [if_pos rfl, if_neg (by omega), if_pos rfl]
        simp
      · rw [if_neg e1]
        by_cases e2 : i = a
        · subst e2
          rw [if_pos rfl, if_pos rfl]
          simp
        · rw [if_neg e2, if_neg (fun z => e2 z.symm), if_neg (fun z => e1 z.symm)]
          simp
    show (Rs.dr (tmTup [([2], tmName 2), ([3], tmName 3)] (pairN (a, b)) [.fz (webD w), .no, x2, x3, x4]) _) = _
    have ht : tmTup [([2], tmName 2), ([3], tmName 3)] (pairN (a, b)) [.fz (webD w), .no, x2, x3, x4] = .ok () [.fz (webD w), .no, .fz (natD a), .fz (natD b), x4] := rfl
    rw [ht]
    show (match (dSeq (dApp (.sl 2) (mVar 3)) (dApp (.sl 3) (mVar 2))) (nbsD w.n done) [.fz (webD w), .no, .fz (natD a), .fz (natD b), x4] with
      | .nx dss' ρ2 => dForM _ _ (rest.map pairN) dss' ρ2
      | .stuck => .stuck) = _
    have hb2 : (dSeq (dApp (.sl 2) (mVar 3)) (dApp (.sl 3) (mVar 2))) (nbsD w.n done) [.fz (webD w), .no, .fz (natD a), .fz (natD b), x4] = .nx (nbsD w.n (done ++ [(a, b)])) [.fz (webD w), .no, .fz (natD a), .fz (natD b), x4] := by
      rw [← hn]
      have la' : a < w.n := by omega
      have lb' : b < w.n := by omega
      have ea : dApp (.sl 2) (mVar 3) (nbsD w.n done) [.fz (webD w), .no, .fz (natD a), .fz (natD b), x4] = .nx ((nbsD w.n done).set a ((nb done a).map natD ++ [natD b])) [.fz (webD w), .no, .fz (natD a), .fz (natD b), x4] := by
        exact dApp_ok (k := a) (kx := none) (ρ1 := [.fz (webD w), .no, .fz (natD a), .fz (natD b), x4]) rfl rfl (by rw [ixN_nat, hl, if_pos la']) rfl ha (by rw [List.length_map]; exact za)
      have eb : dApp (.sl 3) (mVar 2) ((nbsD w.n done).set a ((nb done a).map natD ++ [natD b])) [.fz (webD w), .no, .fz (natD a), .fz (natD b), x4] = .nx (((nbsD w.n done).set a ((nb done a).map natD ++ [natD b])).set b ((nb done b).map natD ++ [natD a])) [.fz (webD w), .no, .fz (natD a), .fz (natD b), x4] := by
        exact dApp_ok (k := b) (kx := none) (ρ1 := [.fz (webD w), .no, .fz (natD a), .fz (natD b), x4]) rfl rfl (by rw [ixN_nat, List.length_set, hl, if_pos lb']) rfl hb (by rw [List.length_map]; exact zb)
      unfold dSeq
      rw [ea]
      exact eb
    rw [hb2]
theorem make_nil (x1 x3 x4 : Sl) (wd : D) : ∀ (ds : List D) (acc : List (List D)), makeM (tmName 2) (mLst []) [2] ds acc [.fz wd, x1, .no, x3, x4] = .ok (acc ++ List.replicate ds.length []) [.fz wd, x1, .no, x3, x4]
  | [], acc => by simp [makeM]
  | d :: ds, acc => by
    have : makeM (tmName 2) (mLst []) [2] (d :: ds) acc [.fz wd, x1, .no, x3, x4] = makeM (tmName 2) (mLst []) [2] ds (acc ++ [[]]) [.fz wd, x1, .no, x3, x4] := rfl
    rw [this, make_nil x1 x3 x4 wd ds]
    simp [List.replicate_succ]
theorem near_eq {w : Web} (hw : w.Ok) : f_near_lists [.fz (webD w)] = .ok (nearD w) [] := by
  have hm := hw.most
  refine W.fn0 rfl ⟨?_⟩
  show WR (m_near_lists [.fz (webD w), .no, .no, .no, .no]) _ _
  unfold m_near_lists sDeep
  rw [rng_map (n := w.n) (xs := [some (.int w.n)]) (ρ1 := [.fz (webD w), .no, .no, .no, .no]) (by simp [fnM, ownIx, backs, sRet, sSeq, sIf, sSet, sOwn, sDo, sNil, sAsg, Rs.sr, mOp2, Opd.ev, Opd.fin, at_, Sl.val, Rs.then, mLit, mVar, mB, mAnd, mOr, mNot, bAnd, bOr, bNot, mIf, bYes, mTup, mLst, evm, evo, fino, mFn, mCall, eva, sls, ioIx, putBack, Arg.opd, iSeq, iRng, fR1, fR2, sFor, tmName, tmTup, tmSeq, mApp, mExt, mPutAt, dPutAt, mIsi, dTy, isB, dEq, dNe, dLt, dLe, dGt, dGe, dIsN, dNotN, dAdd, dSub, dMod, dFdiv, dMul, dAt, dLen, dInt, dTuple, dList, mChain, sPar, setP, webD, atI_0]) (by simp [fnM, ownIx, backs, sRet, sSeq, sIf, sSet, sOwn, sDo, sNil, sAsg, Rs.sr, mOp2, Opd.ev, Opd.fin, at_, Sl.val, Rs.then, mLit, mVar, mB, mAnd, mOr, mNot, bAnd, bOr, bNot, mIf, bYes, mTup, mLst, evm, evo, fino, mFn, mCall, eva, sls, ioIx, putBack, Arg.opd, iSeq, iRng, fR1, fR2, sFor, tmName, tmTup, tmSeq, mApp, mExt, mPutAt, dPutAt, mIsi, dTy, isB, dEq, dNe, dLt, dLe, dGt, dGe, dIsN, dNotN, dAdd, dSub, dMod, dFdiv, dMul, dAt, dLen, dInt, dTuple, dList, mChain, sPar, setP]) (by omega)]
  simp only [Rs.sr]
  rw [if_pos ⟨by unfold sizeLine; rw [List.length_map, List.length_range]; omega, by simp⟩]
  have h0 : wipeE [.fz (webD w), .no, .no, .no, .no] [2] = [.fz (webD w), .no, .no, .no, .no] := rfl
  rw [h0, make_nil]
  simp only [List.nil_append, List.length_map, List.length_range]
  have h1 : (unwipe [.fz (webD w), .no, .no, .no, .no] [.fz (webD w), .no, .no, .no, .no] [2]).set 1 .no = [.fz (webD w), .no, .no, .no, .no] := rfl
  rw [h1]
  have h2 : List.replicate w.n ([] : List D) = nbsD w.n [] := by
    refine (List.eq_replicate_iff.mpr ⟨by unfold nbsD; simp, fun x hx => ?_⟩).symm
    unfold nbsD at hx
    obtain ⟨_, _, rfl⟩ := List.mem_map.mp hx
    rfl
  rw [h2]
  obtain ⟨y2, y3, e⟩ := near_for hw w.es [] .no .no .no rfl
  have h3 : dFor (iSeq (mOp2 dAt (.sl 0) (.ex (mLit (.int 1))))) (tmTup [([2], tmName 2), ([3], tmName 3)]) (dSeq (dApp (.sl 2) (mVar 3)) (dApp (.sl 3) (mVar 2))) (nbsD w.n []) [.fz (webD w), .no, .no, .no, .no] = .nx (nbsD w.n w.es) [.fz (webD w), .no, y2, y3, .no] := by
    unfold dFor
    have : iSeq (mOp2 dAt (.sl 0) (.ex (mLit (.int 1)))) [.fz (webD w), .no, .no, .no, .no] = .ok (w.es.map pairN) [.fz (webD w), .no, .no, .no, .no] := by simp [fnM, ownIx, backs, sRet, sSeq, sIf, sSet, sOwn, sDo, sNil, sAsg, Rs.sr, mOp2, Opd.ev, Opd.fin, at_, Sl.val, Rs.then, mLit, mVar, mB, mAnd, mOr, mNot, bAnd, bOr, bNot, mIf, bYes, mTup, mLst, evm, evo, fino, mFn, mCall, eva, sls, ioIx, putBack, Arg.opd, iSeq, iRng, fR1, fR2, sFor, tmName, tmTup, tmSeq, mApp, mExt, mPutAt, dPutAt, mIsi, dTy, isB, dEq, dNe, dLt, dLe, dGt, dGe, dIsN, dNotN, dAdd, dSub, dMod, dFdiv, dMul, dAt, dLen, dInt, dTuple, dList, mChain, sPar, setP, webD, atI_1]
    rw [this]
    exact e
  rw [h3]
  have h4 : (nbsD w.n w.es).map PyData.list = (List.range w.n).map fun i => .list ((nb w.es i).map natD) := by
    unfold nbsD
    rw [List.map_map]
    rfl
  simp only [h4]
  have hc := mComp_of (f := fun i => .list ((nb w.es i).map natD)) (i := 4) (it := iSeq (mVar 1)) (cd := bYes) (elt := mFn dSort [.sl 4]) (fun _ => true) (fun i => .list ((w.nbr i).map natD))
    (ρ := [.fz (webD w), .fz (.list ((List.range w.n).map fun i => .list ((nb w.es i).map natD))), y2, y3, .no]) (ρ1 := [.fz (webD w), .fz (.list ((List.range w.n).map fun i => .list ((nb w.es i).map natD))), y2, y3, .no]) (ds := List.range w.n)
    (by simp [fnM, ownIx, backs, sRet, sSeq, sIf, sSet, sOwn, sDo, sNil, sAsg, Rs.sr, mOp2, Opd.ev, Opd.fin, at_, Sl.val, Rs.then, mLit, mVar, mB, mAnd, mOr, mNot, bAnd, bOr, bNot, mIf, bYes, mTup, mLst, evm, evo, fino, mFn, mCall, eva, sls, ioIx, putBack, Arg.opd, iSeq, iRng, fR1, fR2, sFor, tmName, tmTup, tmSeq, mApp, mExt, mPutAt, dPutAt, mIsi, dTy, isB, dEq, dNe, dLt, dLe, dGt, dGe, dIsN, dNotN, dAdd, dSub, dMod, dFdiv, dMul, dAt, dLen, dInt, dTuple, dList, mChain, sPar, setP]) (.no rfl) (fun j hj => by simp [bYes]) (fun j hj _ => by simp [fnM, ownIx, backs, sRet, sSeq, sIf, sSet, sOwn, sDo, sNil, sAsg, Rs.sr, mOp2, Opd.ev, Opd.fin, at_, Sl.val, Rs.then, mLit, mVar, mB, mAnd, mOr, mNot, bAnd, bOr, bNot, mIf, bYes, mTup, mLst, evm, evo, fino, mFn, mCall, eva, sls, ioIx, putBack, Arg.opd, iSeq, iRng, fR1, fR2, sFor, tmName, tmTup, tmSeq, mApp, mExt, mPutAt, dPutAt, mIsi, dTy, isB, dEq, dNe, dLt, dLe, dGt, dGe, dIsN, dNotN, dAdd, dSub, dMod, dFdiv, dMul, dAt, dLen, dInt, dTuple, dList, mChain, sPar, setP, nb_near hw]) (by simp; omega)
  have h5 : ([.fz (webD w), .no, y2, y3, .no] : Env).set 1 (.fz (.list ((List.range w.n).map fun i => .list ((nb w.es i).map natD)))) = [.fz (webD w), .fz (.list ((List.range w.n).map fun i => .list ((nb w.es i).map natD))), y2, y3, .no] := rfl
  rw [h5]
  unfold sRet
  rw [hc]
  show _ = _
  unfold nearD
  rw [List.filter_eq_self.mpr (fun _ _ => rfl)]

set_option autoImplicit false
theorem fD_at (f : List (Option Int)) (v : Nat) : dAt (fD f) (natD v) = (f[v]?).map optD := by
  show atI (f.map optD) (v : Int) = _
  rw [atI_nat, List.getElem?_map]
theorem web_0 (w : Web) : dAt (webD w) (.int 0) = some (natD w.n) := rfl
theorem web_1 (w : Web) : dAt (webD w) (.int 1) = some (.tuple (w.es.map pairN)) := rfl
theorem has_nat (l : List Nat) (v : Nat) : dHas (natD v) (.list (l.map natD)) = some (decide (v ∈ l)) := by
  show (if (okD (natD v) && okD (.list (l.map natD))) = true then some (inAny (l.map natD) (natD v)) else none) = _
  rw [show okD (natD v) = true from okI _, okNats, inAny_map eqv_nat]
  simp
theorem has_natT (l : List Nat) (v : Nat) : dHas (natD v) (.tuple (l.map natD)) = some (decide (v ∈ l)) := by
  show (if (okD (natD v) && okD (.tuple (l.map natD))) = true then some (inAny (l.map natD) (natD v)) else none) = _
  rw [show okD (natD v) = true from okI _, okNatsT, inAny_map eqv_nat]
  simp
theorem W.ext {i : Nat} {m : ME} {ρ ρ' : Env} {d : D} {b : Bool} {ds0 ds es : List D} {N : Env → Prop} {R : D → Env → Prop} (h0 : ρ[i]? = some (.own (.list ds0))) (h1 : m ρ = .ok d ρ') (hd : seqOf d = some (b, es)) (h2 : ρ'[i]? = some (.own (.list ds))) (hz : ds.length + es.length ≤ 1000000) (h : N (ρ'.set i (.own (.list (ds ++ es))))) : W (sDo (mExt i m)) ρ N R := by
  refine .nx ?_ h
  unfold sDo mExt
  rw [h0]
  simp only [h1, Rs.then]
  rw [hd, h2]
  simp only [if_pos (show ds.length + es.length ≤ sizeLine by unfold sizeLine; omega)]
  rfl
theorem mCall_ok {f : FM} {as : List Arg} {ρ ρ1 : Env} {xs : List (Option D)} {ss : List Sl} {d : D} {b : List D} (h1 : eva as ρ = .ok xs ρ1) (h2 : sls as xs ρ1 = some ss) (h3 : f ss = .ok d b) : mCall f as ρ = .ok d (putBack (ioIx as) b ρ1) := by
  unfold mCall
  rw [h1]
  simp only [Rs.then]
  rw [h2]
  simp only [h3]
theorem mCall_0 {f : FM} {as : List Arg} {ρ ρ1 : Env} {xs : List (Option D)} {ss : List Sl} {d : D} (h1 : eva as ρ = .ok xs ρ1) (h2 : sls as xs ρ1 = some ss) (h3 : f ss = .ok d []) : mCall f as ρ = .ok d ρ1 := by
  rw [mCall_ok h1 h2 h3]
  cases ioIx as <;> rfl
theorem evo_1 {m : ME} {ρ ρ1 : Env} {d : D} (h1 : m ρ = .ok d ρ1) : evo [.ex m] ρ = .ok [some d] ρ1 := by
  show ((m ρ).then fun d ρ' => Rs.ok (some d) ρ').then _ = _
  rw [h1]
  rfl
theorem mFn_1 {g : List D → Option D} {m : ME} {ρ ρ1 : Env} {d e : D} (h1 : m ρ = .ok d ρ1) (hg : g [d] = some e) : mFn g [.ex m] ρ = .ok e ρ1 := mFn_ok (evo_1 h1) rfl hg
theorem evm_cons {m : ME} {ms : List ME} {ρ ρ1 ρ2 : Env} {d : D} {ds : List D} (h1 : m ρ = .ok d ρ1) (h2 : evm ms ρ1 = .ok ds ρ2) : evm (m :: ms) ρ = .ok (d :: ds) ρ2 := by
  unfold evm
  rw [h1]
  simp only [Rs.then]
  rw [h2]
theorem W.par {is : List Nat} {ms : List (Bool × ME)} {ρ ρ1 : Env} {ds : List D} {N : Env → Prop} {R : D → Env → Prop} (e : evm (ms.map (·.2)) ρ = .ok ds ρ1) (h : N (setP is (ms.map (·.1)) ds ρ1)) : W (sPar is ms) ρ N R := .nx (by unfold sPar; rw [e]; rfl) h
theorem Reach.trans {w : Web} {i j k : Nat} (h : Reach w i j) (h2 : Reach w j k) : Reach w i k := by
  induction h2 with
  | here => exact h
  | on _ e ih => exact .on ih e
theorem Reach.symm {w : Web} {i j : Nat} (h : Reach w i j) : Reach w j i := by
  induction h with
  | here => exact .here _
  | on _ e ih => exact Reach.trans (.on (.here _) (by rw [Web.adj_comm]; exact e)) ih
structure Part (w : Web) (p : List Nat) : Prop where
  ex : ∃ x, x < w.n ∧ ∀ v, v ∈ p ↔ v < w.n ∧ Reach w x v
  len : p.length ≤ w.n
  nd : p.Nodup
theorem Part.lt {w : Web} {p : List Nat} (h : Part w p) {v : Nat} (hv : v ∈ p) : v < w.n := by
  obtain ⟨x, _, e⟩ := h.ex
  exact ((e v).mp hv).1
theorem Part.reach {w : Web} {p : List Nat} (h : Part w p) {u v : Nat} (hu : u ∈ p) (hv : v ∈ p) : Reach w u v := by
  obtain ⟨x, _, e⟩ := h.ex
  exact ((e u).mp hu).2.symm.trans ((e v).mp hv).2
theorem Part.on {w : Web} (hw : w.Ok) {p : List Nat} (h : Part w p) {u v : Nat} (hu : u ∈ p) (a : w.adj u v = true) : v ∈ p := by
  obtain ⟨x, _, e⟩ := h.ex
  exact (e v).mpr ⟨(Web.adj_lt hw a).2.1, .on ((e u).mp hu).2 a⟩
theorem Part.ne {w : Web} {p : List Nat} (h : Part w p) : p ≠ [] := by
  obtain ⟨x, hx, e⟩ := h.ex
  intro z
  have := (e x).mpr ⟨hx, .here x⟩
  rw [z] at this
  cases this
structure Parts (w : Web) (ps : List (List Nat)) : Prop where
  part : ∀ p ∈ ps, Part w p
  cover : ∀ v, v < w.n → ∃ p ∈ ps, v ∈ p
  dis : ps.Pairwise fun p q => ∀ v ∈ p, v ∉ q
  few : ps.length ≤ w.n
def tupN (p : List Nat) : D := .tuple (p.map natD)
def hasB (f : List (Option Int)) (v : Nat) : Bool := (f[v]?.getD none).isSome
theorem hasB_iff (f : List (Option Int)) (v : Nat) : hasB f v = true ↔ Has f v := by
  unfold hasB Has
  cases e : f[v]? with
  | none => simp
  | some o => cases o <;> simp
theorem parts_eq {w : Web} (hw : w.Ok) : ∃ d, f_parts_of [.fz (webD w)] = .ok d [] ∧ ∃ ps, d = .list (ps.map tupN) ∧ Parts w ps := by
  have hm := hw.most
  refine W.fnP (P := fun d => ∃ ps : List (List Nat), d = .list (ps.map tupN) ∧ Parts w ps) rfl ?_
  unfold m_parts_of
  have e0 : mCall f_near_lists [.v (mVar 0)] [.fz (webD w), .no, .no, .no, .no, .no, .no, .no] = .ok (nearD w) [.fz (webD w), .no, .no, .no, .no, .no, .no, .no] := mCall_0 (xs := [some (webD w)]) (ss := [.fz (webD w)]) rfl rfl (near_eq hw)
  refine .seq (.par (ds := [nearD w, .list [], .list []]) (ρ1 := [.fz (webD w), .no, .no, .no, .no, .no, .no, .no]) ?_ ?_)
  · show evm [mCall f_near_lists [.v (mVar 0)], mLst [], mLst []] [.fz (webD w), .no, .no, .no, .no, .no, .no, .no] = _
    exact evm_cons e0 (evm_cons (ρ1 := [.fz (webD w), .no, .no, .no, .no, .no, .no, .no]) rfl (evm_cons (ρ1 := [.fz (webD w), .no, .no, .no, .no, .no, .no, .no]) rfl rfl))
  show W _ [.fz (webD w), .fz (nearD w), .own (.list (([] : List (List Nat)).map tupN)), .own (.list (([] : List Nat).map natD)), .no, .no, .no, .no] _ _
  refine .seq (.forA (f := natD) (l := List.range w.n) (ρ0 := [.fz (webD w), .fz (nearD w), .own (.list (([] : List (List Nat)).map tupN)), .own (.list (([] : List Nat).map natD)), .no, .no, .no, .no]) (fun k ρ => ∃ (ps : List (List Nat)) (x4 x5 x6 : Sl), ρ = [.fz (webD w), .fz (nearD w), .own (.list (ps.map tupN)), .own (.list (ps.flatten.map natD)), x4, x5, x6, .no] ∧ (∀ p ∈ ps, Part w p) ∧ (∀ v, v < k → ∃ p ∈ ps, v ∈ p) ∧ (ps.Pairwise fun p q => ∀ v ∈ p, v ∉ q) ∧ ps.length ≤ k ∧ ps.flatten.length ≤ k * 10) ?_ ⟨[], .no, .no, .no, rfl, by simp, by simp, .nil, by simp, by simp⟩ ?_ ?_)
  · exact rng_map (xs := [some (natD w.n)]) (by simp [fnM, ownIx, backs, sRet, sSeq, sIf, sSet, sOwn, sDo, sNil, sAsg, Rs.sr, mOp2, Opd.ev, Opd.fin, at_, Sl.val, Rs.then, mLit, mVar, mB, mAnd, mOr, mNot, bAnd, bOr, bNot, mIf, bYes, mTup, mLst, evm, evo, fino, mFn, mCall, eva, sls, ioIx, putBack, Arg.opd, iSeq, iRng, fR1, fR2, sFor, tmName, tmTup, tmSeq, mApp, mExt, mPutAt, dPutAt, mIsi, dTy, isB, dEq, dNe, dLt, dLe, dGt, dGe, dIsN, dNotN, dAdd, dSub, dMod, dFdiv, dMul, dLen, dInt, dTuple, dList, mChain, sPar, setP, web_0]) rfl (by omega)
  · rintro k a _ ek ⟨ps, x4, x5, x6, rfl, hp, hc, hd, hl, hf⟩
    have hk : k < w.n := by
      have := look_lt ek
      rw [List.length_range] at this
      exact this
    rw [List.getElem?_range hk] at ek
    cases ek
    by_cases hin : k ∈ ps.flatten
    · refine .ifF (ρ1 := [.fz (webD w), .fz (nearD w), .own (.list (ps.map tupN)), .own (.list (ps.flatten.map natD)), .fz (natD k), x5, x6, .no]) ?_ (.nil ⟨ps, _, _, _, rfl, hp, fun v hv => ?_, hd, by omega, by omega⟩)
      · simp [fnM, ownIx, backs, sRet, sSeq, sIf, sSet, sOwn, sDo, sNil, sAsg, Rs.sr, mOp2, Opd.ev, Opd.fin, at_, Sl.val, Rs.then, mLit, mVar, mB, mAnd, mOr, mNot, bAnd, bOr, bNot, mIf, bYes, mTup, mLst, evm, evo, fino, mFn, mCall, eva, sls, ioIx, putBack, Arg.opd, iSeq, iRng, fR1, fR2, sFor, tmName, tmTup, tmSeq, mApp, mExt, mPutAt, dPutAt, mIsi, dTy, isB, dEq, dNe, dLt, dLe, dGt, dGe, dIsN, dNotN, dAdd, dSub, dMod, dFdiv, dMul, dAt, dLen, dInt, dTuple, dList, mChain, sPar, setP, dNotIn, has_nat, hin, -List.map_flatten, -List.mem_flatten]
      · by_cases e : v = k
        · subst e
          exact List.mem_flatten.mp hin
        · exact hc v (by omega)
    · obtain ⟨d, e1, f, rfl, lf, hr⟩ := ways_eq hw hk
      refine .ifT (ρ1 := [.fz (webD w), .fz (nearD w), .own (.list (ps.map tupN)), .own (.list (ps.flatten.map natD)), .fz (natD k), x5, x6, .no]) (by simp [fnM, ownIx, backs, sRet, sSeq, sIf, sSet, sOwn, sDo, sNil, sAsg, Rs.sr, mOp2, Opd.ev, Opd.fin, at_, Sl.val, Rs.then, mLit, mVar, mB, mAnd, mOr, mNot, bAnd, bOr, bNot, mIf, bYes, mTup, mLst, evm, evo, fino, mFn, mCall, eva, sls, ioIx, putBack, Arg.opd, iSeq, iRng, fR1, fR2, sFor, tmName, tmTup, tmSeq, mApp, mExt, mPutAt, dPutAt, mIsi, dTy, isB, dEq, dNe, dLt, dLe, dGt, dGe, dIsN, dNotN, dAdd, dSub, dMod, dFdiv, dMul, dAt, dLen, dInt, dTuple, dList, mChain, sPar, setP, dNotIn, has_nat, hin, -List.map_flatten, -List.mem_flatten]) ?_
      refine .seq (.set' (mCall_0 (xs := [some (nearD w), some (natD k)]) (by simp [fnM, ownIx, backs, sRet, sSeq, sIf, sSet, sOwn, sDo, sNil, sAsg, Rs.sr, mOp2, Opd.ev, Opd.fin, at_, Sl.val, Rs.then, mLit, mVar, mB, mAnd, mOr, mNot, bAnd, bOr, bNot, mIf, bYes, mTup, mLst, evm, evo, fino, mFn, mCall, eva, sls, ioIx, putBack, Arg.opd, iSeq, iRng, fR1, fR2, sFor, tmName, tmTup, tmSeq, mApp, mExt, mPutAt, dPutAt, mIsi, dTy, isB, dEq, dNe, dLt, dLe, dGt, dGe, dIsN, dNotN, dAdd, dSub, dMod, dFdiv, dMul, dAt, dLen, dInt, dTuple, dList, mChain, sPar, setP, -List.map_flatten]; rfl) rfl e1) ?_)
      have hcm := mComp_of (f := natD) (i := 7) (it := iRng fR1 [.ex (mOp2 dAt (.sl 0) (.ex (mLit (.int 0))))]) (cd := mB (mOp2 dNotN (.ex (mOp2 dAt (.sl 5) (.sl 7))) (.ex (mLit .none)))) (elt := mVar 7) (hasB f) natD
        (ρ := [.fz (webD w), .fz (nearD w), .own (.list (ps.map tupN)), .own (.list (ps.flatten.map natD)), .fz (natD k), .fz (fD f), x6, .no]) (ρ1 := [.fz (webD w), .fz (nearD w), .own (.list (ps.map tupN)), .own (.list (ps.flatten.map natD)), .fz (natD k), .fz (fD f), x6, .no]) (ds := List.range w.n)
        (rng_map (xs := [some (natD w.n)]) (by simp [fnM, ownIx, backs, sRet, sSeq, sIf, sSet, sOwn, sDo, sNil, sAsg, Rs.sr, mOp2, Opd.ev, Opd.fin, at_, Sl.val, Rs.then, mLit, mVar, mB, mAnd, mOr, mNot, bAnd, bOr, bNot, mIf, bYes, mTup, mLst, evm, evo, fino, mFn, mCall, eva, sls, ioIx, putBack, Arg.opd, iSeq, iRng, fR1, fR2, sFor, tmName, tmTup, tmSeq, mApp, mExt, mPutAt, dPutAt, mIsi, dTy, isB, dEq, dNe, dLt, dLe, dGt, dGe, dIsN, dNotN, dAdd, dSub, dMod, dFdiv, dMul, dLen, dInt, dTuple, dList, mChain, sPar, setP, web_0]) rfl (by omega)) (.no rfl) (fun j hj => ?_) (fun j hj _ => by simp [fnM, ownIx, backs, sRet, sSeq, sIf, sSet, sOwn, sDo, sNil, sAsg, Rs.sr, mOp2, Opd.ev, Opd.fin, at_, Sl.val, Rs.then, mLit, mVar, mB, mAnd, mOr, mNot, bAnd, bOr, bNot, mIf, bYes, mTup, mLst, evm, evo, fino, mFn, mCall, eva, sls, ioIx, putBack, Arg.opd, iSeq, iRng, fR1, fR2, sFor, tmName, tmTup, tmSeq, mApp, mExt, mPutAt, dPutAt, mIsi, dTy, isB, dEq, dNe, dLt, dLe, dGt, dGe, dIsN, dNotN, dAdd, dSub, dMod, dFdiv, dMul, dAt, dLen, dInt, dTuple, dList, mChain, sPar, setP]) (by simp; omega)
      · let p := (List.range w.n).filter (hasB f)
        have hpm : ∀ v, v ∈ p ↔ v < w.n ∧ Reach w k v := fun v => by
          show v ∈ (List.range w.n).filter (hasB f) ↔ _
          rw [List.mem_filter, List.mem_range, hasB_iff, hr]
        have hpl : p.length ≤ w.n := by
          have := List.length_filter_le (hasB f) (List.range w.n)
          rw [List.length_range] at this
          exact this
        have hpp : Part w p := ⟨⟨k, hk, hpm⟩, hpl, List.Pairwise.filter _ List.nodup_range⟩
        refine .seq (.set' (d := tupN p) (mFn_1 hcm rfl) ?_)
        refine .seq (.app rfl (d := tupN p) (ρ' := [.fz (webD w), .fz (nearD w), .own (.list (ps.map tupN)), .own (.list (ps.flatten.map natD)), .fz (natD k), .fz (fD f), .fz (tupN p), .no]) rfl rfl (by rw [List.length_map]; omega) ?_)
        refine .ext (b := true) (es := p.map natD) (d := tupN p) rfl rfl rfl rfl (by rw [List.length_map, List.length_map]; omega) ⟨ps ++ [p], .fz (natD k), .fz (fD f), .fz (tupN p), ?_, ?_, ?_, ?_, ?_, ?_⟩
        · simp
        · intro q hq
          rcases List.mem_append.mp hq with m | m
          · exact hp q m
          · cases List.mem_singleton.mp m
            exact hpp
        · intro v hv
          by_cases e : v = k
          · subst e
            exact ⟨p, by simp, (hpm v).mpr ⟨hk, .here v⟩⟩
          · obtain ⟨q, hq, hv⟩ := hc v (by omega)
            exact ⟨q, by simp [hq], hv⟩
        · rw [List.pairwise_append]
          refine ⟨hd, List.pairwise_singleton _ _, fun q hq q' hq' v hv hv' => ?_⟩
          cases List.mem_singleton.mp hq'
          obtain ⟨x, hx, e⟩ := (hp q hq).ex
          exact hin (List.mem_flatten.mpr ⟨q, hq, (e k).mpr ⟨hk, ((e v).mp hv).2.trans ((hpm v).mp hv').2.symm⟩⟩)
        · simp; omega
        · simp at hf ⊢; omega
      · have hjl : j < f.length := by rw [lf]; exact List.mem_range.mp hj
        obtain ⟨o, eo⟩ : ∃ o, f[j]? = some o := ⟨_, List.getElem?_eq_getElem hjl⟩
        unfold hasB
        rw [eo]
        cases o <;> simp [fnM, ownIx, backs, sRet, sSeq, sIf, sSet, sOwn, sDo, sNil, sAsg, Rs.sr, mOp2, Opd.ev, Opd.fin, at_, Sl.val, Rs.then, mLit, mVar, mB, mAnd, mOr, mNot, bAnd, bOr, bNot, mIf, bYes, mTup, mLst, evm, evo, fino, mFn, mCall, eva, sls, ioIx, putBack, Arg.opd, iSeq, iRng, fR1, fR2, sFor, tmName, tmTup, tmSeq, mApp, mExt, mPutAt, dPutAt, mIsi, dTy, isB, dEq, dNe, dLt, dLe, dGt, dGe, dIsN, dNotN, dAdd, dSub, dMod, dFdiv, dMul, dLen, dInt, dTuple, dList, mChain, sPar, setP, fD_at, eo, optD]
  · rintro _ ⟨ps, x4, x5, x6, rfl, hp, hc, hd, hl, hf⟩
    rw [List.length_range] at hc hl hf
    exact .ret (d := .list (ps.map tupN)) rfl ⟨ps, rfl, hp, hc, hd, hl⟩

set_option autoImplicit false
theorem mood_at {s : List Int} {i : Nat} (h : i < s.length) : s[i]? = some (mood s i) := by
  unfold mood
  rw [List.getD_eq_getElem?_getD, List.getElem?_eq_getElem h]
  rfl
theorem st_at {s : List Int} {i : Nat} (h : i < s.length) : dAt (stD s) (natD i) = some (.int (mood s i)) := by
  show atI (s.map PyData.int) (i : Int) = _
  rw [atI_nat, List.getElem?_map, mood_at h]
  rfl
theorem step_eq {s : List Int} {a b : Nat} (ha : a < s.length) (hb : b < s.length) : f_step [.fz (stD s), .fz (natD a), .fz (natD b)] = .ok (.int (stp s a b)) [] := by
  unfold f_step
  refine fn_rt (ρ := [.fz (stD s), .fz (natD a), .fz (natD b)]) rfl ?_ rfl
  simp [m_step, fnM, ownIx, backs, sRet, sSeq, sIf, sSet, sOwn, sDo, sNil, sAsg, Rs.sr, mOp2, Opd.ev, Opd.fin, at_, Sl.val, Rs.then, mLit, mVar, mB, mAnd, mOr, mNot, bAnd, bOr, bNot, mIf, bYes, mTup, mLst, evm, evo, fino, mFn, mCall, eva, sls, ioIx, putBack, Arg.opd, iSeq, iRng, fR1, fR2, sFor, tmName, tmTup, tmSeq, mApp, mExt, mPutAt, dPutAt, mIsi, dTy, isB, dEq, dNe, dLt, dLe, dGt, dGe, dIsN, dNotN, dAdd, dSub, dMod, dFdiv, dMul, dLen, dInt, dTuple, dList, mChain, sPar, setP, st_at ha, st_at hb, stp]
theorem ne_int (a b : Int) : dNe (.int a) (.int b) = some (.bool (!decide (a = b))) := by
  unfold dNe
  rw [okI, okI, eqv_int]
  rfl
theorem mPop_ok {i : Nat} {l : List D} {d : D} {ρ : Env} (h : ρ[i]? = some (.own (.list (l ++ [d])))) : mPop i ρ = .ok d (ρ.set i (.own (.list l))) := by
  unfold mPop
  rw [h]
  simp
structure Dfs (w : Web) (s : List Int) (p : List Nat) (r : Nat) (F0 f : List (Option Int)) (q : List Nat) : Prop where
  len : f.length = w.n
  out : ∀ v, v ∉ p → f[v]? = F0[v]?
  rt : Has f r
  inq : ∀ v ∈ q, v ∈ p ∧ Has f v
  cls : ∀ v ∈ p, ∀ x, f[v]? = some (some x) → v ∈ q ∨ ∀ u, w.adj v u = true → f[u]? = some (some (x + stp s v u))
  ht : ∀ g, Ht w s g → ∀ v ∈ p, ∀ x, f[v]? = some (some x) → x = g v - g r
structure Laid (w : Web) (s : List Int) (p : List Nat) (F0 f : List (Option Int)) : Prop where
  len : f.length = w.n
  out : ∀ v, v ∉ p → f[v]? = F0[v]?
  has : ∀ v ∈ p, Has f v
  on : ∀ v ∈ p, ∀ x, f[v]? = some (some x) → ∀ u, w.adj v u = true → f[u]? = some (some (x + stp s v u))
section
variable {w : Web} {s : List Int} {p : List Nat} {r : Nat} {F0 f : List (Option Int)} {q : List Nat}
theorem Dfs.init (hl : F0.length = w.n) (hn : ∀ v ∈ p, F0[v]? = some none) (hr : r ∈ p) : Dfs w s p r F0 (F0.set r (some 0)) [r] := by
  have hrl : r < F0.length := look_lt (hn r hr)
  have hv : ∀ v ∈ p, ∀ x, (F0.set r (some 0))[v]? = some (some x) → v = r ∧ x = 0 := fun v hv x hx => by
    by_cases e : r = v
    · subst e
      rw [List.getElem?_set_self hrl] at hx
      cases hx
      exact ⟨rfl, rfl⟩
    · rw [List.getElem?_set_ne e, hn v hv] at hx
      cases hx
  refine ⟨by rw [List.length_set]; exact hl, fun v hv => ?_, .here hrl, fun v hv => ?_, fun v h x hx => ?_, fun g hg v h x hx => ?_⟩
  · exact List.getElem?_set_ne (fun e => by subst e; exact hv hr)
  · cases List.mem_singleton.mp hv
    exact ⟨hr, .here hrl⟩
  · exact .inl (by simp [(hv v h x hx).1])
  · obtain ⟨rfl, rfl⟩ := hv v h x hx
    omega
theorem Dfs.add (hw : w.Ok) (hp : Part w p) (d : Dfs w s p r F0 f q) {h u : Nat} {x : Int} (hq : h ∈ q) (hx : f[h]? = some (some x)) (a : w.adj h u = true) (hu : f[u]? = some none) : Dfs w s p r F0 (f.set u (some (x + stp s h u))) (q ++ [u]) := by
  have hpin := (d.inq h hq).1
  have hup := hp.on hw hpin a
  have hul := look_lt hu
  have old : ∀ v x', (f.set u (some (x + stp s h u)))[v]? = some (some x') → (v = u ∧ x' = x + stp s h u) ∨ (v ≠ u ∧ f[v]? = some (some x')) := fun v x' hv => by
    by_cases e : u = v
    · subst e
      rw [List.getElem?_set_self hul] at hv
      cases hv
      exact .inl ⟨rfl, rfl⟩
    · rw [List.getElem?_set_ne e] at hv
      exact .inr ⟨fun z => e z.symm, hv⟩
  have new : ∀ v y, f[v]? = some (some y) → (f.set u (some (x + stp s h u)))[v]? = some (some y) := fun v y hv => by
    rw [List.getElem?_set_ne (fun e => by subst e; rw [hu] at hv; cases hv)]
    exact hv
  refine ⟨by rw [List.length_set]; exact d.len, fun v hv => ?_, d.rt.set, fun v hv => ?_, fun v hv x' hx' => ?_, fun g hg v hv x' hx' => ?_⟩
  · rw [List.getElem?_set_ne (fun e => by subst e; exact hv hup)]
    exact d.out v hv
  · rcases List.mem_append.mp hv with m | m
    · exact ⟨(d.inq v m).1, (d.inq v m).2.set⟩
    · cases List.mem_singleton.mp m
      exact ⟨hup, .here hul⟩
  · rcases old v x' hx' with ⟨rfl, _⟩ | ⟨ne, e⟩
    · exact .inl (by simp)
    · rcases d.cls v hv x' e with m | m
      · exact .inl (List.mem_append_left _ m)
      · exact .inr fun t ht => new _ _ (m t ht)
  · rcases old v x' hx' with ⟨rfl, rfl⟩ | ⟨ne, e⟩
    · have h1 := d.ht g hg h hpin x hx
      have h2 := hg h v a
      omega
    · exact d.ht g hg v hv x' e
theorem Dfs.sub (d : Dfs w s p r F0 f q) {q' : List Nat} (hs : ∀ v, v ∈ q' → v ∈ q) (hd : ∀ v, v ∈ q → v ∈ q' ∨ ∀ x, f[v]? = some (some x) → ∀ u, w.adj v u = true → f[u]? = some (some (x + stp s v u))) : Dfs w s p r F0 f q' :=
  ⟨d.len, d.out, d.rt, fun v hv => d.inq v (hs v hv), fun v hv x hx => (d.cls v hv x hx).elim (fun m => (hd v m).elim .inl fun h => .inr (h x hx)) .inr, d.ht⟩
theorem Dfs.done (hp : Part w p) (hr : r ∈ p) (hw : w.Ok) (d : Dfs w s p r F0 f []) : Laid w s p F0 f := by
  have key : ∀ v, Reach w r v → v ∈ p ∧ Has f v := fun v h => by
    induction h with
    | here => exact ⟨hr, d.rt⟩
    | on _ e ih =>
      obtain ⟨h1, x, hx⟩ := ih
      refine ⟨hp.on hw h1 e, ?_⟩
      rcases d.cls _ h1 x hx with m | m
      · cases m
      · exact ⟨_, m _ e⟩
  exact ⟨d.len, d.out, fun v hv => (key v (hp.reach hr hv)).2, fun v hv x hx => (d.cls v hv x hx).elim (fun m => by cases m) id⟩
end
theorem heights_from_eq {w : Web} (hw : w.Ok) {s : List Int} (hs : StOk w.n s) {p : List Nat} (hp : Part w p) {r : Nat} (hr : r ∈ p) {F0 : List (Option Int)} (hl : F0.length = w.n) (hn : ∀ v ∈ p, F0[v]? = some none) :
    ∃ d b, f_heights_from [.fz (nearD w), .fz (stD s), .fz (natD r), .own (fD F0)] = .ok d b ∧ ∃ x f, d = .bool x ∧ b = [fD f] ∧ (x = true → Laid w s p F0 f) ∧ (x = false → ∀ g, ¬ Ht w s g) := by
  have hm := hw.most
  have hrn := hp.lt hr
  refine W.fn (P := fun d b => ∃ x f, d = .bool x ∧ b = [fD f] ∧ (x = true → Laid w s p F0 f) ∧ (x = false → ∀ g, ¬ Ht w s g)) rfl ?_
  unfold m_heights_from
  refine .seq (.nx (ρ' := [.fz (nearD w), .fz (stD s), .fz (natD r), .own (fD (F0.set r (some 0))), .own (.list ([r].map natD)), .no, .no, .no]) (by simp [fnM, ownIx, backs, sRet, sSeq, sIf, sSet, sOwn, sDo, sNil, sAsg, Rs.sr, mOp2, Opd.ev, Opd.fin, at_, Sl.val, Rs.then, mLit, mVar, mB, mAnd, mOr, mNot, bAnd, bOr, bNot, mIf, bYes, mTup, mLst, evm, evo, fino, mFn, mCall, eva, sls, ioIx, putBack, Arg.opd, iSeq, iRng, fR1, fR2, sFor, tmName, tmTup, tmSeq, mApp, mExt, mPutAt, dPutAt, mIsi, dTy, isB, dEq, dNe, dLt, dLe, dGt, dGe, dIsN, dNotN, dAdd, dSub, dMod, dFdiv, dMul, dAt, dLen, dInt, dTuple, dList, mChain, sPar, setP, sParT, asgP, asg1, fD, natD, ixN_nat, hl, hrn, optD, List.map_set]) ?_)
  have hc0 : nc (F0.set r (some 0)) ≤ w.n := by
    have := nc_le (F0.set r (some 0))
    rw [List.length_set, hl] at this
    exact this
  refine .seq (.whileM (fun m ρ => ∃ (f : List (Option Int)) (row : List Nat) (x y z : Sl), ρ = [.fz (nearD w), .fz (stD s), .fz (natD r), .own (fD f), .own (.list (row.map natD)), x, y, z] ∧ Dfs w s p r F0 f row ∧ m = row.length + nc f ∧ row.length + nc f ≤ 11) ?_ _ (1 + nc (F0.set r (some 0))) _ (by omega) ⟨_, [r], _, _, _, rfl, .init hl hn hr, rfl, by simp; omega⟩)
  rintro m _ ⟨f, row, x, y, z, rfl, df, rfl, hb⟩
  refine ⟨!row.isEmpty, [.fz (nearD w), .fz (stD s), .fz (natD r), .own (fD f), .own (.list (row.map natD)), x, y, z], by simp [fnM, ownIx, backs, sRet, sSeq, sIf, sSet, sOwn, sDo, sNil, sAsg, Rs.sr, mOp2, Opd.ev, Opd.fin, at_, Sl.val, Rs.then, mLit, mVar, mB, mAnd, mOr, mNot, bAnd, bOr, bNot, mIf, bYes, mTup, mLst, evm, evo, fino, mFn, mCall, eva, sls, ioIx, putBack, Arg.opd, iSeq, iRng, fR1, fR2, sFor, tmName, tmTup, tmSeq, mApp, mExt, mPutAt, dPutAt, mIsi, dTy, isB, dEq, dLt, dLe, dGt, dGe, dIsN, dNotN, dAdd, dSub, dMod, dFdiv, dMul, dAt, dLen, dInt, dTuple, dList, mChain, sPar, setP, ne_nil], fun hne => ?_, fun he => ?_⟩
  · rcases List.eq_nil_or_concat row with rfl | ⟨row', h, rfl⟩
    · cases hne
    rw [List.concat_eq_append] at df hb ⊢
    have hhp := (df.inq h (by simp)).1
    have hh := hp.lt hhp
    obtain ⟨xh, hxh⟩ := (df.inq h (by simp)).2
    refine .seq (.set' (d := natD h) (mPop_ok (l := row'.map natD) (by simp)) ?_)
    show W _ [.fz (nearD w), .fz (stD s), .fz (natD r), .own (fD f), .own (.list (row'.map natD)), .fz (natD h), y, z] _ _
    refine .forA (f := natD) (l := w.nbr h) (ρ0 := [.fz (nearD w), .fz (stD s), .fz (natD r), .own (fD f), .own (.list (row'.map natD)), .fz (natD h), y, z]) (fun j ρ => ∃ (f' : List (Option Int)) (row : List Nat) (y z : Sl), ρ = [.fz (nearD w), .fz (stD s), .fz (natD r), .own (fD f'), .own (.list (row.map natD)), .fz (natD h), y, z] ∧ Dfs w s p r F0 f' (row ++ [h]) ∧ row.length + nc f' = row'.length + nc f ∧ f'[h]? = some (some xh) ∧ ∀ u ∈ (w.nbr h).take j, f'[u]? = some (some (xh + stp s h u))) ?_ ⟨f, row', y, z, rfl, df, rfl, hxh, by simp⟩ ?_ ?_
    · have := near_at' hh
      simp [fnM, ownIx, backs, sRet, sSeq, sIf, sSet, sOwn, sDo, sNil, sAsg, Rs.sr, mOp2, Opd.ev, Opd.fin, at_, Sl.val, Rs.then, mLit, mVar, mB, mAnd, mOr, mNot, bAnd, bOr, bNot, mIf, bYes, mTup, mLst, evm, evo, fino, mFn, mCall, eva, sls, ioIx, putBack, Arg.opd, iSeq, iRng, fR1, fR2, sFor, tmName, tmTup, tmSeq, mApp, mExt, mPutAt, dPutAt, mIsi, dTy, isB, dEq, dNe, dLt, dLe, dGt, dGe, dIsN, dNotN, dAdd, dSub, dMod, dFdiv, dMul, dLen, dInt, dTuple, dList, mChain, sPar, setP, this]
    · rintro j u _ ej ⟨f1, row1, y, z, rfl, d1, c1, hx1, t1⟩
      have ha : w.adj h u = true := (Web.mem_nbr hw).mp (List.mem_of_getElem? ej)
      have hu : u < w.n := (Web.adj_lt hw ha).2.1
      have hup := hp.on hw hhp ha
      have htake : (w.nbr h).take (j + 1) = (w.nbr h).take j ++ [u] := by rw [List.take_add_one, ej]; rfl
      have es := step_eq (s := s) (a := h) (b := u) (by rw [hs.len]; exact hh) (by rw [hs.len]; exact hu)
      have hul : u < f1.length := by rw [d1.len]; exact hu
      refine .seq (.nx (ρ' := [.fz (nearD w), .fz (stD s), .fz (natD r), .own (fD f1), .own (.list (row1.map natD)), .fz (natD h), .fz (natD u), .fz (.int (xh + stp s h u))]) (by simp [fnM, ownIx, backs, sRet, sSeq, sIf, sSet, sOwn, sDo, sNil, sAsg, Rs.sr, mOp2, Opd.ev, Opd.fin, at_, Sl.val, Rs.then, mLit, mVar, mB, mAnd, mOr, mNot, bAnd, bOr, bNot, mIf, bYes, mTup, mLst, evm, evo, fino, mFn, mCall, eva, sls, ioIx, putBack, Arg.opd, iSeq, iRng, fR1, fR2, sFor, tmName, tmTup, tmSeq, mApp, mExt, mPutAt, dPutAt, mIsi, dTy, isB, dEq, dNe, dLt, dLe, dGt, dGe, dIsN, dNotN, dAdd, dSub, dMod, dFdiv, dMul, dLen, dInt, dTuple, dList, mChain, sPar, setP, fD_at, hx1, es, optD]) ?_)
      obtain ⟨o, eo⟩ : ∃ o, f1[u]? = some o := ⟨_, List.getElem?_eq_getElem hul⟩
      cases o with
      | none =>
        have hnc := nc_set (xh + stp s h u) eo
        refine .ifT (ρ1 := [.fz (nearD w), .fz (stD s), .fz (natD r), .own (fD f1), .own (.list (row1.map natD)), .fz (natD h), .fz (natD u), .fz (.int (xh + stp s h u))]) (by simp [fnM, ownIx, backs, sRet, sSeq, sIf, sSet, sOwn, sDo, sNil, sAsg, Rs.sr, mOp2, Opd.ev, Opd.fin, at_, Sl.val, Rs.then, mLit, mVar, mB, mAnd, mOr, mNot, bAnd, bOr, bNot, mIf, bYes, mTup, mLst, evm, evo, fino, mFn, mCall, eva, sls, ioIx, putBack, Arg.opd, iSeq, iRng, fR1, fR2, sFor, tmName, tmTup, tmSeq, mApp, mExt, mPutAt, dPutAt, mIsi, dTy, isB, dEq, dNe, dLt, dLe, dGt, dGe, dIsN, dNotN, dAdd, dSub, dMod, dFdiv, dMul, dLen, dInt, dTuple, dList, mChain, sPar, setP, fD_at, eo, optD]) ?_
        refine .seq (.nx (ρ' := [.fz (nearD w), .fz (stD s), .fz (natD r), .own (fD (f1.set u (some (xh + stp s h u)))), .own (.list (row1.map natD)), .fz (natD h), .fz (natD u), .fz (.int (xh + stp s h u))]) (by simp [fnM, ownIx, backs, sRet, sSeq, sIf, sSet, sOwn, sDo, sNil, sAsg, Rs.sr, mOp2, Opd.ev, Opd.fin, at_, Sl.val, Rs.then, mLit, mVar, mB, mAnd, mOr, mNot, bAnd, bOr, bNot, mIf, bYes, mTup, mLst, evm, evo, fino, mFn, mCall, eva, sls, ioIx, putBack, Arg.opd, iSeq, iRng, fR1, fR2, sFor, tmName, tmTup, tmSeq, mApp, mExt, mPutAt, dPutAt, mIsi, dTy, isB, dEq, dNe, dLt, dLe, dGt, dGe, dIsN, dNotN, dAdd, dSub, dMod, dFdiv, dMul, dAt, dLen, dInt, dTuple, dList, mChain, sPar, setP, fD, natD, ixN_nat, hul, optD, List.map_set]) ?_)
        refine .app rfl (d := natD u) (ρ' := [.fz (nearD w), .fz (stD s), .fz (natD r), .own (fD (f1.set u (some (xh + stp s h u)))), .own (.list (row1.map natD)), .fz (natD h), .fz (natD u), .fz (.int (xh + stp s h u))]) rfl rfl (by rw [List.length_map]; simp at hb; omega) ⟨f1.set u (some (xh + stp s h u)), row1 ++ [u], .fz (natD u), .fz (.int (xh + stp s h u)), by simp, ?_, ?_, ?_, ?_⟩
        · refine (d1.add hw hp (by simp) hx1 ha eo).sub (fun v hv => ?_) (fun v hv => ?_)
          · simp at hv ⊢; rcases hv with m | m | m <;> simp [m]
          · refine .inl ?_; simp at hv ⊢; rcases hv with m | m | m <;> simp [m]
        · simp; omega
        · rw [List.getElem?_set_ne (fun e => by subst e; rw [hx1] at eo; cases eo)]
          exact hx1
        · intro v hv
          rw [htake] at hv
          rcases List.mem_append.mp hv with m | m
          · have := t1 v m
            rw [List.getElem?_set_ne (fun e => by subst e; rw [this] at eo; cases eo)]
            exact this
          · cases List.mem_singleton.mp m
            exact List.getElem?_set_self hul
      | some o =>
        refine .ifF (ρ1 := [.fz (nearD w), .fz (stD s), .fz (natD r), .own (fD f1), .own (.list (row1.map natD)), .fz (natD h), .fz (natD u), .fz (.int (xh + stp s h u))]) (by simp [fnM, ownIx, backs, sRet, sSeq, sIf, sSet, sOwn, sDo, sNil, sAsg, Rs.sr, mOp2, Opd.ev, Opd.fin, at_, Sl.val, Rs.then, mLit, mVar, mB, mAnd, mOr, mNot, bAnd, bOr, bNot, mIf, bYes, mTup, mLst, evm, evo, fino, mFn, mCall, eva, sls, ioIx, putBack, Arg.opd, iSeq, iRng, fR1, fR2, sFor, tmName, tmTup, tmSeq, mApp, mExt, mPutAt, dPutAt, mIsi, dTy, isB, dEq, dNe, dLt, dLe, dGt, dGe, dIsN, dNotN, dAdd, dSub, dMod, dFdiv, dMul, dLen, dInt, dTuple, dList, mChain, sPar, setP, fD_at, eo, optD]) ?_
        by_cases e : o = xh + stp s h u
        · refine .ifF (ρ1 := [.fz (nearD w), .fz (stD s), .fz (natD r), .own (fD f1), .own (.list (row1.map natD)), .fz (natD h), .fz (natD u), .fz (.int (xh + stp s h u))]) ?_ (.nil ⟨f1, row1, _, _, rfl, d1, c1, hx1, fun v hv => ?_⟩)
          · have e1 : (mOp2 dAt (.sl 3) (.sl 6)) [.fz (nearD w), .fz (stD s), .fz (natD r), .own (fD f1), .own (.list (row1.map natD)), .fz (natD h), .fz (natD u), .fz (.int (xh + stp s h u))] = .ok (.int o) [.fz (nearD w), .fz (stD s), .fz (natD r), .own (fD f1), .own (.list (row1.map natD)), .fz (natD h), .fz (natD u), .fz (.int (xh + stp s h u))] := by simp [fnM, ownIx, backs, sRet, sSeq, sIf, sSet, sOwn, sDo, sNil, sAsg, Rs.sr, mOp2, Opd.ev, Opd.fin, at_, Sl.val, Rs.then, mLit, mVar, mB, mAnd, mOr, mNot, bAnd, bOr, bNot, mIf, bYes, mTup, mLst, evm, evo, fino, mFn, mCall, eva, sls, ioIx, putBack, Arg.opd, iSeq, iRng, fR1, fR2, sFor, tmName, tmTup, tmSeq, mApp, mExt, mPutAt, dPutAt, mIsi, dTy, isB, dEq, dNe, dLt, dLe, dGt, dGe, dIsN, dNotN, dAdd, dSub, dMod, dFdiv, dMul, dLen, dInt, dTuple, dList, mChain, sPar, setP, fD_at, eo, optD]
            unfold mB
            rw [op2_ok (ev_ex e1) rfl rfl rfl (ne_int o (xh + stp s h u))]
            simp [Rs.then, e]
          · rw [htake] at hv
            rcases List.mem_append.mp hv with m | m
            · exact t1 v m
            · cases List.mem_singleton.mp m
              rw [eo, e]
        · refine .ifT (ρ1 := [.fz (nearD w), .fz (stD s), .fz (natD r), .own (fD f1), .own (.list (row1.map natD)), .fz (natD h), .fz (natD u), .fz (.int (xh + stp s h u))]) ?_ ?_
          · have e1 : (mOp2 dAt (.sl 3) (.sl 6)) [.fz (nearD w), .fz (stD s), .fz (natD r), .own (fD f1), .own (.list (row1.map natD)), .fz (natD h), .fz (natD u), .fz (.int (xh + stp s h u))] = .ok (.int o) [.fz (nearD w), .fz (stD s), .fz (natD r), .own (fD f1), .own (.list (row1.map natD)), .fz (natD h), .fz (natD u), .fz (.int (xh + stp s h u))] := by simp [fnM, ownIx, backs, sRet, sSeq, sIf, sSet, sOwn, sDo, sNil, sAsg, Rs.sr, mOp2, Opd.ev, Opd.fin, at_, Sl.val, Rs.then, mLit, mVar, mB, mAnd, mOr, mNot, bAnd, bOr, bNot, mIf, bYes, mTup, mLst, evm, evo, fino, mFn, mCall, eva, sls, ioIx, putBack, Arg.opd, iSeq, iRng, fR1, fR2, sFor, tmName, tmTup, tmSeq, mApp, mExt, mPutAt, dPutAt, mIsi, dTy, isB, dEq, dNe, dLt, dLe, dGt, dGe, dIsN, dNotN, dAdd, dSub, dMod, dFdiv, dMul, dLen, dInt, dTuple, dList, mChain, sPar, setP, fD_at, eo, optD]
            unfold mB
            rw [op2_ok (ev_ex e1) rfl rfl rfl (ne_int o (xh + stp s h u))]
            simp [Rs.then, e]
          · refine .rt (d := .bool false) (ρ' := [.fz (nearD w), .fz (stD s), .fz (natD r), .own (fD f1), .own (.list (row1.map natD)), .fz (natD h), .fz (natD u), .fz (.int (xh + stp s h u))]) rfl ⟨_, rfl, false, f1, rfl, rfl, by simp, fun _ g hg => ?_⟩
            have h1 := d1.ht g hg h hhp xh hx1
            have h2 := d1.ht g hg u hup o eo
            have h3 := hg h u ha
            omega
    · rintro _ ⟨f1, row1, y, z, rfl, d1, c1, hx1, t1⟩
      rw [List.take_length] at t1
      refine ⟨_, ?_, f1, row1, _, _, _, rfl, d1.sub (fun v hv => by simp [hv]) (fun v hv => ?_), rfl, by simp at hb; omega⟩
      · simp; omega
      · rcases List.mem_append.mp hv with m | m
        · exact .inl m
        · cases List.mem_singleton.mp m
          refine .inr fun x' hx' u hu => ?_
          rw [hx1] at hx'
          cases hx'
          exact t1 u ((Web.mem_nbr hw).mpr hu)
  · have : row = [] := by cases row with
      | nil => rfl
      | cons a l => cases he
    subst this
    exact .ret (d := .bool true) rfl ⟨_, rfl, true, f, rfl, rfl, fun _ => df.done hp hr hw, by simp⟩

set_option autoImplicit false
theorem list_max : ∀ {l : List Int}, l ≠ [] → ∃ m, m ∈ l ∧ ∀ y ∈ l, y ≤ m
  | [], h => (h rfl).elim
  | [a], _ => ⟨a, by simp, by simp⟩
  | a :: b :: l, _ => by
    obtain ⟨m, h1, h2⟩ := list_max (l := b :: l) (by simp)
    by_cases e : a ≤ m
    · exact ⟨m, List.mem_cons_of_mem _ h1, fun y hy => by
        rcases List.mem_cons.mp hy with rfl | hy
        · exact e
        · exact h2 y hy⟩
    · exact ⟨a, List.mem_cons_self, fun y hy => by
        rcases List.mem_cons.mp hy with rfl | hy
        · exact Int.le_refl _
        · have := h2 y hy; omega⟩
theorem maxI_of {l : List Int} {m : Int} (h : m ∈ l) (h2 : ∀ y ∈ l, y ≤ m) : maxI l = some m := by
  cases l with
  | nil => cases h
  | cons a l =>
    show some (l.foldl max a) = _
    rw [foldl_max_of l a m h h2]
theorem tup_0 (r : Nat) (p : List Nat) : dAt (tupN (r :: p)) (.int 0) = some (natD r) := by
  show atI _ 0 = _
  rw [atI_0]
  rfl
def valF (f : List (Option Int)) (v : Nat) : Int := (f[v]?.getD none).getD 0
theorem valF_eq {f : List (Option Int)} {v : Nat} {x : Int} (h : f[v]? = some (some x)) : valF f v = x := by
  unfold valF
  rw [h]
  rfl
theorem Has.val {f : List (Option Int)} {v : Nat} (h : Has f v) : f[v]? = some (some (valF f v)) := by
  obtain ⟨x, hx⟩ := h
  rw [valF_eq hx, hx]
/-- a part whose greatest height is 0 -/
structure Top (w : Web) (s : List Int) (p : List Nat) (f : List (Option Int)) : Prop where
  has : ∀ v ∈ p, ∃ x, f[v]? = some (some x) ∧ x ≤ 0
  top : ∃ v ∈ p, f[v]? = some (some 0)
  on : ∀ v ∈ p, ∀ x, f[v]? = some (some x) → ∀ u, w.adj v u = true → f[u]? = some (some (x + stp s v u))
theorem Top.same {w : Web} (hw : w.Ok) {s : List Int} {p : List Nat} {f f' : List (Option Int)} (hp : Part w p) (h : Top w s p f) (e : ∀ v ∈ p, f'[v]? = f[v]?) : Top w s p f' :=
  ⟨fun v hv => by rw [e v hv]; exact h.has v hv, by obtain ⟨v, hv, h⟩ := h.top; exact ⟨v, hv, by rw [e v hv]; exact h⟩, fun v hv x hx u hu => by
    rw [e v hv] at hx
    rw [e u (hp.on hw hv hu)]
    exact h.on v hv x hx u hu⟩
/-- the loop that lowers a part -/
theorem lower {w : Web} {s : List Int} (x2 x5 : Sl) {p : List Nat} {f : List (Option Int)} {M : Int} (hn : p.Nodup) (hf : ∀ v ∈ p, Has f v) {R : D → Env → Prop} {N : Env → Prop} (x6 : Sl) (hx6 : ∀ d, x6 ≠ .own d)
    (h : ∀ f' x6, f'.length = f.length → (∀ v, v ∉ p → f'[v]? = f[v]?) → (∀ v ∈ p, f'[v]? = some (some (valF f v - M))) → (∀ d, x6 ≠ .own d) → N [.fz (webD w), .fz (stD s), x2, .own (fD f'), .fz (tupN p), .fz (.int M), x6]) :
    W (sFor (iSeq (mVar 4)) (tmName 6) (sAsg (mOp2 dSub (.ex (mOp2 dAt (.sl 3) (.sl 6))) (.sl 5)) (mPutAt 3 (.sl 6)))) [.fz (webD w), .fz (stD s), x2, .own (fD f), .fz (tupN p), .fz (.int M), x6] N R := by
  refine .forA (f := natD) (l := p) (ρ0 := [.fz (webD w), .fz (stD s), x2, .own (fD f), .fz (tupN p), .fz (.int M), x6]) (fun j ρ => ∃ (f' : List (Option Int)) (x6 : Sl), ρ = [.fz (webD w), .fz (stD s), x2, .own (fD f'), .fz (tupN p), .fz (.int M), x6] ∧ f'.length = f.length ∧ (∀ v, v ∉ p.take j → f'[v]? = f[v]?) ∧ (∀ v ∈ p.take j, f'[v]? = some (some (valF f v - M))) ∧ ∀ d, x6 ≠ .own d) (by simp [fnM, ownIx, backs, sRet, sSeq, sIf, sSet, sOwn, sDo, sNil, sAsg, Rs.sr, mOp2, Opd.ev, Opd.fin, at_, Sl.val, Rs.then, mLit, mVar, mB, mAnd, mOr, mNot, bAnd, bOr, bNot, mIf, bYes, mTup, mLst, evm, evo, fino, mFn, mCall, eva, sls, ioIx, putBack, Arg.opd, iSeq, iRng, fR1, fR2, sFor, tmName, tmTup, tmSeq, mApp, mExt, mPutAt, dPutAt, mIsi, dTy, isB, dEq, dNe, dLt, dLe, dGt, dGe, dIsN, dNotN, dAdd, dSub, dMod, dFdiv, dMul, dAt, dLen, dInt, dTuple, dList, mChain, sPar, setP, tupN]) ⟨f, x6, rfl, rfl, fun _ _ => rfl, by simp, hx6⟩ ?_ ?_
  · rintro j a _ ej ⟨f1, x6, rfl, l1, o1, t1, _⟩
    have hj := look_lt ej
    have htake : p.take (j + 1) = p.take j ++ [a] := by rw [List.take_add_one, ej]; rfl
    have hap : a ∈ p := List.mem_of_getElem? ej
    have hnot : a ∉ p.take j := by
      have hn' : (p.take (j + 1)).Nodup := hn.sublist (List.take_sublist _ _)
      rw [htake, List.nodup_append] at hn'
      exact fun m => hn'.2.2 a m a (by simp) rfl
    have ea : f1[a]? = some (some (valF f a)) := by rw [o1 a hnot]; exact (hf a hap).val
    have hal : a < f1.length := look_lt ea
    refine .nx (ρ' := [.fz (webD w), .fz (stD s), x2, .own (fD (f1.set a (some (valF f a - M)))), .fz (tupN p), .fz (.int M), .fz (natD a)]) ?_ ⟨_, _, rfl, by rw [List.length_set]; exact l1, fun v hv => ?_, fun v hv => ?_, by simp⟩
    · have e1 : (mOp2 dSub (.ex (mOp2 dAt (.sl 3) (.sl 6))) (.sl 5)) [.fz (webD w), .fz (stD s), x2, .own (fD f1), .fz (tupN p), .fz (.int M), .fz (natD a)] = .ok (.int (valF f a - M)) [.fz (webD w), .fz (stD s), x2, .own (fD f1), .fz (tupN p), .fz (.int M), .fz (natD a)] := by simp [fnM, ownIx, backs, sRet, sSeq, sIf, sSet, sOwn, sDo, sNil, sAsg, Rs.sr, mOp2, Opd.ev, Opd.fin, at_, Sl.val, Rs.then, mLit, mVar, mB, mAnd, mOr, mNot, bAnd, bOr, bNot, mIf, bYes, mTup, mLst, evm, evo, fino, mFn, mCall, eva, sls, ioIx, putBack, Arg.opd, iSeq, iRng, fR1, fR2, sFor, tmName, tmTup, tmSeq, mApp, mExt, mPutAt, dPutAt, mIsi, dTy, isB, dEq, dNe, dLt, dLe, dGt, dGe, dIsN, dNotN, dAdd, dSub, dMod, dFdiv, dMul, dLen, dInt, dTuple, dList, mChain, sPar, setP, fD_at, ea, optD]
      show sAsg _ _ [.fz (webD w), .fz (stD s), x2, .own (fD f1), .fz (tupN p), .fz (.int M), .fz (natD a)] = _
      unfold sAsg
      rw [e1]
      simp [fnM, ownIx, backs, sRet, sSeq, sIf, sSet, sOwn, sDo, sNil, sAsg, Rs.sr, mOp2, Opd.ev, Opd.fin, at_, Sl.val, Rs.then, mLit, mVar, mB, mAnd, mOr, mNot, bAnd, bOr, bNot, mIf, bYes, mTup, mLst, evm, evo, fino, mFn, mCall, eva, sls, ioIx, putBack, Arg.opd, iSeq, iRng, fR1, fR2, sFor, tmName, tmTup, tmSeq, mApp, mExt, mPutAt, dPutAt, mIsi, dTy, isB, dEq, dNe, dLt, dLe, dGt, dGe, dIsN, dNotN, dAdd, dSub, dMod, dFdiv, dMul, dAt, dLen, dInt, dTuple, dList, mChain, sPar, setP, fD, natD, ixN_nat, hal, optD, List.map_set]
    · rw [htake] at hv
      have hv1 : v ∉ p.take j := fun m => hv (List.mem_append_left _ m)
      have hv2 : a ≠ v := fun e => hv (by simp [e])
      rw [List.getElem?_set_ne hv2]
      exact o1 v hv1
    · rw [htake] at hv
      rcases List.mem_append.mp hv with m | m
      · rw [List.getElem?_set_ne (fun e => hnot (by rw [e]; exact m))]
        exact t1 v m
      · cases List.mem_singleton.mp m
        exact List.getElem?_set_self hal
  · rintro _ ⟨f1, x6, rfl, l1, o1, t1, n1⟩
    rw [List.take_length] at o1 t1
    exact h f1 x6 l1 o1 t1 n1
theorem heights_in_eq {w : Web} (hw : w.Ok) {s : List Int} (hs : StOk w.n s) : ∃ d, f_heights_in [.fz (webD w), .fz (stD s)] = .ok d [] ∧ ((d = .none ∧ ∀ g, ¬ Ht w s g) ∨ ∃ f, d = fD f ∧ f.length = w.n ∧ (∀ v, v < w.n → Has f v) ∧ Tops w s (valF f)) := by
  have hm := hw.most
  obtain ⟨_, ep, ps, rfl, hps⟩ := parts_eq hw
  refine W.fnP (P := fun d => (d = .none ∧ ∀ g, ¬ Ht w s g) ∨ ∃ f, d = fD f ∧ f.length = w.n ∧ (∀ v, v < w.n → Has f v) ∧ Tops w s (valF f)) rfl ?_
  unfold m_heights_in
  have e0 : mCall f_near_lists [.v (mVar 0)] [.fz (webD w), .fz (stD s), .no, .no, .no, .no, .no] = .ok (nearD w) [.fz (webD w), .fz (stD s), .no, .no, .no, .no, .no] := mCall_0 (xs := [some (webD w)]) (ss := [.fz (webD w)]) rfl rfl (near_eq hw)
  have e1 : mOp2 dRep (.ex (mLst [mLit .none])) (.ex (mOp2 dAt (.sl 0) (.ex (mLit (.int 0))))) [.fz (webD w), .fz (stD s), .no, .no, .no, .no, .no] = .ok (fD (List.replicate w.n none)) [.fz (webD w), .fz (stD s), .no, .no, .no, .no, .no] :=
    op2_ok (x1 := some (.list [.none])) (x2 := some (.int w.n)) (ρ1 := [.fz (webD w), .fz (stD s), .no, .no, .no, .no, .no]) rfl rfl rfl rfl (rep_none hm)
  refine .seq (.nx (ρ' := [.fz (webD w), .fz (stD s), .fz (nearD w), .own (fD (List.replicate w.n none)), .no, .no, .no]) ?_ ?_)
  · unfold sParT
    show Rs.sr (evm [mCall f_near_lists [.v (mVar 0)], mOp2 dRep (.ex (mLst [mLit .none])) (.ex (mOp2 dAt (.sl 0) (.ex (mLit (.int 0)))))] [.fz (webD w), .fz (stD s), .no, .no, .no, .no, .no]) _ = _
    rw [evm_cons e0 (evm_cons e1 rfl)]
    rfl
  have e2 : iSeq (mCall f_parts_of [.v (mVar 0)]) [.fz (webD w), .fz (stD s), .fz (nearD w), .own (fD (List.replicate w.n none)), .no, .no, .no] = .ok (ps.map tupN) [.fz (webD w), .fz (stD s), .fz (nearD w), .own (fD (List.replicate w.n none)), .no, .no, .no] := by
    unfold iSeq
    rw [mCall_0 (ρ1 := [.fz (webD w), .fz (stD s), .fz (nearD w), .own (fD (List.replicate w.n none)), .no, .no, .no]) (xs := [some (webD w)]) (ss := [.fz (webD w)]) rfl rfl ep]
    rfl
  refine .seq (.forA (f := tupN) (l := ps) (fun k ρ => ∃ (f : List (Option Int)) (x4 x5 x6 : Sl), ρ = [.fz (webD w), .fz (stD s), .fz (nearD w), .own (fD f), x4, x5, x6] ∧ f.length = w.n ∧ (∀ i, k ≤ i → ∀ p, ps[i]? = some p → ∀ v ∈ p, f[v]? = some none) ∧ (∀ i, i < k → ∀ p, ps[i]? = some p → Top w s p f) ∧ (∀ d, x6 ≠ .own d)) e2 ⟨List.replicate w.n none, .no, .no, .no, rfl, by simp, fun i _ p hp v hv => ?_, fun i h => by omega, by simp⟩ ?_ ?_)
  · have := (hps.part p (List.mem_of_getElem? hp)).lt hv
    rw [List.getElem?_replicate, if_pos this]
  · rintro k p _ ek ⟨f, x4, x5, x6, rfl, lf, hno, hyes, hx6⟩
    have hp := hps.part p (List.mem_of_getElem? ek)
    have hdis : ∀ i q, i ≠ k → ps[i]? = some q → ∀ v ∈ q, v ∉ p := fun i q hi hq v hv hv' => by
      have hd := List.pairwise_iff_getElem.mp hps.dis
      obtain ⟨h1, h2⟩ := List.getElem?_eq_some_iff.mp hq
      obtain ⟨h3, h4⟩ := List.getElem?_eq_some_iff.mp ek
      rcases Nat.lt_or_gt_of_ne hi with c | c
      · have := hd i k h1 h3 c v
        rw [h2, h4] at this
        exact this hv hv'
      · have := hd k i h3 h1 c v
        rw [h2, h4] at this
        exact this hv' hv
    obtain ⟨r, p', hpr⟩ := List.exists_cons_of_ne_nil hp.ne
    have hr : r ∈ p := by rw [hpr]; simp
    obtain ⟨_, _, eh, x, f1, rfl, rfl, h1, h2⟩ := heights_from_eq hw hs hp hr lf (hno k (Nat.le_refl _) p ek)
    have e3 : mCall f_heights_from [.v (mVar 2), .v (mVar 1), .v (mOp2 dAt (.sl 4) (.ex (mLit (.int 0)))), .io 3] [.fz (webD w), .fz (stD s), .fz (nearD w), .own (fD f), .fz (tupN p), x5, x6] = .ok (.bool x) [.fz (webD w), .fz (stD s), .fz (nearD w), .own (fD f1), .fz (tupN p), x5, x6] := by
      refine mCall_ok (ρ1 := [.fz (webD w), .fz (stD s), .fz (nearD w), .own (fD f), .fz (tupN p), x5, x6]) (xs := [some (nearD w), some (stD s), some (natD r), none]) ?_ rfl eh
      rw [hpr]
      simp [fnM, ownIx, backs, sRet, sSeq, sIf, sSet, sOwn, sDo, sNil, sAsg, Rs.sr, mOp2, Opd.ev, Opd.fin, at_, Sl.val, Rs.then, mLit, mVar, mB, mAnd, mOr, mNot, bAnd, bOr, bNot, mIf, bYes, mTup, mLst, evm, evo, fino, mFn, mCall, eva, sls, ioIx, putBack, Arg.opd, iSeq, iRng, fR1, fR2, sFor, tmName, tmTup, tmSeq, mApp, mExt, mPutAt, dPutAt, mIsi, dTy, isB, dEq, dNe, dLt, dLe, dGt, dGe, dIsN, dNotN, dAdd, dSub, dMod, dFdiv, dMul, dLen, dInt, dTuple, dList, mChain, sPar, setP, tup_0]
    cases x with
    | false =>
      refine .seq (.ifT (ρ1 := [.fz (webD w), .fz (stD s), .fz (nearD w), .own (fD f1), .fz (tupN p), x5, x6]) ?_ (.rt (d := .none) (ρ' := [.fz (webD w), .fz (stD s), .fz (nearD w), .own (fD f1), .fz (tupN p), x5, x6]) rfl (.inl ⟨rfl, h2 rfl⟩)))
      unfold bNot mB
      show (Rs.then (Rs.then (mCall _ _ [.fz (webD w), .fz (stD s), .fz (nearD w), .own (fD f), .fz (tupN p), x5, x6]) _) _) = _
      rw [e3]
      rfl
    | true =>
      have hL := h1 rfl
      refine .seq (.ifF (ρ1 := [.fz (webD w), .fz (stD s), .fz (nearD w), .own (fD f1), .fz (tupN p), x5, x6]) ?_ (.nil ?_))
      · unfold bNot mB
        show (Rs.then (Rs.then (mCall _ _ [.fz (webD w), .fz (stD s), .fz (nearD w), .own (fD f), .fz (tupN p), x5, x6]) _) _) = _
        rw [e3]
        rfl
      obtain ⟨M, hM1, hM2⟩ := list_max (l := p.map (valF f1)) (by rw [hpr]; simp)
      have e4 := mComp_of (f := natD) (i := 6) (it := iSeq (mVar 4)) (cd := bYes) (elt := mOp2 dAt (.sl 3) (.sl 6)) (fun _ => true) (fun v => .int (valF f1 v)) (ρ := [.fz (webD w), .fz (stD s), .fz (nearD w), .own (fD f1), .fz (tupN p), x5, x6]) (ρ1 := [.fz (webD w), .fz (stD s), .fz (nearD w), .own (fD f1), .fz (tupN p), x5, x6]) (ds := p)
        (by simp [fnM, ownIx, backs, sRet, sSeq, sIf, sSet, sOwn, sDo, sNil, sAsg, Rs.sr, mOp2, Opd.ev, Opd.fin, at_, Sl.val, Rs.then, mLit, mVar, mB, mAnd, mOr, mNot, bAnd, bOr, bNot, mIf, bYes, mTup, mLst, evm, evo, fino, mFn, mCall, eva, sls, ioIx, putBack, Arg.opd, iSeq, iRng, fR1, fR2, sFor, tmName, tmTup, tmSeq, mApp, mExt, mPutAt, dPutAt, mIsi, dTy, isB, dEq, dNe, dLt, dLe, dGt, dGe, dIsN, dNotN, dAdd, dSub, dMod, dFdiv, dMul, dAt, dLen, dInt, dTuple, dList, mChain, sPar, setP, tupN]) ⟨x6, rfl, hx6⟩ (fun j hj => by simp [bYes]) (fun j hj _ => by simp [fnM, ownIx, backs, sRet, sSeq, sIf, sSet, sOwn, sDo, sNil, sAsg, Rs.sr, mOp2, Opd.ev, Opd.fin, at_, Sl.val, Rs.then, mLit, mVar, mB, mAnd, mOr, mNot, bAnd, bOr, bNot, mIf, bYes, mTup, mLst, evm, evo, fino, mFn, mCall, eva, sls, ioIx, putBack, Arg.opd, iSeq, iRng, fR1, fR2, sFor, tmName, tmTup, tmSeq, mApp, mExt, mPutAt, dPutAt, mIsi, dTy, isB, dEq, dNe, dLt, dLe, dGt, dGe, dIsN, dNotN, dAdd, dSub, dMod, dFdiv, dMul, dLen, dInt, dTuple, dList, mChain, sPar, setP, fD_at, (hL.has j hj).val, optD]) (by have := hp.len; omega)
      rw [List.filter_eq_self.mpr (fun _ _ => rfl)] at e4
      have e5 : dFold maxI [.list (p.map fun v => .int (valF f1 v))] = some (.int M) := by
        show ((dInts (p.map fun v => PyData.int (valF f1 v))).bind maxI).map PyData.int = _
        rw [show (p.map fun v => PyData.int (valF f1 v)) = (p.map (valF f1)).map PyData.int by rw [List.map_map]; rfl, dInts_of]
        show (maxI (p.map (valF f1))).map PyData.int = _
        rw [maxI_of hM1 hM2]
        rfl
      refine .seq (.set' (mFn_1 e4 e5) ?_)
      refine lower (w := w) (s := s) (.fz (nearD w)) x5 hp.nd hL.has x6 hx6 fun f2 y6 l2 o2 t2 n2 => ?_
      refine ⟨f2, .fz (tupN p), .fz (.int M), y6, rfl, by rw [l2]; exact hL.len, fun i hi q hq v hv => ?_, fun i hi q hq => ?_, n2⟩
      · have hne := hdis i q (by omega) hq v hv
        rw [o2 v hne, hL.out v hne]
        exact hno i (by omega) q hq v hv
      · by_cases e : i = k
        · subst e
          rw [ek] at hq
          cases hq
          refine ⟨fun v hv => ⟨_, t2 v hv, ?_⟩, ?_, fun v hv x hx u hu => ?_⟩
          · have := hM2 (valF f1 v) (List.mem_map_of_mem hv)
            omega
          · obtain ⟨v, hv, e⟩ := List.mem_map.mp hM1
            exact ⟨v, hv, by rw [t2 v hv, e, Int.sub_self]⟩
          · rw [t2 v hv] at hx
            cases hx
            rw [t2 u (hp.on hw hv hu), valF_eq (hL.on v hv _ (hL.has v hv).val u hu), show valF f1 v + stp s v u - M = valF f1 v - M + stp s v u by omega]
        · refine (hyes i (by omega) q hq).same hw (hps.part q (List.mem_of_getElem? hq)) fun v hv => ?_
          have hne := hdis i q e hq v hv
          rw [o2 v hne, hL.out v hne]
  · rintro _ ⟨f, x4, x5, x6, rfl, lf, hno, hyes, hx6⟩
    have hin : ∀ v, v < w.n → ∃ p, Part w p ∧ v ∈ p ∧ Top w s p f := fun v hv => by
      obtain ⟨p, hp, hv⟩ := hps.cover v hv
      obtain ⟨i, hi, e⟩ := List.getElem_of_mem hp
      exact ⟨p, hps.part p hp, hv, hyes i hi p (by rw [List.getElem?_eq_getElem hi, e])⟩
    have hHas : ∀ v, v < w.n → Has f v := fun v hv => by
      obtain ⟨p, _, hv, ht⟩ := hin v hv
      obtain ⟨x, hx, _⟩ := ht.has v hv
      exact ⟨x, hx⟩
    refine .ret (d := fD f) (ρ' := [.fz (webD w), .fz (stD s), .fz (nearD w), .fz (fD f), x4, x5, x6]) rfl (.inr ⟨f, rfl, lf, hHas, fun a b hab => ?_, fun v hv => ?_, fun v hv => ?_⟩)
    · have ha := (Web.adj_lt hw hab).1
      obtain ⟨p, hp, ha, ht⟩ := hin a ha
      rw [valF_eq (ht.on a ha _ (hHas a (hp.lt ha)).val b hab)]
      omega
    · obtain ⟨p, hp, hv, ht⟩ := hin v hv
      obtain ⟨x, hx, hx0⟩ := ht.has v hv
      rw [valF_eq hx]
      exact hx0
    · obtain ⟨p, hp, hv, ht⟩ := hin v hv
      obtain ⟨u, hu, e⟩ := ht.top
      exact ⟨u, hp.lt hu, hp.reach hv hu, valF_eq e⟩

set_option autoImplicit false
theorem mB_ok {m : ME} {ρ ρ' : Env} {b : Bool} (h : m ρ = .ok (.bool b) ρ') : mB m ρ = .ok b ρ' := by
  unfold mB
  rw [h]
  rfl
theorem bNot_ok {m : MB} {ρ ρ' : Env} {b : Bool} (h : m ρ = .ok b ρ') : bNot m ρ = .ok (!b) ρ' := by
  unfold bNot
  rw [h]
  rfl
theorem bOr_F {m n : MB} {ρ ρ1 ρ2 : Env} {b : Bool} (h : m ρ = .ok false ρ1) (h2 : n ρ1 = .ok b ρ2) : bOr m n ρ = .ok b ρ2 := by
  unfold bOr
  rw [h]
  exact h2
theorem bOr_T {m n : MB} {ρ ρ1 : Env} (h : m ρ = .ok true ρ1) : bOr m n ρ = .ok true ρ1 := by
  unfold bOr
  rw [h]
  rfl
theorem bAnd_T {m n : MB} {ρ ρ1 ρ2 : Env} {b : Bool} (h : m ρ = .ok true ρ1) (h2 : n ρ1 = .ok b ρ2) : bAnd m n ρ = .ok b ρ2 := by
  unfold bAnd
  rw [h]
  exact h2
theorem bAnd_F {m n : MB} {ρ ρ1 : Env} (h : m ρ = .ok false ρ1) : bAnd m n ρ = .ok false ρ1 := by
  unfold bAnd
  rw [h]
  rfl
theorem mAnd_T {m n : ME} {ρ ρ1 ρ2 : Env} {d : D} (h : m ρ = .ok (.bool true) ρ1) (h2 : n ρ1 = .ok d ρ2) : mAnd m n ρ = .ok d ρ2 := by
  unfold mAnd
  rw [h]
  exact h2
theorem isi_ok {Ts : List String} {o : Opd} {ρ ρ' : Env} {x : Option D} {t : String} (h : o.ev ρ = .ok x ρ') (h2 : (o.fin x ρ').bind dTy = some t) : mIsi Ts o ρ = .ok (.bool (Ts.any fun T => isB t T)) ρ' := by
  unfold mIsi
  rw [h]
  simp only [Rs.then, h2]
theorem num_int (i a b : Int) : f_is_number [.fz (.int i), .fz (.int a), .fz (.int b)] = .ok (.bool (decide (a ≤ i) && decide (i ≤ b))) [] := by
  unfold f_is_number
  by_cases h : a ≤ i
  · exact fn_rt (ρ := [.fz (.int i), .fz (.int a), .fz (.int b)]) rfl (by simp [m_is_number, fnM, ownIx, backs, sRet, sSeq, sIf, sSet, sOwn, sDo, sNil, sAsg, Rs.sr, mOp2, Opd.ev, Opd.fin, at_, Sl.val, Rs.then, mLit, mVar, mB, mAnd, mOr, mNot, bAnd, bOr, bNot, mIf, bYes, mTup, mLst, evm, evo, fino, mFn, mCall, eva, sls, ioIx, putBack, Arg.opd, iSeq, iRng, fR1, fR2, sFor, tmName, tmTup, tmSeq, mApp, mExt, mPutAt, dPutAt, mIsi, dTy, isB, dEq, dNe, dLt, dLe, dGt, dGe, dIsN, dNotN, dAdd, dSub, dMod, dFdiv, dMul, dAt, dLen, dInt, dTuple, dList, mChain, sPar, setP, h]) rfl
  · exact fn_rt (ρ := [.fz (.int i), .fz (.int a), .fz (.int b)]) rfl (by simp [m_is_number, fnM, ownIx, backs, sRet, sSeq, sIf, sSet, sOwn, sDo, sNil, sAsg, Rs.sr, mOp2, Opd.ev, Opd.fin, at_, Sl.val, Rs.then, mLit, mVar, mB, mAnd, mOr, mNot, bAnd, bOr, bNot, mIf, bYes, mTup, mLst, evm, evo, fino, mFn, mCall, eva, sls, ioIx, putBack, Arg.opd, iSeq, iRng, fR1, fR2, sFor, tmName, tmTup, tmSeq, mApp, mExt, mPutAt, dPutAt, mIsi, dTy, isB, dEq, dNe, dLt, dLe, dGt, dGe, dIsN, dNotN, dAdd, dSub, dMod, dFdiv, dMul, dAt, dLen, dInt, dTuple, dList, mChain, sPar, setP, h]) rfl
theorem ge_pair {p q : Nat × Nat} (h : lexN p q) : dGe (pairN p) (pairN q) = some (.bool false) := by
  show some (PyData.bool (geI [(p.1 : Int), (p.2 : Int)] [(q.1 : Int), (q.2 : Int)])) = _
  congr 2
  unfold lexN at h
  by_cases e : (p.1 : Int) = q.1
  · simp only [geI, e, if_true]
    rw [if_neg (by omega)]
    exact decide_eq_false (by omega)
  · simp only [geI]
    rw [if_neg e]
    exact decide_eq_false (by omega)
theorem street_ok {w : Web} (hw : w.Ok) {e : Nat × Nat} (h : e ∈ w.es) : f_is_street [.fz (.int w.n), .fz (pairN e)] = .ok (.bool true) [] := by
  obtain ⟨h1, h2⟩ := hw.inn e h
  obtain ⟨a, b⟩ := e
  have e0 : f_is_number [.fz (.int a), .fz (.int 0), .fz (.int ((w.n : Int) - 1))] = .ok (.bool true) [] := by
    rw [num_int, decide_eq_true (by omega : (0 : Int) ≤ a), decide_eq_true (by simp only at h1 h2; omega : (a : Int) ≤ w.n - 1)]
    rfl
  have e1 : f_is_number [.fz (.int b), .fz (.int ((a : Int) + 1)), .fz (.int ((w.n : Int) - 1))] = .ok (.bool true) [] := by
    rw [num_int, decide_eq_true (by simp only at h1 h2; omega : (a : Int) + 1 ≤ b), decide_eq_true (by simp only at h1 h2; omega : (b : Int) ≤ w.n - 1)]
    rfl
  have d0 : dAt (pairN (a, b)) (.int 0) = some (.int a) := rfl
  have d1 : dAt (pairN (a, b)) (.int 1) = some (.int b) := rfl
  have t : dTy (pairN (a, b)) = some "tuple" := rfl
  have l : dLen [pairN (a, b)] = some (.int 2) := rfl
  have n2 : dNe (.int 2) (.int 2) = some (.bool false) := ne_int 2 2
  refine W.fn0 rfl ?_
  unfold m_is_street
  refine .seq (.ifF (ρ1 := [.fz (.int w.n), .fz (pairN (a, b))]) ?_ (.nil ?_))
  · have i0 : mIsi ["tuple"] (.sl 1) [.fz (.int w.n), .fz (pairN (a, b))] = .ok (.bool true) [.fz (.int w.n), .fz (pairN (a, b))] := isi_ok (x := none) (t := "tuple") rfl rfl
    have i1 : mOp2 dNe (.ex (mFn dLen [.sl 1])) (.ex (mLit (.int 2))) [.fz (.int w.n), .fz (pairN (a, b))] = .ok (.bool false) [.fz (.int w.n), .fz (pairN (a, b))] := op2_ok (x1 := some (.int 2)) (x2 := some (.int 2)) (ρ1 := [.fz (.int w.n), .fz (pairN (a, b))]) rfl rfl rfl rfl n2
    refine bOr_F (bNot_ok (mB_ok i0)) (bOr_F (mB_ok i1) (bNot_ok (b := true) (mB_ok ?_)))
    simp [fnM, ownIx, backs, sRet, sSeq, sIf, sSet, sOwn, sDo, sNil, sAsg, Rs.sr, mOp2, Opd.ev, Opd.fin, at_, Sl.val, Rs.then, mLit, mVar, mB, mAnd, mOr, mNot, bAnd, bOr, bNot, mIf, bYes, mTup, mLst, evm, evo, fino, mFn, mCall, eva, sls, ioIx, putBack, Arg.opd, iSeq, iRng, fR1, fR2, sFor, tmName, tmTup, tmSeq, mApp, mExt, mPutAt, dPutAt, mIsi, dTy, isB, dEq, dNe, dLt, dLe, dGt, dGe, dIsN, dNotN, dAdd, dSub, dMod, dFdiv, dMul, dLen, dInt, dTuple, dList, mChain, sPar, setP, d0, e0]
  · refine .rt (ρ' := [.fz (.int w.n), .fz (pairN (a, b))]) ?_ rfl
    simp [fnM, ownIx, backs, sRet, sSeq, sIf, sSet, sOwn, sDo, sNil, sAsg, Rs.sr, mOp2, Opd.ev, Opd.fin, at_, Sl.val, Rs.then, mLit, mVar, mB, mAnd, mOr, mNot, bAnd, bOr, bNot, mIf, bYes, mTup, mLst, evm, evo, fino, mFn, mCall, eva, sls, ioIx, putBack, Arg.opd, iSeq, iRng, fR1, fR2, sFor, tmName, tmTup, tmSeq, mApp, mExt, mPutAt, dPutAt, mIsi, dTy, isB, dEq, dNe, dLt, dLe, dGt, dGe, dIsN, dNotN, dAdd, dSub, dMod, dFdiv, dMul, dLen, dInt, dTuple, dList, mChain, sPar, setP, d0, d1, e1]
theorem need_web_ok {w : Web} (hw : w.Ok) : f_need_web [.fz (webD w)] = .ok .none [] := by
  have hm := hw.most
  have hp := hw.pos
  have hf := hw.few
  have e0 : f_is_number [.fz (.int w.n), .fz (.int 1), .fz (.int 10)] = .ok (.bool true) [] := by
    rw [num_int, decide_eq_true (by omega : (1 : Int) ≤ w.n), decide_eq_true (by omega : (w.n : Int) ≤ 10)]
    rfl
  have d0 : dAt (webD w) (.int 0) = some (.int w.n) := rfl
  have t : dTy (webD w) = some "tuple" := rfl
  have l : dLen [webD w] = some (.int 2) := rfl
  have n2 : dNe (.int 2) (.int 2) = some (.bool false) := ne_int 2 2
  refine W.fn0 rfl ?_
  unfold m_need_web
  refine .seq (.ifF (ρ1 := [.fz (webD w), .no, .no, .no]) ?_ (.nil ?_))
  · have i0 : mIsi ["tuple"] (.sl 0) [.fz (webD w), .no, .no, .no] = .ok (.bool true) [.fz (webD w), .no, .no, .no] := isi_ok (x := none) (t := "tuple") rfl rfl
    have i1 : mOp2 dNe (.ex (mFn dLen [.sl 0])) (.ex (mLit (.int 2))) [.fz (webD w), .no, .no, .no] = .ok (.bool false) [.fz (webD w), .no, .no, .no] := op2_ok (x1 := some (.int 2)) (x2 := some (.int 2)) (ρ1 := [.fz (webD w), .no, .no, .no]) rfl rfl rfl rfl n2
    refine bOr_F (bNot_ok (mB_ok i0)) (bOr_F (mB_ok i1) (bNot_ok (b := true) (mB_ok ?_)))
    simp [fnM, ownIx, backs, sRet, sSeq, sIf, sSet, sOwn, sDo, sNil, sAsg, Rs.sr, mOp2, Opd.ev, Opd.fin, at_, Sl.val, Rs.then, mLit, mVar, mB, mAnd, mOr, mNot, bAnd, bOr, bNot, mIf, bYes, mTup, mLst, evm, evo, fino, mFn, mCall, eva, sls, ioIx, putBack, Arg.opd, iSeq, iRng, fR1, fR2, sFor, tmName, tmTup, tmSeq, mApp, mExt, mPutAt, dPutAt, mIsi, dTy, isB, dEq, dNe, dLt, dLe, dGt, dGe, dIsN, dNotN, dAdd, dSub, dMod, dFdiv, dMul, dLen, dInt, dTuple, dList, mChain, sPar, setP, d0, e0]
  refine .seq (.ifF (ρ1 := [.fz (webD w), .no, .no, .no]) (by simp [fnM, ownIx, backs, sRet, sSeq, sIf, sSet, sOwn, sDo, sNil, sAsg, Rs.sr, mOp2, Opd.ev, Opd.fin, at_, Sl.val, Rs.then, mLit, mVar, mB, mAnd, mOr, mNot, bAnd, bOr, bNot, mIf, bYes, mTup, mLst, evm, evo, fino, mFn, mCall, eva, sls, ioIx, putBack, Arg.opd, iSeq, iRng, fR1, fR2, sFor, tmName, tmTup, tmSeq, mApp, mExt, mPutAt, dPutAt, mIsi, dTy, isB, dEq, dNe, dLt, dLe, dGt, dGe, dIsN, dNotN, dAdd, dSub, dMod, dFdiv, dMul, dLen, dInt, dTuple, dList, mChain, sPar, setP, web_1]) (.nil ?_))
  refine .seq (.nx (ρ' := [.fz (webD w), .fz (.int w.n), .fz (.tuple (w.es.map pairN)), .no]) (by simp [fnM, ownIx, backs, sRet, sSeq, sIf, sSet, sOwn, sDo, sNil, sAsg, Rs.sr, mOp2, Opd.ev, Opd.fin, at_, Sl.val, Rs.then, mLit, mVar, mB, mAnd, mOr, mNot, bAnd, bOr, bNot, mIf, bYes, mTup, mLst, evm, evo, fino, mFn, mCall, eva, sls, ioIx, putBack, Arg.opd, iSeq, iRng, fR1, fR2, sFor, tmName, tmTup, tmSeq, mApp, mExt, mPutAt, dPutAt, mIsi, dTy, isB, dEq, dNe, dLt, dLe, dGt, dGe, dIsN, dNotN, dAdd, dSub, dMod, dFdiv, dMul, dLen, dInt, dTuple, dList, mChain, sPar, setP, webD]) ?_)
  refine .rng (n := w.es.length) (ρ0 := [.fz (webD w), .fz (.int w.n), .fz (.tuple (w.es.map pairN)), .no]) (fun k ρ => ∃ x, ρ = [.fz (webD w), .fz (.int w.n), .fz (.tuple (w.es.map pairN)), x]) ?_ ⟨_, rfl⟩ ?_ (fun _ _ => rfl)
  · exact iRng_nat (xs := [some (.int w.es.length)]) (by simp [fnM, ownIx, backs, sRet, sSeq, sIf, sSet, sOwn, sDo, sNil, sAsg, Rs.sr, mOp2, Opd.ev, Opd.fin, at_, Sl.val, Rs.then, mLit, mVar, mB, mAnd, mOr, mNot, bAnd, bOr, bNot, mIf, bYes, mTup, mLst, evm, evo, fino, mFn, mCall, eva, sls, ioIx, putBack, Arg.opd, iSeq, iRng, fR1, fR2, sFor, tmName, tmTup, tmSeq, mApp, mExt, mPutAt, dPutAt, mIsi, dTy, isB, dEq, dNe, dLt, dLe, dGt, dGe, dIsN, dNotN, dAdd, dSub, dMod, dFdiv, dMul, dAt, dLen, dInt, dTuple, dList, mChain, sPar, setP]) rfl (by omega)
  · rintro k _ hk ⟨x, rfl⟩
    have ek : dAt (.tuple (w.es.map pairN)) (.int k) = some (pairN w.es[k]) := by
      show atI _ (k : Int) = _
      rw [atI_nat, List.getElem?_map, List.getElem?_eq_getElem hk]
      rfl
    have es := street_ok hw (List.getElem_mem hk)
    refine .ifF (ρ1 := [.fz (webD w), .fz (.int w.n), .fz (.tuple (w.es.map pairN)), .fz (.int k)]) ?_ (.nil ⟨_, rfl⟩)
    by_cases h0 : 0 < k
    · have ek1 : dAt (.tuple (w.es.map pairN)) (.int ((k : Int) - 1)) = some (pairN (w.es[k - 1]'(by omega))) := by
        rw [show (k : Int) - 1 = ((k - 1 : Nat) : Int) by omega]
        show atI _ ((k - 1 : Nat) : Int) = _
        rw [atI_nat, List.getElem?_map, List.getElem?_eq_getElem (by omega)]
        rfl
      have hg := ge_pair (List.pairwise_iff_getElem.mp hw.sorted (k - 1) k (by omega) hk (by omega))
      simp [fnM, ownIx, backs, sRet, sSeq, sIf, sSet, sOwn, sDo, sNil, sAsg, Rs.sr, mOp2, Opd.ev, Opd.fin, at_, Sl.val, Rs.then, mLit, mVar, mB, mAnd, mOr, mNot, bAnd, bOr, bNot, mIf, bYes, mTup, mLst, evm, evo, fino, mFn, mCall, eva, sls, ioIx, putBack, Arg.opd, iSeq, iRng, fR1, fR2, sFor, tmName, tmTup, tmSeq, mApp, mExt, mPutAt, dPutAt, mIsi, dTy, isB, dEq, dLt, dLe, dGt, dIsN, dNotN, dAdd, dSub, dMod, dFdiv, dMul, dLen, dInt, dTuple, dList, mChain, sPar, setP, ek, es, ek1, hg, h0]
    · simp [fnM, ownIx, backs, sRet, sSeq, sIf, sSet, sOwn, sDo, sNil, sAsg, Rs.sr, mOp2, Opd.ev, Opd.fin, at_, Sl.val, Rs.then, mLit, mVar, mB, mAnd, mOr, mNot, bAnd, bOr, bNot, mIf, bYes, mTup, mLst, evm, evo, fino, mFn, mCall, eva, sls, ioIx, putBack, Arg.opd, iSeq, iRng, fR1, fR2, sFor, tmName, tmTup, tmSeq, mApp, mExt, mPutAt, dPutAt, mIsi, dTy, isB, dEq, dLt, dLe, dGt, dIsN, dNotN, dAdd, dSub, dMod, dFdiv, dMul, dLen, dInt, dTuple, dList, mChain, sPar, setP, ek, es, h0]
theorem are_moods_ok {n : Nat} {s : List Int} (hs : StOk n s) (hn : n ≤ 10) : f_are_moods [.fz (stD s), .fz (.int n)] = .ok (.bool true) [] := by
  have t : dTy (stD s) = some "tuple" := rfl
  have l : dLen [stD s] = some (.int n) := by
    show some (PyData.int ((s.map PyData.int).length : Nat)) = _
    rw [List.length_map, hs.len]
  have q : dEq (.int (n : Int)) (.int n) = some (.bool true) := by
    unfold dEq
    rw [okI, eqv_int]
    simp
  have hc := mComp_of (f := PyData.int) (i := 2) (it := iSeq (mVar 0)) (cd := bYes) (elt := mCall f_is_number [.v (mVar 2), .v (mLit (.int 0)), .v (mOp2 dSub (.ex (mLit (.int 3))) (.ex (mLit (.int 1))))]) (fun _ => true) (fun _ => .bool true) (ρ := [.fz (stD s), .fz (.int n), .no]) (ρ1 := [.fz (stD s), .fz (.int n), .no]) (ds := s)
    (by simp [fnM, ownIx, backs, sRet, sSeq, sIf, sSet, sOwn, sDo, sNil, sAsg, Rs.sr, mOp2, Opd.ev, Opd.fin, at_, Sl.val, Rs.then, mLit, mVar, mB, mAnd, mOr, mNot, bAnd, bOr, bNot, mIf, bYes, mTup, mLst, evm, evo, fino, mFn, mCall, eva, sls, ioIx, putBack, Arg.opd, iSeq, iRng, fR1, fR2, sFor, tmName, tmTup, tmSeq, mApp, mExt, mPutAt, dPutAt, mIsi, dTy, isB, dEq, dNe, dLt, dLe, dGt, dGe, dIsN, dNotN, dAdd, dSub, dMod, dFdiv, dMul, dAt, dLen, dInt, dTuple, dList, mChain, sPar, setP, stD]) (.no rfl) (fun j hj => by simp [bYes]) (fun j hj _ => by
      have h3 := hs.three j hj
      have e := num_int j 0 2
      rw [decide_eq_true h3.1, decide_eq_true (by omega : j ≤ 2)] at e
      simp [fnM, ownIx, backs, sRet, sSeq, sIf, sSet, sOwn, sDo, sNil, sAsg, Rs.sr, mOp2, Opd.ev, Opd.fin, at_, Sl.val, Rs.then, mLit, mVar, mB, mAnd, mOr, mNot, bAnd, bOr, bNot, mIf, bYes, mTup, mLst, evm, evo, fino, mFn, mCall, eva, sls, ioIx, putBack, Arg.opd, iSeq, iRng, fR1, fR2, sFor, tmName, tmTup, tmSeq, mApp, mExt, mPutAt, dPutAt, mIsi, dTy, isB, dEq, dNe, dLt, dLe, dGt, dGe, dIsN, dNotN, dAdd, dSub, dMod, dFdiv, dMul, dAt, dLen, dInt, dTuple, dList, mChain, sPar, setP, e]) (by have := hs.len; omega)
  rw [List.filter_eq_self.mpr (fun _ _ => rfl)] at hc
  have ha : dAll [.list (s.map fun _ => PyData.bool true)] = some (.bool true) := by
    have hb : ∀ s : List Int, dBls (s.map fun _ => PyData.bool true) = some (s.map fun _ => true) := fun s => by
      induction s with
      | nil => rfl
      | cons a s ih => show (dBls (s.map fun _ => PyData.bool true)).map _ = _; rw [ih]; rfl
    show (dBls (s.map fun _ => PyData.bool true)).map _ = _
    rw [hb]
    simp
  refine W.fn0 rfl ?_
  unfold m_are_moods
  refine .ret (ρ' := [.fz (stD s), .fz (.int n), .no]) ?_ rfl
  have i0 : mIsi ["tuple"] (.sl 0) [.fz (stD s), .fz (.int n), .no] = .ok (.bool true) [.fz (stD s), .fz (.int n), .no] := isi_ok (x := none) (t := "tuple") rfl rfl
  have l1 : mFn dLen [.sl 0] [.fz (stD s), .fz (.int n), .no] = .ok (.int n) [.fz (stD s), .fz (.int n), .no] := mFn_ok (xs := [none]) (ds := [stD s]) rfl rfl l
  refine mAnd_T i0 (mAnd_T (op2_ok (x1 := some (.int n)) (x2 := none) (ρ1 := [.fz (stD s), .fz (.int n), .no]) (ev_ex l1) rfl rfl rfl q) (mFn_1 hc ha))
theorem need_both_ok {w : Web} (hw : w.Ok) {s : List Int} (hs : StOk w.n s) : f_need_both [.fz (webD w), .fz (stD s)] = .ok .none [] := by
  refine W.fn0 rfl ?_
  unfold m_need_both
  refine .seq (.do' (mCall_0 (ρ1 := [.fz (webD w), .fz (stD s)]) (xs := [some (webD w)]) (ss := [.fz (webD w)]) rfl rfl (need_web_ok hw)) ?_)
  have e : mCall f_are_moods [.v (mVar 1), .v (mOp2 dAt (.sl 0) (.ex (mLit (.int 0))))] [.fz (webD w), .fz (stD s)] = .ok (.bool true) [.fz (webD w), .fz (stD s)] := mCall_0 (xs := [some (stD s), some (.int w.n)]) (ss := [.fz (stD s), .fz (.int w.n)]) rfl rfl (are_moods_ok hs hw.most)
  refine .ifF (ρ1 := [.fz (webD w), .fz (stD s)]) ?_ (.nil rfl)
  unfold bNot mB
  simp only [e, Rs.then]
  rfl

set_option autoImplicit false
theorem in_ring {a b : Int} (ha : 0 ≤ a ∧ a < 3) (hb : 0 ≤ b ∧ b < 3) : dIn (.tuple [.int a, .int b]) (.list [.tuple [.int 0, .int 1], .tuple [.int 1, .int 2], .tuple [.int 2, .int 0]]) = some (.bool (decide ((b - a + 1) % 3 - 1 = 1))) := by
  have e : ∀ c d : Int, PyData.eqv (.tuple [.int c, .int d]) (.tuple [.int a, .int b]) = decide (c = a ∧ d = b) := fun c d => by
    refine (eqv_intsT [c, d] [a, b]).trans (decide_eq_decide.mpr (by simp))
  have o1 : okD (.tuple [.int a, .int b]) = true := okIntsT [a, b]
  have o2 : okD (.list [.tuple [.int 0, .int 1], .tuple [.int 1, .int 2], .tuple [.int 2, .int 0]]) = true := by decide
  show Option.map PyData.bool (if (okD (.tuple [.int a, .int b]) && okD (.list [.tuple [.int 0, .int 1], .tuple [.int 1, .int 2], .tuple [.int 2, .int 0]])) = true then some (inAny [.tuple [.int 0, .int 1], .tuple [.int 1, .int 2], .tuple [.int 2, .int 0]] (.tuple [.int a, .int b])) else none) = _
  rw [o1, o2]
  simp only [Bool.and_self, if_true, Option.map_some, inAny, List.any_cons, List.any_nil, e]
  congr 2
  clear e o1 o2
  have h1 : a = 0 ∨ a = 1 ∨ a = 2 := by omega
  have h2 : b = 0 ∨ b = 1 ∨ b = 2 := by omega
  rcases h1 with rfl | rfl | rfl <;> rcases h2 with rfl | rfl | rfl <;> decide
theorem eva_cons {a : Arg} {as : List Arg} {ρ ρ1 ρ2 : Env} {x : Option D} {xs : List (Option D)} (h1 : a.opd.ev ρ = .ok x ρ1) (h2 : eva as ρ1 = .ok xs ρ2) : eva (a :: as) ρ = .ok (x :: xs) ρ2 := by
  unfold eva
  rw [h1]
  simp only [Rs.then]
  rw [h2]
theorem law_step_eq {n : Nat} {s : List Int} (hs : StOk n s) {i j : Nat} (hi : i < n) (hj : j < n) : f__law_step [.fz (stD s), .fz (natD i), .fz (natD j)] = .ok (.int (stp s i j)) [] := by
  have a := mood_three hs i
  have b := mood_three hs j
  have ei := st_at (s := s) (i := i) (by rw [hs.len]; exact hi)
  have ej := st_at (s := s) (i := j) (by rw [hs.len]; exact hj)
  refine W.fn0 rfl ?_
  unfold m__law_step
  refine .seq (.set' (d := .tuple [.int (mood s i), .int (mood s j)]) (ρ' := [.fz (stD s), .fz (natD i), .fz (natD j), .no]) (by simp [fnM, ownIx, backs, sRet, sSeq, sIf, sSet, sOwn, sDo, sNil, sAsg, Rs.sr, mOp2, Opd.ev, Opd.fin, at_, Sl.val, Rs.then, mLit, mVar, mB, mAnd, mOr, mNot, bAnd, bOr, bNot, mIf, bYes, mTup, mLst, evm, evo, fino, mFn, mCall, eva, sls, ioIx, putBack, Arg.opd, iSeq, iRng, fR1, fR2, sFor, tmName, tmTup, tmSeq, mApp, mExt, mPutAt, dPutAt, mIsi, dTy, isB, dEq, dNe, dLt, dLe, dGt, dGe, dIsN, dNotN, dAdd, dSub, dMod, dFdiv, dMul, dLen, dInt, dTuple, dList, mChain, sPar, setP, ei, ej]) ?_)
  show W _ [.fz (stD s), .fz (natD i), .fz (natD j), .fz (.tuple [.int (mood s i), .int (mood s j)])] _ _
  have e1 : mB (mOp2 dIn (.sl 3) (.ex (mLst [mTup [mLit (.int 0), mLit (.int 1)], mTup [mLit (.int 1), mLit (.int 2)], mTup [mLit (.int 2), mLit (.int 0)]]))) [.fz (stD s), .fz (natD i), .fz (natD j), .fz (.tuple [.int (mood s i), .int (mood s j)])] = .ok (decide (stp s i j = 1)) [.fz (stD s), .fz (natD i), .fz (natD j), .fz (.tuple [.int (mood s i), .int (mood s j)])] :=
    mB_ok (op2_ok (x1 := none) (x2 := some (.list [.tuple [.int 0, .int 1], .tuple [.int 1, .int 2], .tuple [.int 2, .int 0]])) (ρ1 := [.fz (stD s), .fz (natD i), .fz (natD j), .fz (.tuple [.int (mood s i), .int (mood s j)])]) rfl rfl rfl rfl (in_ring a b))
  have e2 : mB (mOp2 dNe (.ex (mOp2 dAt (.sl 3) (.ex (mLit (.int 0))))) (.ex (mOp2 dAt (.sl 3) (.ex (mLit (.int 1)))))) [.fz (stD s), .fz (natD i), .fz (natD j), .fz (.tuple [.int (mood s i), .int (mood s j)])] = .ok (!decide (mood s i = mood s j)) [.fz (stD s), .fz (natD i), .fz (natD j), .fz (.tuple [.int (mood s i), .int (mood s j)])] :=
    mB_ok (op2_ok (x1 := some (.int (mood s i))) (x2 := some (.int (mood s j))) (ρ1 := [.fz (stD s), .fz (natD i), .fz (natD j), .fz (.tuple [.int (mood s i), .int (mood s j)])]) rfl rfl rfl rfl (ne_int _ _))
  refine .ret (ρ' := [.fz (stD s), .fz (natD i), .fz (natD j), .fz (.tuple [.int (mood s i), .int (mood s j)])]) ?_ rfl
  unfold mIf
  simp only [e1, e2, Rs.then]
  by_cases h1 : stp s i j = 1
  · simp [h1, mLit]
  · by_cases h2 : mood s i = mood s j
    · have h3 : stp s i j = 0 := by unfold stp; omega
      simp [h3, h2, mLit]
    · have h3 : stp s i j = -1 := by unfold stp at h1 ⊢; omega
      simp [h3, h2, mLit, mNeg, Rs.then]

set_option autoImplicit false
theorem cut_lo {s : List Int} {i : Nat} (h : i ≤ s.length) : dCut (stD s) none (some (i : Int)) = some (stD (s.take i)) := by
  show some (PyData.tuple (((s.map PyData.int).drop (HT.sIx (s.map PyData.int).length 0 none)).take (HT.sIx (s.map PyData.int).length (s.map PyData.int).length (some (i : Int)) - HT.sIx (s.map PyData.int).length 0 none))) = _
  rw [HT.sIx_none, HT.sIx_nat, List.length_map, Nat.min_eq_left h, List.drop_zero, Nat.sub_zero, ← List.map_take]
  rfl
theorem cut_hi {s : List Int} {i : Nat} (h : i < s.length) : dCut (stD s) (some ((i : Int) + 1)) none = some (stD (s.drop (i + 1))) := by
  show some (PyData.tuple (((s.map PyData.int).drop (HT.sIx (s.map PyData.int).length 0 (some ((i : Int) + 1)))).take (HT.sIx (s.map PyData.int).length (s.map PyData.int).length none - HT.sIx (s.map PyData.int).length 0 (some ((i : Int) + 1))))) = _
  rw [HT.sIx_none, show (i : Int) + 1 = ((i + 1 : Nat) : Int) by omega, HT.sIx_nat, List.length_map, Nat.min_eq_left (by omega)]
  rw [List.take_of_length_le (by rw [List.length_drop, List.length_map]; omega), ← List.map_drop]
  rfl
theorem cat_st {a b : List Int} (h : a.length + b.length ≤ 1000000) : dAdd (stD a) (stD b) = some (stD (a ++ b)) := by
  show (if (a.map PyData.int).length + (b.map PyData.int).length ≤ sizeLine then some (PyData.tuple (a.map PyData.int ++ b.map PyData.int)) else none) = _
  rw [if_pos (by rw [List.length_map, List.length_map]; unfold sizeLine; omega), ← List.map_append]
  rfl
theorem seq_nx {a b : SM} {ρ ρ1 : Env} (h : a ρ = .nx ρ1) : sSeq a b ρ = b ρ1 := by
  unfold sSeq
  rw [h]
theorem seq_ex {a b : SM} {ρ ρ1 : Env} {e : Exn} (h : a ρ = .ex e ρ1) : sSeq a b ρ = .ex e ρ1 := by
  unfold sSeq
  rw [h]
theorem fn_ex {len n : Nat} {m : SM} {ss : List Sl} {e : Exn} {ρ : Env} (h : ownIx 0 ss = []) (h2 : m (ss ++ List.replicate (len - n) .no) = .ex e ρ) : fnM len n [] m ss = .ex e := by
  unfold fnM
  rw [if_pos h, h2]
  rfl
theorem mCall_ex {f : FM} {as : List Arg} {ρ ρ1 : Env} {xs : List (Option D)} {ss : List Sl} {e : Exn} (hio : ioIx as = []) (h1 : eva as ρ = .ok xs ρ1) (h2 : sls as xs ρ1 = some ss) (h3 : f ss = .ex e) : mCall f as ρ = .ex e ρ1 := by
  unfold mCall
  rw [h1]
  simp only [Rs.then]
  rw [h2]
  simp only [h3, if_pos hio]
theorem sDo_ex {m : ME} {ρ ρ1 : Env} {e : Exn} (h : m ρ = .ex e ρ1) : sDo m ρ = .ex e ρ1 := by
  unfold sDo
  rw [h]
  rfl

set_option autoImplicit false
theorem Shp.str {a : Str} (h : PyData.strOk a = true) : Shp 0 (.str a) := ⟨by simp [PyData.canLay0, h], by simp [PyData.depth]⟩
theorem eq_int (a b : Int) : dEq (.int a) (.int b) = some (.bool (decide (a = b))) := by
  unfold dEq
  rw [okI, okI, eqv_int]
  rfl
theorem eqv_bool (a b : Bool) : PyData.eqv (.bool a) (.bool b) = decide (a = b) := by cases a <;> cases b <;> rfl
theorem eq_bool (a b : Bool) : dEq (.bool a) (.bool b) = some (.bool (decide (a = b))) := by
  unfold dEq
  rw [okB, okB, eqv_bool]
  rfl
inductive Alk : Nat → D → Prop where
  | none (k : Nat) : Alk (k + 1) .none
  | int (k : Nat) (i : Int) : Alk (k + 1) (.int i)
  | bool (k : Nat) (b : Bool) : Alk (k + 1) (.bool b)
  | tup {k : Nat} {ds : List D} (h : ∀ d ∈ ds, Alk k d) (hl : ds.length ≤ 1000000) : Alk (k + 1) (.tuple ds)
  | lst {k : Nat} {ds : List D} (h : ∀ d ∈ ds, Alk k d) (hl : ds.length ≤ 1000000) : Alk (k + 1) (.list ds)
theorem alike_row {k : Nat} {ds : List D} {d : D} (h : ∀ d ∈ ds, f__law_alike k [.fz d, .fz d] = .ok (.bool true) []) (hl : ds.length ≤ 1000000) (hd : ∀ i : Nat, dAt d (natD i) = ds[i]?) (hn : dLen [d] = some (.int ds.length)) :
    mOp2 dEq (.ex (mComp (iRng fR1 [.ex (mFn dLen [.sl 1])]) (tmName 2) (bNot (mB (mCall (f__law_alike k) [.v (mOp2 dAt (.sl 0) (.sl 2)), .v (mOp2 dAt (.sl 1) (.sl 2))]))) (mVar 2) [2])) (.ex (mLst [])) [.fz d, .fz d, .no] = .ok (.bool true) [.fz d, .fz d, .no] := by
  have hc := mComp_of (f := natD) (i := 2) (it := iRng fR1 [.ex (mFn dLen [.sl 1])]) (cd := bNot (mB (mCall (f__law_alike k) [.v (mOp2 dAt (.sl 0) (.sl 2)), .v (mOp2 dAt (.sl 1) (.sl 2))]))) (elt := mVar 2) (fun _ => false) natD
    (ρ := [.fz d, .fz d, .no]) (ρ1 := [.fz d, .fz d, .no]) (ds := List.range ds.length)
    (rng_map (xs := [some (.int ds.length)]) (evo_1 (mFn_ok (xs := [Option.none]) (ds := [d]) rfl rfl hn)) rfl hl) (.no rfl) (fun j hj => ?_) (fun j hj h => by cases h) (by simp; omega)
  · rw [List.filter_eq_nil_iff.mpr (fun _ _ => by simp)] at hc
    exact op2_ok (x2 := some (.list [])) (ev_ex hc) rfl rfl rfl rfl
  · have hj' : j < ds.length := List.mem_range.mp hj
    have e0 : mOp2 dAt (.sl 0) (.sl 2) [.fz d, .fz d, .fz (natD j)] = .ok ds[j] [.fz d, .fz d, .fz (natD j)] := op2_ok (x1 := Option.none) (x2 := Option.none) (ρ1 := [.fz d, .fz d, .fz (natD j)]) rfl rfl rfl rfl (by rw [hd, List.getElem?_eq_getElem hj'])
    have e1 : mOp2 dAt (.sl 1) (.sl 2) [.fz d, .fz d, .fz (natD j)] = .ok ds[j] [.fz d, .fz d, .fz (natD j)] := op2_ok (x1 := Option.none) (x2 := Option.none) (ρ1 := [.fz d, .fz d, .fz (natD j)]) rfl rfl rfl rfl (by rw [hd, List.getElem?_eq_getElem hj'])
    exact bNot_ok (b := true) (mB_ok (mCall_0 (eva_cons (ev_ex e0) (eva_cons (ev_ex e1) rfl)) (ss := [.fz ds[j], .fz ds[j]]) rfl (h _ (List.getElem_mem hj'))))
theorem alike_self {k : Nat} {d : D} (h : Alk k d) : f__law_alike k [.fz d, .fz d] = .ok (.bool true) [] := by
  induction h with
  | none k =>
    refine W.fn0 rfl ?_
    unfold m__law_alike
    exact .seq (.ifF (ρ1 := [.fz .none, .fz .none, .no]) rfl (.nil (.seq (.ifT (ρ1 := [.fz .none, .fz .none, .no]) rfl (.ret (ρ' := [.fz .none, .fz .none, .no]) rfl rfl)))))
  | int k i =>
    refine W.fn0 rfl ?_
    unfold m__law_alike
    refine .seq (.ifF (ρ1 := [.fz (.int i), .fz (.int i), .no]) rfl (.nil (.seq (.ifF (ρ1 := [.fz (.int i), .fz (.int i), .no]) rfl (.nil (.ret (ρ' := [.fz (.int i), .fz (.int i), .no]) ?_ rfl))))))
    have i0 : mIsi ["int"] (.sl 0) [.fz (.int i), .fz (.int i), .no] = .ok (.bool true) [.fz (.int i), .fz (.int i), .no] := rfl
    have i1 : mOp2 dEq (.ex (mIsi ["bool"] (.sl 0))) (.ex (mIsi ["bool"] (.sl 1))) [.fz (.int i), .fz (.int i), .no] = .ok (.bool true) [.fz (.int i), .fz (.int i), .no] := rfl
    exact mAnd_T i0 (mAnd_T i1 (op2_ok (x1 := Option.none) (x2 := Option.none) (ρ1 := [.fz (.int i), .fz (.int i), .no]) rfl rfl rfl rfl ((eq_int i i).trans (by simp))))
  | bool k b =>
    refine W.fn0 rfl ?_
    unfold m__law_alike
    refine .seq (.ifF (ρ1 := [.fz (.bool b), .fz (.bool b), .no]) rfl (.nil (.seq (.ifF (ρ1 := [.fz (.bool b), .fz (.bool b), .no]) rfl (.nil (.ret (ρ' := [.fz (.bool b), .fz (.bool b), .no]) ?_ rfl))))))
    have i0 : mIsi ["int"] (.sl 0) [.fz (.bool b), .fz (.bool b), .no] = .ok (.bool true) [.fz (.bool b), .fz (.bool b), .no] := rfl
    have i1 : mOp2 dEq (.ex (mIsi ["bool"] (.sl 0))) (.ex (mIsi ["bool"] (.sl 1))) [.fz (.bool b), .fz (.bool b), .no] = .ok (.bool true) [.fz (.bool b), .fz (.bool b), .no] := rfl
    exact mAnd_T i0 (mAnd_T i1 (op2_ok (x1 := Option.none) (x2 := Option.none) (ρ1 := [.fz (.bool b), .fz (.bool b), .no]) rfl rfl rfl rfl ((eq_bool b b).trans (by simp))))
  | @tup k ds h hl ih =>
    refine W.fn0 rfl ?_
    unfold m__law_alike
    have hn : dLen [.tuple ds] = some (.int ds.length) := rfl
    have l0 : mFn dLen [.sl 0] [.fz (.tuple ds), .fz (.tuple ds), .no] = .ok (.int ds.length) [.fz (.tuple ds), .fz (.tuple ds), .no] := rfl
    have l1 : mFn dLen [.sl 1] [.fz (.tuple ds), .fz (.tuple ds), .no] = .ok (.int ds.length) [.fz (.tuple ds), .fz (.tuple ds), .no] := rfl
    have i1 := mB_ok (op2_ok (ev_ex l0) (ev_ex l1) rfl rfl ((ne_int ds.length ds.length).trans (show _ = some (PyData.bool false) by simp)))
    refine .seq (.ifT (ρ1 := [.fz (.tuple ds), .fz (.tuple ds), .no]) rfl (.seq (.ifF (ρ1 := [.fz (.tuple ds), .fz (.tuple ds), .no]) rfl (.nil (.seq (.ifF i1 (.nil (.ret (alike_row ih hl (fun i => atI_nat ds i) hn) rfl))))))))
  | @lst k ds h hl ih =>
    refine W.fn0 rfl ?_
    unfold m__law_alike
    have hn : dLen [.list ds] = some (.int ds.length) := rfl
    have l0 : mFn dLen [.sl 0] [.fz (.list ds), .fz (.list ds), .no] = .ok (.int ds.length) [.fz (.list ds), .fz (.list ds), .no] := rfl
    have l1 : mFn dLen [.sl 1] [.fz (.list ds), .fz (.list ds), .no] = .ok (.int ds.length) [.fz (.list ds), .fz (.list ds), .no] := rfl
    have i1 := mB_ok (op2_ok (ev_ex l0) (ev_ex l1) rfl rfl ((ne_int ds.length ds.length).trans (show _ = some (PyData.bool false) by simp)))
    refine .seq (.ifT (ρ1 := [.fz (.list ds), .fz (.list ds), .no]) rfl (.seq (.ifF (ρ1 := [.fz (.list ds), .fz (.list ds), .no]) rfl (.nil (.seq (.ifF i1 (.nil (.ret (alike_row ih hl (fun i => atI_nat ds i) hn) rfl))))))))
theorem Alk.mono {k : Nat} {d : D} (h : Alk k d) : Alk (k + 1) d := by
  induction h with
  | none k => exact .none _
  | int k i => exact .int _ _
  | bool k i => exact .bool _ _
  | tup h hl ih => exact .tup ih hl
  | lst h hl ih => exact .lst ih hl

set_option autoImplicit false
theorem if_ex {t : MB} {a b : SM} {ρ ρ1 ρ2 : Env} {e : Exn} (h : t ρ = .ok true ρ1) (h2 : a ρ1 = .ex e ρ2) : sIf t a b ρ = .ex e ρ2 := by
  unfold sIf
  rw [h]
  exact h2
theorem mAnd_F {m n : ME} {ρ ρ1 : Env} (h : m ρ = .ok (.bool false) ρ1) : mAnd m n ρ = .ok (.bool false) ρ1 := by
  unfold mAnd
  rw [h]
  rfl
theorem mRef_ex {m : ME} {ρ ρ' : Env} {x y : Str} (h : m ρ = .ex ⟨x, none⟩ ρ') (hc : codeOf x = some y) : mRef m ρ = .ok (.str y) ρ' := by
  unfold mRef
  rw [h]
  simp only [hc]

set_option autoImplicit false
theorem Shp.st (s : List Int) : Shp 1 (stD s) := Shp.tup Shp.int s
theorem okSts (l : List (List Int)) : okD (.list (l.map stD)) = true := (Shp.list Shp.st l).ok
theorem toKs_ints : ∀ l : List Int, toKs (l.map PyData.int) = some (l.map Sum.inl)
  | [] => rfl
  | x :: l => by
    show (toK1 (.int x)).bind _ = _
    rw [show toKs (l.map PyData.int) = _ from toKs_ints l]
    rfl
theorem toKT_st (s : List Int) : toKT (stD s) = some (s.map Sum.inl) := toKs_ints s
theorem toK1_st (s : List Int) : toK1 (stD s) = none := rfl
theorem inl_inj (s t : List Int) : (s.map Sum.inl : List Key) = t.map Sum.inl ↔ s = t := by
  refine ⟨fun h => ?_, fun h => by rw [h]⟩
  induction s generalizing t with
  | nil => cases t with
    | nil => rfl
    | cons y t => cases h
  | cons x s ih => cases t with
    | nil => cases h
    | cons y t =>
      simp only [List.map_cons, List.cons.injEq, Sum.inl.injEq] at h
      rw [h.1, ih t h.2]
theorem dkEq_st (s t : List Int) : dkEq (stD s) (stD t) = decide (s = t) := by
  unfold dkEq
  rw [toK1_st, toK1_st, toKT_st, toKT_st]
  exact decide_eq_decide.mpr (inl_inj s t)
/-- a dict whose keys are states -/
def kvsS (l : List (List Int × D)) : List (D × D) := l.map fun p => (stD p.1, p.2)
theorem keyFits_st (l : List (List Int × D)) (t : List Int) : keyFits (kvsS l) (stD t) = true := by
  unfold keyFits
  rw [toK1_st, toKT_st]
  simp [kvsS, toKT_st]
theorem dGetV_st (l : List (List Int × D)) (t : List Int) : dGetV (kvsS l) (stD t) = (l.find? fun p => decide (p.1 = t)).map (·.2) := by
  unfold dGetV kvsS
  induction l with
  | nil => rfl
  | cons p l ih =>
    rw [List.map_cons, List.find?_cons, List.find?_cons]
    simp only [dkEq_st]
    by_cases h : p.1 = t
    · simp [h]
    · simp only [h, decide_false]
      exact ih
theorem dPutV_st {l : List (List Int × D)} {t : List Int} {d : D} (h : ∀ p ∈ l, p.1 ≠ t) : dPutV (kvsS l) (stD t) d = kvsS (l ++ [(t, d)]) := by
  unfold dPutV
  rw [if_neg]
  · simp [kvsS]
  · unfold kvsS
    rw [List.any_map, List.any_eq_true]
    rintro ⟨p, hp, e⟩
    exact h p hp (of_decide_eq_true ((dkEq_st _ _).symm.trans e))
theorem has_dict (l : List (List Int × D)) (t : List Int) : dHas (stD t) (.dict (kvsS l)) = some (decide (t ∈ l.map (·.1))) := by
  show (if keyFits (kvsS l) (stD t) = true then some (dGetV (kvsS l) (stD t)).isSome else none) = _
  rw [keyFits_st, dGetV_st]
  simp only [if_true]
  congr 1
  rw [Bool.eq_iff_iff, decide_eq_true_iff, Option.isSome_map, List.find?_isSome]
  simp [eq_comm]
theorem nat_few : ∀ (n : Nat) (l : List Nat), l.Nodup → (∀ x ∈ l, x < n) → l.length ≤ n
  | 0, l, _, h => by
    cases l with
    | nil => exact Nat.le_refl _
    | cons x l => exact absurd (h x List.mem_cons_self) (Nat.not_lt_zero _)
  | n + 1, l, hn, h => by
    by_cases hm : n ∈ l
    · have h1 := nat_few n (l.erase n) (hn.erase n) fun x hx => by
        have := hn.mem_erase_iff.mp hx
        have := h x this.2
        omega
      rw [List.length_erase_of_mem hm] at h1
      omega
    · have := nat_few n l hn fun x hx => by
        have := h x hx
        have : x ≠ n := fun e => hm (e ▸ hx)
        omega
      omega
def code : List Int → Nat
  | [] => 0
  | x :: s => x.toNat + 3 * code s
theorem code_lt : ∀ {s : List Int}, (∀ x ∈ s, 0 ≤ x ∧ x < 3) → code s < 3 ^ s.length
  | [], _ => by decide
  | x :: s, h => by
    have h1 := code_lt fun y hy => h y (List.mem_cons_of_mem _ hy)
    have h2 := h x List.mem_cons_self
    rw [List.length_cons, Nat.pow_succ]
    show x.toNat + 3 * code s < _
    omega
theorem code_inj : ∀ {s t : List Int}, s.length = t.length → (∀ x ∈ s, 0 ≤ x ∧ x < 3) → (∀ x ∈ t, 0 ≤ x ∧ x < 3) → code s = code t → s = t
  | [], [], _, _, _, _ => rfl
  | [], _ :: _, h, _, _, _ => by cases h
  | _ :: _, [], h, _, _, _ => by cases h
  | x :: s, y :: t, hl, hs, ht, h => by
    have h1 := hs x List.mem_cons_self
    have h2 := ht y List.mem_cons_self
    have h3 : x.toNat + 3 * code s = y.toNat + 3 * code t := h
    rw [code_inj (Nat.succ.inj hl) (fun z hz => hs z (List.mem_cons_of_mem _ hz)) (fun z hz => ht z (List.mem_cons_of_mem _ hz)) (by omega), show x = y by omega]
theorem few_states {n : Nat} {l : List (List Int)} (hn : l.Nodup) (h : ∀ s ∈ l, StOk n s) : l.length ≤ 3 ^ n := by
  have h1 := nat_few (3 ^ n) (l.map code) (by
    unfold List.Nodup
    rw [List.pairwise_map]
    exact hn.imp_of_mem fun ha hb hne e => hne (code_inj (by rw [(h _ ha).len, (h _ hb).len]) (h _ ha).three (h _ hb).three e)) fun x hx => by
    obtain ⟨s, hs, rfl⟩ := List.mem_map.mp hx
    have := code_lt (h s hs).three
    rw [(h s hs).len] at this
    exact this
  rwa [List.length_map] at h1
def rowS (w : Web) (s : List Int) (k : Nat) : List (List Int) := (List.range k).map (runL w s)
theorem rowS_len (w : Web) (s : List Int) (k : Nat) : (rowS w s k).length = k := by unfold rowS; simp
theorem rowS_get {w : Web} {s : List Int} {k i : Nat} (h : i < k) : (rowS w s k)[i]? = some (runL w s i) := by
  unfold rowS
  rw [List.getElem?_map, List.getElem?_range h]
  rfl
theorem mem_rowS {w : Web} {s : List Int} {k : Nat} {t : List Int} : t ∈ rowS w s k ↔ ∃ i, i < k ∧ runL w s i = t := by
  unfold rowS
  simp
def Diff (w : Web) (s : List Int) (k : Nat) : Prop := ∀ i j, i < j → j < k → runL w s i ≠ runL w s j
theorem Diff.most {w : Web} (hw : w.Ok) {s : List Int} (hs : StOk w.n s) {k : Nat} (h : Diff w s k) : k ≤ 59049 := by
  have h1 := few_states (n := w.n) (l := rowS w s k) (by
    unfold List.Nodup
    rw [List.pairwise_iff_getElem]
    intro i j hi hj hij
    rw [rowS_len] at hi hj
    have e1 := rowS_get (w := w) (s := s) hi
    have e2 := rowS_get (w := w) (s := s) hj
    rw [List.getElem?_eq_getElem (by rw [rowS_len]; exact hi)] at e1
    rw [List.getElem?_eq_getElem (by rw [rowS_len]; exact hj)] at e2
    rw [Option.some.inj e1, Option.some.inj e2]
    exact h i j hij hj) fun t ht => by
    obtain ⟨i, _, rfl⟩ := mem_rowS.mp ht
    exact run_ok hs i
  rw [rowS_len] at h1
  have h2 : 3 ^ w.n ≤ 3 ^ 10 := Nat.pow_le_pow_right (by omega) hw.most
  omega
structure Rnd (w : Web) (s : List Int) (N f : Nat) : Prop where
  lt : f < N
  eq : runL w s N = runL w s f
  df : Diff w s N
theorem Rnd.only {w : Web} {s : List Int} {N f N' f' : Nat} (h : Rnd w s N f) (h' : Rnd w s N' f') : N = N' ∧ f = f' := by
  have key : ∀ {N f N' f' : Nat}, Rnd w s N f → Rnd w s N' f' → N' ≤ N := fun {N f N' f'} h h' => by
    by_cases hl : N < N'
    · exact absurd h.eq.symm (h'.df f N h.lt hl)
    · omega
  have e : N = N' := Nat.le_antisymm (key h' h) (key h h')
  subst e
  refine ⟨rfl, ?_⟩
  have e := h.eq.symm.trans h'.eq
  rcases Nat.lt_trichotomy f f' with l | l | l
  · exact absurd e (h.df _ _ l h'.lt)
  · exact l
  · exact absurd e.symm (h.df _ _ l h.lt)

set_option autoImplicit false

set_option autoImplicit false
theorem lt_nat (a b : Nat) : dLt (natD a) (natD b) = some (.bool (decide (a < b))) := by
  show some (PyData.bool (decide ((a : Int) < b))) = _
  congr 2
  exact decide_eq_decide.mpr (by omega)
theorem mIf_T {t : MB} {m n : ME} {ρ ρ1 : Env} (h : t ρ = .ok true ρ1) : mIf t m n ρ = m ρ1 := by
  unfold mIf
  rw [h]
  rfl
theorem mIf_F {t : MB} {m n : ME} {ρ ρ1 : Env} (h : t ρ = .ok false ρ1) : mIf t m n ρ = n ρ1 := by
  unfold mIf
  rw [h]
  rfl
def Least (p : Nat → Prop) (r : D) : Prop := (r = .none ∧ ∀ m, ¬ p m) ∨ ∃ m, r = natD m ∧ p m ∧ ∀ m', m' < m → ¬ p m'
theorem Least.only {p : Nat → Prop} {r r' : D} (h : Least p r) (h' : Least p r') : r = r' := by
  rcases h with ⟨rfl, h⟩ | ⟨m, rfl, h1, h2⟩
  · rcases h' with ⟨rfl, _⟩ | ⟨m, _, h1, _⟩
    · rfl
    · exact absurd h1 (h m)
  · rcases h' with ⟨_, h⟩ | ⟨m', rfl, h3, h4⟩
    · exact absurd h1 (h m)
    · rcases Nat.lt_trichotomy m m' with l | l | l
      · exact absurd h1 (h4 m l)
      · rw [l]
      · exact absurd h3 (h2 m' l)
theorem Least.imp {p q : Nat → Prop} {r : D} (h : Least p r) (e : ∀ m, p m ↔ q m) : Least q r := by
  rw [show q = p from funext fun m => propext (e m).symm]
  exact h
def Be (w : Web) (s t : List Int) (N : Nat) (r : D) : Prop := (t ∉ rowS w s N ∧ r = .none) ∨ ∃ i, i < N ∧ runL w s i = t ∧ r = natD i
theorem Be.only {w : Web} {s t : List Int} {N : Nat} (hd : Diff w s N) {r r' : D} (h : Be w s t N r) (h' : Be w s t N r') : r = r' := by
  rcases h with ⟨h, rfl⟩ | ⟨i, hi, e, rfl⟩
  · rcases h' with ⟨_, rfl⟩ | ⟨i, hi, e, rfl⟩
    · rfl
    · exact absurd (mem_rowS.mpr ⟨i, hi, e⟩) h
  · rcases h' with ⟨h, rfl⟩ | ⟨j, hj, e', rfl⟩
    · exact absurd (mem_rowS.mpr ⟨i, hi, e⟩) h
    · rcases Nat.lt_trichotomy i j with l | l | l
      · exact absurd (e.trans e'.symm) (hd i j l hj)
      · rw [l]
      · exact absurd (e'.trans e.symm) (hd j i l hi)

set_option autoImplicit false
theorem cat_tup {a b : List D} (h : a.length + b.length ≤ 1000000) : dAdd (.tuple a) (.tuple b) = some (.tuple (a ++ b)) := by
  show (if a.length + b.length ≤ sizeLine then some (PyData.tuple (a ++ b)) else none) = _
  rw [if_pos (by unfold sizeLine; omega)]
theorem eva_v {m : ME} {as : List Arg} {ρ ρ1 ρ2 : Env} {d : D} {xs : List (Option D)} (h1 : m ρ = .ok d ρ1) (h2 : eva as ρ1 = .ok xs ρ2) : eva (.v m :: as) ρ = .ok (some d :: xs) ρ2 := eva_cons (a := .v m) (ev_ex h1) h2

set_option autoImplicit false
inductive Walk (w : Web) : Nat → Nat → Nat → Prop where
  | here (i : Nat) : Walk w i i 0
  | on {i j k m : Nat} (h : Walk w i j m) (e : w.adj j k = true) : Walk w i k (m + 1)
theorem Walk.reach {w : Web} {i j m : Nat} (h : Walk w i j m) : Reach w i j := by
  induction h with
  | here => exact .here _
  | on _ e ih => exact .on ih e
def Val (f : List (Option Int)) (v : Nat) (x : Int) : Prop := f[v]? = some (some x)
theorem Val.set {f : List (Option Int)} {v u : Nat} {x y : Int} (h : Val f v x) (hu : f[u]? = some none) : Val (f.set u (some y)) v x := by
  unfold Val at *
  by_cases e : u = v
  · subst e
    rw [hu] at h
    cases h
  · rw [List.getElem?_set_ne e]
    exact h
theorem Val.here {f : List (Option Int)} {u : Nat} {y : Int} (hu : f[u]? = some none) : Val (f.set u (some y)) u y := by
  unfold Val
  rw [List.getElem?_set_self (look_lt hu)]
theorem Val.of_set {f : List (Option Int)} {v u : Nat} {x y : Int} (h : Val (f.set u (some y)) v x) (hu : f[u]? = some none) : (v = u ∧ x = y) ∨ Val f v x := by
  unfold Val at *
  by_cases e : u = v
  · subst e
    rw [List.getElem?_set_self (look_lt hu)] at h
    cases h
    exact .inl ⟨rfl, rfl⟩
  · rw [List.getElem?_set_ne e] at h
    exact .inr h
theorem Val.only {f : List (Option Int)} {v : Nat} {x y : Int} (h : Val f v x) (h' : Val f v y) : x = y := by
  unfold Val at *
  rw [h] at h'
  cases h'
  rfl
structure Bfd (w : Web) (r : Nat) (L : Int) (f : List (Option Int)) (row later : List Nat) : Prop where
  len : f.length = w.n
  pos : 0 ≤ L
  rt : Val f r 0
  val : ∀ v x, Val f v x → 0 ≤ x ∧ Walk w r v x.toNat ∧ x ≤ L + 1
  now : ∀ v ∈ row, Val f v L
  lat : ∀ v ∈ later, Val f v (L + 1)
  cl : ∀ v x, Val f v x → v ∈ row ++ later ∨ ∀ u, w.adj v u = true → ∃ y, Val f u y ∧ y ≤ x + 1
theorem Bfd.add {w : Web} {r : Nat} {L : Int} {f : List (Option Int)} {row later : List Nat} {h u : Nat} (b : Bfd w r L f row later) (hq : h ∈ row) (a : w.adj h u = true) (hu : f[u]? = some none) : Bfd w r L (f.set u (some (L + 1))) row (later ++ [u]) := by
  have hp := b.pos
  refine ⟨by rw [List.length_set]; exact b.len, hp, b.rt.set hu, fun v x hv => ?_, fun v hv => (b.now v hv).set hu, fun v hv => ?_, fun v x hv => ?_⟩
  · rcases hv.of_set hu with ⟨rfl, rfl⟩ | hv
    · refine ⟨by omega, ?_, Int.le_refl _⟩
      have := (b.val h L (b.now h hq)).2.1
      rw [show (L + 1).toNat = L.toNat + 1 by omega]
      exact .on this a
    · exact b.val v x hv
  · rcases List.mem_append.mp hv with m | m
    · exact (b.lat v m).set hu
    · cases List.mem_singleton.mp m
      exact .here hu
  · rcases hv.of_set hu with ⟨rfl, rfl⟩ | hv
    · exact .inl (by simp)
    · rcases b.cl v x hv with m | m
      · refine .inl ?_
        rw [← List.append_assoc]
        exact List.mem_append_left _ m
      · refine .inr fun z hz => ?_
        obtain ⟨y, hy, hyx⟩ := m z hz
        exact ⟨y, hy.set hu, hyx⟩
theorem Bfd.pop {w : Web} {r : Nat} {L : Int} {f : List (Option Int)} {h : Nat} {row later : List Nat} (b : Bfd w r L f (h :: row) later) (t : ∀ u, w.adj h u = true → ∃ y, Val f u y ∧ y ≤ L + 1) : Bfd w r L f row later := by
  refine ⟨b.len, b.pos, b.rt, b.val, fun v hv => b.now v (List.mem_cons_of_mem _ hv), b.lat, fun v x hv => ?_⟩
  rcases b.cl v x hv with m | m
  · rw [List.cons_append] at m
    rcases List.mem_cons.mp m with rfl | m
    · have := (b.now v List.mem_cons_self).only hv
      rw [← this]
      exact .inr t
    · exact .inl m
  · exact .inr m
theorem Bfd.turn {w : Web} {r : Nat} {L : Int} {f : List (Option Int)} {later : List Nat} (b : Bfd w r L f [] later) : Bfd w r (L + 1) f later [] := by
  have hp := b.pos
  exact ⟨b.len, by omega, b.rt, fun v x hv => by have := b.val v x hv; exact ⟨this.1, this.2.1, by omega⟩, b.lat, (fun v hv => nomatch hv), fun v x hv => by simpa using b.cl v x hv⟩
/-- the least number of steps -/
def Dist (w : Web) (r v : Nat) (d : Nat) : Prop := Walk w r v d ∧ ∀ m, Walk w r v m → d ≤ m
theorem Bfd.walk {w : Web} {r : Nat} {L : Int} {f : List (Option Int)} (b : Bfd w r L f [] []) {v m : Nat} (h : Walk w r v m) : ∃ y, Val f v y ∧ y ≤ m := by
  induction h with
  | here => exact ⟨0, b.rt, Int.le_refl _⟩
  | on h e ih =>
    obtain ⟨x, hx, hm⟩ := ih
    rcases b.cl _ x hx with z | z
    · cases z
    · obtain ⟨y, hy, hyx⟩ := z _ e
      exact ⟨y, hy, by rw [Int.natCast_succ]; omega⟩
theorem Bfd.dist {w : Web} {r : Nat} {L : Int} {f : List (Option Int)} (b : Bfd w r L f [] []) {v : Nat} {x : Int} (h : Val f v x) : 0 ≤ x ∧ Dist w r v x.toNat := by
  obtain ⟨h1, h2, _⟩ := b.val v x h
  refine ⟨h1, h2, fun m hm => ?_⟩
  obtain ⟨y, hy, hle⟩ := b.walk hm
  have := h.only hy
  omega
theorem Reach.walk {w : Web} {i j : Nat} (h : Reach w i j) : ∃ m, Walk w i j m := by
  induction h with
  | here => exact ⟨0, .here _⟩
  | on _ e ih => obtain ⟨m, hm⟩ := ih; exact ⟨m + 1, .on hm e⟩
/-- distances, as a list -/
structure Dists (w : Web) (r : Nat) (f : List (Option Int)) : Prop where
  len : f.length = w.n
  val : ∀ v x, Val f v x → 0 ≤ x ∧ Dist w r v x.toNat
  all : ∀ v, Reach w r v → ∃ x, Val f v x
theorem Bfd.dists {w : Web} {r : Nat} {L : Int} {f : List (Option Int)} (b : Bfd w r L f [] []) : Dists w r f :=
  ⟨b.len, fun v x h => b.dist h, fun v h => by
    obtain ⟨m, hm⟩ := h.walk
    obtain ⟨y, hy, _⟩ := b.walk hm
    exact ⟨y, hy⟩⟩
theorem ways_dist {w : Web} (hw : w.Ok) {r : Nat} (hr : r < w.n) : ∃ d, f_ways_from [.fz (nearD w), .fz (natD r)] = .ok d [] ∧ ∃ f, d = fD f ∧ Dists w r f := by
  have hm := hw.most
  refine W.fnP (P := fun d => ∃ f, d = fD f ∧ Dists w r f) rfl ?_
  unfold m_ways_from
  have hn : dLen [nearD w] = some (.int w.n) := by
    unfold nearD dLen
    simp
  refine .seq (.own (op2_ok (x1 := some (.list [.none])) (x2 := some (.int w.n)) (ρ1 := [.fz (nearD w), .fz (natD r), .no, .no, .no, .no, .no]) (ρ2 := [.fz (nearD w), .fz (natD r), .no, .no, .no, .no, .no]) (by simp [fnM, ownIx, backs, sRet, sSeq, sIf, sSet, sOwn, sDo, sNil, sAsg, Rs.sr, mOp2, Opd.ev, Opd.fin, at_, Sl.val, Rs.then, mLit, mVar, mB, mAnd, mOr, mNot, bAnd, bOr, bNot, mIf, bYes, mTup, mLst, evm, evo, fino, mFn, mCall, eva, sls, ioIx, putBack, Arg.opd, iSeq, iRng, fR1, fR2, sFor, tmName, tmTup, tmSeq, mApp, mExt, mPutAt, dPutAt, mIsi, dTy, isB, dEq, dNe, dLt, dLe, dGt, dGe, dIsN, dNotN, dAdd, dSub, dMod, dFdiv, dMul, dAt, dLen, dInt, dTuple, dList, mChain, sPar, setP]) (by simp [fnM, ownIx, backs, sRet, sSeq, sIf, sSet, sOwn, sDo, sNil, sAsg, Rs.sr, mOp2, Opd.ev, Opd.fin, at_, Sl.val, Rs.then, mLit, mVar, mB, mAnd, mOr, mNot, bAnd, bOr, bNot, mIf, bYes, mTup, mLst, evm, evo, fino, mFn, mCall, eva, sls, ioIx, putBack, Arg.opd, iSeq, iRng, fR1, fR2, sFor, tmName, tmTup, tmSeq, mApp, mExt, mPutAt, dPutAt, mIsi, dTy, isB, dEq, dNe, dLt, dLe, dGt, dGe, dIsN, dNotN, dAdd, dSub, dMod, dFdiv, dMul, dAt, dInt, dTuple, dList, mChain, sPar, setP, hn]) rfl rfl (rep_none hm)) ?_)
  show W _ [.fz (nearD w), .fz (natD r), .own (fD (List.replicate w.n none)), .no, .no, .no, .no] _ _
  have hf : Bfd w r 0 ((List.replicate w.n none).set r (some 0)) [r] [] := by
    have hn0 : (List.replicate w.n (none : Option Int))[r]? = some none := by rw [List.getElem?_replicate]; simp [hr]
    have hv : ∀ v x, Val ((List.replicate w.n (none : Option Int)).set r (some 0)) v x → v = r ∧ x = 0 := fun v x h => by
      rcases h.of_set hn0 with e | h
      · exact e
      · unfold Val at h
        rw [List.getElem?_replicate] at h
        split at h <;> cases h
    refine ⟨by simp, Int.le_refl _, .here hn0, fun v x h => ?_, fun v h => ?_, (fun v h => nomatch h), fun v x h => ?_⟩
    · obtain ⟨rfl, rfl⟩ := hv v x h
      exact ⟨Int.le_refl _, .here _, by omega⟩
    · cases List.mem_singleton.mp h
      exact .here hn0
    · obtain ⟨rfl, rfl⟩ := hv v x h
      exact .inl (by simp)
  refine .seq (.nx (ρ' := [.fz (nearD w), .fz (natD r), .own (fD ((List.replicate w.n none).set r (some 0))), .fz (.list ([r].map natD)), .no, .no, .no]) (by simp [fnM, ownIx, backs, sRet, sSeq, sIf, sSet, sOwn, sDo, sNil, sAsg, Rs.sr, mOp2, Opd.ev, Opd.fin, at_, Sl.val, Rs.then, mLit, mVar, mB, mAnd, mOr, mNot, bAnd, bOr, bNot, mIf, bYes, mTup, mLst, evm, evo, fino, mFn, mCall, eva, sls, ioIx, putBack, Arg.opd, iSeq, iRng, fR1, fR2, sFor, tmName, tmTup, tmSeq, mApp, mExt, mPutAt, dPutAt, mIsi, dTy, isB, dEq, dNe, dLt, dLe, dGt, dGe, dIsN, dNotN, dAdd, dSub, dMod, dFdiv, dMul, dAt, dLen, dInt, dTuple, dList, mChain, sPar, setP, sParT, asgP, asg1, fD, natD, ixN_nat, hr, optD, List.map_set]) ?_)
  refine .seq (.whileM (fun m ρ => ∃ (L : Int) (f : List (Option Int)) (row : List Nat) (x y z : Sl), ρ = [.fz (nearD w), .fz (natD r), .own (fD f), .fz (.list (row.map natD)), x, y, z] ∧ Bfd w r L f row [] ∧ m = nc f + min 1 row.length ∧ row.length ≤ w.n ∧ ∀ d, x ≠ .own d) ?_ _ (nc ((List.replicate w.n none).set r (some 0)) + 1) _ ?_ ⟨0, _, [r], _, _, _, rfl, hf, rfl, by simp; omega, by simp⟩)
  · rintro m _ ⟨L, f, row, x, y, z, rfl, bf, rfl, hl, hx⟩
    refine ⟨!row.isEmpty, [.fz (nearD w), .fz (natD r), .own (fD f), .fz (.list (row.map natD)), x, y, z], ?_, fun hne => ?_, fun he => ?_⟩
    · simp [fnM, ownIx, backs, sRet, sSeq, sIf, sSet, sOwn, sDo, sNil, sAsg, Rs.sr, mOp2, Opd.ev, Opd.fin, at_, Sl.val, Rs.then, mLit, mVar, mB, mAnd, mOr, mNot, bAnd, bOr, bNot, mIf, bYes, mTup, mLst, evm, evo, fino, mFn, mCall, eva, sls, ioIx, putBack, Arg.opd, iSeq, iRng, fR1, fR2, sFor, tmName, tmTup, tmSeq, mApp, mExt, mPutAt, dPutAt, mIsi, dTy, isB, dEq, dLt, dLe, dGt, dGe, dIsN, dNotN, dAdd, dSub, dMod, dFdiv, dMul, dAt, dLen, dInt, dTuple, dList, mChain, sPar, setP, ne_nil]
    · refine .seq (.nx (ρ' := [.fz (nearD w), .fz (natD r), .own (fD f), .fz (.list (row.map natD)), .own (.list (([] : List Nat).map natD)), y, z]) (by simp [fnM, ownIx, backs, sRet, sSeq, sIf, sSet, sOwn, sDo, sNil, sAsg, Rs.sr, mOp2, Opd.ev, Opd.fin, at_, Sl.val, Rs.then, mLit, mVar, mB, mAnd, mOr, mNot, bAnd, bOr, bNot, mIf, bYes, mTup, mLst, evm, evo, fino, mFn, mCall, eva, sls, ioIx, putBack, Arg.opd, iSeq, iRng, fR1, fR2, sFor, tmName, tmTup, tmSeq, mApp, mExt, mPutAt, dPutAt, mIsi, dTy, isB, dEq, dNe, dLt, dLe, dGt, dGe, dIsN, dNotN, dAdd, dSub, dMod, dFdiv, dMul, dAt, dLen, dInt, dTuple, dList, mChain, sPar, setP]) ?_)
      refine .seq (.forA (f := natD) (l := row) (ρ0 := [.fz (nearD w), .fz (natD r), .own (fD f), .fz (.list (row.map natD)), .own (.list (([] : List Nat).map natD)), y, z]) (fun k ρ => ∃ (f' : List (Option Int)) (later : List Nat) (y z : Sl), ρ = [.fz (nearD w), .fz (natD r), .own (fD f'), .fz (.list (row.map natD)), .own (.list (later.map natD)), y, z] ∧ Bfd w r L f' (row.drop k) later ∧ nc f' + min 1 later.length ≤ nc f ∧ later.length + nc f' ≤ w.n) (by simp [fnM, ownIx, backs, sRet, sSeq, sIf, sSet, sOwn, sDo, sNil, sAsg, Rs.sr, mOp2, Opd.ev, Opd.fin, at_, Sl.val, Rs.then, mLit, mVar, mB, mAnd, mOr, mNot, bAnd, bOr, bNot, mIf, bYes, mTup, mLst, evm, evo, fino, mFn, mCall, eva, sls, ioIx, putBack, Arg.opd, iSeq, iRng, fR1, fR2, sFor, tmName, tmTup, tmSeq, mApp, mExt, mPutAt, dPutAt, mIsi, dTy, isB, dEq, dNe, dLt, dLe, dGt, dGe, dIsN, dNotN, dAdd, dSub, dMod, dFdiv, dMul, dAt, dLen, dInt, dTuple, dList, mChain, sPar, setP]) ⟨f, [], y, z, rfl, by simpa using bf, by simp, by have := nc_le f; have := bf.len; simp; omega⟩ ?_ ?_)
      · rintro k h _ ek ⟨f1, later1, y, z, rfl, b1, c1, l1⟩
        have hk := look_lt ek
        have ed : row.drop k = h :: row.drop (k + 1) := by
          rw [List.drop_eq_getElem_cons hk]
          rw [List.getElem?_eq_getElem hk] at ek
          rw [Option.some.inj ek]
        rw [ed] at b1
        have hh : h < w.n := by
          have := look_lt (b1.now h List.mem_cons_self)
          rw [b1.len] at this
          exact this
        refine .forA (f := natD) (l := w.nbr h) (ρ0 := [.fz (nearD w), .fz (natD r), .own (fD f1), .fz (.list (row.map natD)), .own (.list (later1.map natD)), .fz (natD h), z]) (fun j ρ => ∃ (f' : List (Option Int)) (later : List Nat) (z : Sl), ρ = [.fz (nearD w), .fz (natD r), .own (fD f'), .fz (.list (row.map natD)), .own (.list (later.map natD)), .fz (natD h), z] ∧ Bfd w r L f' (h :: row.drop (k + 1)) later ∧ nc f' + min 1 later.length ≤ nc f ∧ later.length + nc f' ≤ w.n ∧ ∀ u ∈ (w.nbr h).take j, ∃ y, Val f' u y ∧ y ≤ L + 1) ?_ ⟨f1, later1, z, rfl, b1, c1, l1, by simp⟩ ?_ ?_
        · have := near_at' hh
          simp [fnM, ownIx, backs, sRet, sSeq, sIf, sSet, sOwn, sDo, sNil, sAsg, Rs.sr, mOp2, Opd.ev, Opd.fin, at_, Sl.val, Rs.then, mLit, mVar, mB, mAnd, mOr, mNot, bAnd, bOr, bNot, mIf, bYes, mTup, mLst, evm, evo, fino, mFn, mCall, eva, sls, ioIx, putBack, Arg.opd, iSeq, iRng, fR1, fR2, sFor, tmName, tmTup, tmSeq, mApp, mExt, mPutAt, dPutAt, mIsi, dTy, isB, dEq, dNe, dLt, dLe, dGt, dGe, dIsN, dNotN, dAdd, dSub, dMod, dFdiv, dMul, dLen, dInt, dTuple, dList, mChain, sPar, setP, this]
        · rintro j u _ ej ⟨f2, later2, z, rfl, b2, c2, l2, t2⟩
          have ha : w.adj h u = true := (Web.mem_nbr hw).mp (List.mem_of_getElem? ej)
          have hu : u < w.n := (Web.adj_lt hw ha).2.1
          have hx : f2[h]? = some (some L) := b2.now h List.mem_cons_self
          have hul : u < f2.length := by rw [b2.len]; exact hu
          have htake : (w.nbr h).take (j + 1) = (w.nbr h).take j ++ [u] := by rw [List.take_add_one, ej]; rfl
          cases eu : f2[u]? with
          | none => rw [List.getElem?_eq_getElem hul] at eu; cases eu
          | some o =>
            cases o with
            | none =>
              have hn := nc_set (L + 1) eu
              refine .ifT (ρ1 := [.fz (nearD w), .fz (natD r), .own (fD f2), .fz (.list (row.map natD)), .own (.list (later2.map natD)), .fz (natD h), .fz (natD u)]) (by simp [fnM, ownIx, backs, sRet, sSeq, sIf, sSet, sOwn, sDo, sNil, sAsg, Rs.sr, mOp2, Opd.ev, Opd.fin, at_, Sl.val, Rs.then, mLit, mVar, mB, mAnd, mOr, mNot, bAnd, bOr, bNot, mIf, bYes, mTup, mLst, evm, evo, fino, mFn, mCall, eva, sls, ioIx, putBack, Arg.opd, iSeq, iRng, fR1, fR2, sFor, tmName, tmTup, tmSeq, mApp, mExt, mPutAt, dPutAt, mIsi, dTy, isB, dEq, dNe, dLt, dLe, dGt, dGe, dIsN, dNotN, dAdd, dSub, dMod, dFdiv, dMul, dAt, dLen, dInt, dTuple, dList, mChain, sPar, setP, natD, fD, atI_nat, eu, optD]) (.seq (.nx (ρ' := [.fz (nearD w), .fz (natD r), .own (fD (f2.set u (some (L + 1)))), .fz (.list (row.map natD)), .own (.list (later2.map natD)), .fz (natD h), .fz (natD u)]) (by simp [fnM, ownIx, backs, sRet, sSeq, sIf, sSet, sOwn, sDo, sNil, sAsg, Rs.sr, mOp2, Opd.ev, Opd.fin, at_, Sl.val, Rs.then, mLit, mVar, mB, mAnd, mOr, mNot, bAnd, bOr, bNot, mIf, bYes, mTup, mLst, evm, evo, fino, mFn, mCall, eva, sls, ioIx, putBack, Arg.opd, iSeq, iRng, fR1, fR2, sFor, tmName, tmTup, tmSeq, mApp, mExt, mPutAt, dPutAt, mIsi, dTy, isB, dEq, dNe, dLt, dLe, dGt, dGe, dIsN, dNotN, dAdd, dSub, dMod, dFdiv, dMul, dAt, dLen, dInt, dTuple, dList, mChain, sPar, setP, natD, fD, atI_nat, hx, optD, ixN_nat, hul, List.map_set]) ?_))
              refine .app rfl (d := natD u) (ρ' := [.fz (nearD w), .fz (natD r), .own (fD (f2.set u (some (L + 1)))), .fz (.list (row.map natD)), .own (.list (later2.map natD)), .fz (natD h), .fz (natD u)]) rfl rfl (by simp; omega) ⟨f2.set u (some (L + 1)), later2 ++ [u], .fz (natD u), by simp, b2.add List.mem_cons_self ha eu, ?_, ?_, ?_⟩
              · simp; omega
              · simp; omega
              · intro v hv
                rw [htake] at hv
                rcases List.mem_append.mp hv with m | m
                · obtain ⟨y, hy, hyx⟩ := t2 v m
                  exact ⟨y, hy.set eu, hyx⟩
                · cases List.mem_singleton.mp m
                  exact ⟨_, .here eu, Int.le_refl _⟩
            | some o =>
              refine .nx (ρ' := [.fz (nearD w), .fz (natD r), .own (fD f2), .fz (.list (row.map natD)), .own (.list (later2.map natD)), .fz (natD h), .fz (natD u)]) ?_ ⟨_, _, _, rfl, b2, c2, l2, ?_⟩
              · simp [fnM, ownIx, backs, sRet, sSeq, sIf, sSet, sOwn, sDo, sNil, sAsg, Rs.sr, mOp2, Opd.ev, Opd.fin, at_, Sl.val, Rs.then, mLit, mVar, mB, mAnd, mOr, mNot, bAnd, bOr, bNot, mIf, bYes, mTup, mLst, evm, evo, fino, mFn, mCall, eva, sls, ioIx, putBack, Arg.opd, iSeq, iRng, fR1, fR2, sFor, tmName, tmTup, tmSeq, mApp, mExt, mPutAt, dPutAt, mIsi, dTy, isB, dEq, dNe, dLt, dLe, dGt, dGe, dIsN, dNotN, dAdd, dSub, dMod, dFdiv, dMul, dAt, dLen, dInt, dTuple, dList, mChain, sPar, setP, natD, fD, atI_nat, eu, optD]
              · intro v hv
                rw [htake] at hv
                rcases List.mem_append.mp hv with m | m
                · exact t2 v m
                · cases List.mem_singleton.mp m
                  exact ⟨o, eu, (b2.val u o eu).2.2⟩
        · rintro _ ⟨f2, later2, z, rfl, b2, c2, l2, t2⟩
          rw [List.take_length] at t2
          exact ⟨f2, later2, _, z, rfl, b2.pop fun u hu => t2 u ((Web.mem_nbr hw).mpr hu), c2, l2⟩
      · rintro _ ⟨f1, later1, y, z, rfl, b1, c1, l1⟩
        rw [List.drop_length] at b1
        refine .nx (ρ' := [.fz (nearD w), .fz (natD r), .own (fD f1), .fz (.list (later1.map natD)), .fz (.list (later1.map natD)), y, z]) (by simp [fnM, ownIx, backs, sRet, sSeq, sIf, sSet, sOwn, sDo, sNil, sAsg, Rs.sr, mOp2, Opd.ev, Opd.fin, at_, Sl.val, Rs.then, mLit, mVar, mB, mAnd, mOr, mNot, bAnd, bOr, bNot, mIf, bYes, mTup, mLst, evm, evo, fino, mFn, mCall, eva, sls, ioIx, putBack, Arg.opd, iSeq, iRng, fR1, fR2, sFor, tmName, tmTup, tmSeq, mApp, mExt, mPutAt, dPutAt, mIsi, dTy, isB, dEq, dNe, dLt, dLe, dGt, dGe, dIsN, dNotN, dAdd, dSub, dMod, dFdiv, dMul, dAt, dLen, dInt, dTuple, dList, mChain, sPar, setP]) ⟨_, ?_, L + 1, f1, later1, _, _, _, rfl, b1.turn, rfl, by omega, by simp⟩
        cases row with
        | nil => cases hne
        | cons a l => simp; omega
    · have : row = [] := by cases row with
        | nil => rfl
        | cons a l => cases he
      subst this
      exact .rt (d := fD f) (ρ' := [.fz (nearD w), .fz (natD r), .fz (fD f), .fz (.list (([] : List Nat).map natD)), x, y, z]) (by simp [fnM, ownIx, backs, sRet, sSeq, sIf, sSet, sOwn, sDo, sNil, sAsg, Rs.sr, mOp2, Opd.ev, Opd.fin, at_, Sl.val, Rs.then, mLit, mVar, mB, mAnd, mOr, mNot, bAnd, bOr, bNot, mIf, bYes, mTup, mLst, evm, evo, fino, mFn, mCall, eva, sls, ioIx, putBack, Arg.opd, iSeq, iRng, fR1, fR2, sFor, tmName, tmTup, tmSeq, mApp, mExt, mPutAt, dPutAt, mIsi, dTy, isB, dEq, dNe, dLt, dLe, dGt, dGe, dIsN, dNotN, dAdd, dSub, dMod, dFdiv, dMul, dAt, dLen, dInt, dTuple, dList, mChain, sPar, setP]) ⟨f, rfl, bf.dists⟩
  · have := nc_le ((List.replicate w.n (none : Option Int)).set r (some 0))
    simp at this
    omega

set_option autoImplicit false
theorem Walk.cons {w : Web} {i j k m : Nat} (e : w.adj i j = true) (h : Walk w j k m) : Walk w i k (m + 1) := by
  induction h with
  | here => exact .on (.here _) e
  | on _ e' ih => exact .on ih e'
theorem Walk.symm {w : Web} {i j m : Nat} (h : Walk w i j m) : Walk w j i m := by
  induction h with
  | here => exact .here _
  | on _ e ih => exact ih.cons (by rw [Web.adj_comm]; exact e)
theorem Walk.lt {w : Web} (hw : w.Ok) {i j m : Nat} (hi : i < w.n) (h : Walk w i j m) : j < w.n := h.reach.lt hw hi
section
variable {w : Web} {s : List Int} {g : Nat → Int}
/-- a greatest height stands no farther away -/
def TopBy (w : Web) (g : Nat → Int) (i k : Nat) : Prop := ∃ j d, j < w.n ∧ g j = 0 ∧ d ≤ k ∧ Walk w j i d
theorem TopBy.mono {i k l : Nat} (h : TopBy w g i k) (hk : k ≤ l) : TopBy w g i l := by
  obtain ⟨j, d, h1, h2, h3, h4⟩ := h
  exact ⟨j, d, h1, h2, by omega, h4⟩
end

set_option autoImplicit false
open Classical in
noncomputable def rowF (w : Web) (i : Nat) : List (Option Int) := if h : ∃ f, f_ways_from [.fz (nearD w), .fz (natD i)] = .ok (fD f) [] ∧ Dists w i f then h.choose else []
theorem rowF_ok {w : Web} (hw : w.Ok) {i : Nat} (hi : i < w.n) : f_ways_from [.fz (nearD w), .fz (natD i)] = .ok (fD (rowF w i)) [] ∧ Dists w i (rowF w i) := by
  obtain ⟨d, e, f, rfl, hf⟩ := ways_dist hw hi
  have h : ∃ f, f_ways_from [.fz (nearD w), .fz (natD i)] = .ok (fD f) [] ∧ Dists w i f := ⟨f, e, hf⟩
  unfold rowF
  rw [dif_pos h]
  exact h.choose_spec
theorem has_at {f : List (Option Int)} {v : Nat} (hv : v < f.length) : (dAt (fD f) (natD v)).bind (fun d => dNotN d .none) = some (.bool (hasB f v)) := by
  rw [fD_at]
  unfold hasB
  rw [List.getElem?_eq_getElem hv]
  cases f[v] <;> rfl

set_option autoImplicit false
/-- a list of what may be, as a dict -/
structure Dct (f : List (Option Int)) (l : List (Nat × Int)) : Prop where
  mem : ∀ v x, Val f v x ↔ (v, x) ∈ l
  nd : (l.map (·.1)).Nodup
theorem Dct.has {f : List (Option Int)} {l : List (Nat × Int)} (h : Dct f l) (v : Nat) : v ∈ l.map (·.1) ↔ Has f v := by
  refine ⟨fun hv => ?_, fun ⟨x, hx⟩ => List.mem_map.mpr ⟨(v, x), (h.mem v x).mp hx, rfl⟩⟩
  obtain ⟨p, hp, rfl⟩ := List.mem_map.mp hv
  exact ⟨p.2, (h.mem p.1 p.2).mpr hp⟩
theorem Dct.add {f : List (Option Int)} {l : List (Nat × Int)} (h : Dct f l) {u : Nat} {y : Int} (hu : f[u]? = some none) : u ∉ l.map (·.1) ∧ Dct (f.set u (some y)) (l ++ [(u, y)]) := by
  have hn : u ∉ l.map (·.1) := fun z => by
    obtain ⟨x, hx⟩ := (h.has u).mp z
    rw [hu] at hx
    cases hx
  refine ⟨hn, fun v x => ⟨fun hv => ?_, fun hv => ?_⟩, ?_⟩
  · rcases hv.of_set hu with ⟨rfl, rfl⟩ | hv
    · simp
    · exact List.mem_append_left _ ((h.mem v x).mp hv)
  · rcases List.mem_append.mp hv with m | m
    · exact ((h.mem v x).mpr m).set hu
    · cases List.mem_singleton.mp m
      exact .here hu
  · rw [List.map_append]
    exact List.nodup_append.mpr ⟨h.nd, by simp, fun a ha b hb e => by
      cases List.mem_singleton.mp hb
      rw [show a = u from e] at ha
      exact hn ha⟩
theorem Dct.few {f : List (Option Int)} {l : List (Nat × Int)} (h : Dct f l) : l.length ≤ f.length := by
  have := nat_few f.length (l.map (·.1)) h.nd fun v hv => by
    obtain ⟨x, hx⟩ := (h.has v).mp hv
    exact look_lt hx
  rwa [List.length_map] at this

set_option autoImplicit false
theorem W.put {m : ME} {ix : Opd} {i : Nat} {ρ ρ1 ρ2 : Env} {d c0 c c' kd : D} {x : Option D} {N : Env → Prop} {R : D → Env → Prop} (h1 : m ρ = .ok d ρ1) (h2 : at_ ρ1 i = some c0) (h3 : ix.ev ρ1 = .ok x ρ2) (h4 : ix.fin x ρ2 = some kd) (h5 : ρ2[i]? = some (.own c)) (h6 : dPutAt c kd d = some c') (h : N (ρ2.set i (.own c'))) : W (sAsg m (mPutAt i ix)) ρ N R := by
  refine .nx ?_ h
  unfold sAsg
  rw [h1]
  simp only [Rs.sr]
  have : mPutAt i ix d ρ1 = .ok () (ρ2.set i (.own c')) := by
    unfold mPutAt
    rw [h2]
    simp only [h3, Rs.then]
    rw [h4, h5]
    simp only [h6]
  rw [this]
open Classical in
noncomputable def compL (w : Web) (x : Nat) : List Nat := (List.range w.n).filter fun v => decide (Reach w x v)
theorem mem_compL {w : Web} {x v : Nat} : v ∈ compL w x ↔ v < w.n ∧ Reach w x v := by
  unfold compL
  simp
theorem compL_len (w : Web) (x : Nat) : (compL w x).length ≤ w.n := by
  unfold compL
  exact Nat.le_trans (List.length_filter_le _ _) (by simp)

set_option autoImplicit false
theorem sRet_ex {m : ME} {ρ ρ1 : Env} {e : Exn} (h : m ρ = .ex e ρ1) : sRet m ρ = .ex e ρ1 := by
  unfold sRet
  rw [h]
  rfl
theorem sSet_ex {m : ME} {i : Nat} {ρ ρ1 : Env} {e : Exn} (h : m ρ = .ex e ρ1) : sSet i m ρ = .ex e ρ1 := by
  unfold sSet
  rw [h]
  rfl

set_option autoImplicit false

set_option autoImplicit false
open Classical in
noncomputable def leads (w : Web) (k : Nat) : List Nat := (List.range k).filter fun x => decide (∀ y, y < x → ¬ Reach w y x)
theorem mem_leads {w : Web} {k x : Nat} : x ∈ leads w k ↔ x < k ∧ ∀ y, y < x → ¬ Reach w y x := by
  unfold leads
  simp
theorem lead_of (w : Web) (y : Nat) : ∃ x, x ≤ y ∧ Reach w x y ∧ ∀ z, z < x → ¬ Reach w z x := by
  induction y using Nat.strongRecOn with
  | ind y ih =>
    by_cases h : ∀ z, z < y → ¬ Reach w z y
    · exact ⟨y, Nat.le_refl _, .here y, h⟩
    · obtain ⟨z, hz⟩ := Classical.not_forall.mp h
      obtain ⟨hz1, hz2⟩ := Classical.not_imp.mp hz
      have hz3 : Reach w z y := Classical.not_not.mp hz2
      obtain ⟨x, h1, h2, h3⟩ := ih z hz1
      exact ⟨x, by omega, h2.trans hz3, h3⟩
theorem leads_succ (w : Web) (k : Nat) : (leads w (k + 1) = leads w k ++ [k] ∧ ∀ y, y < k → ¬ Reach w y k) ∨ (leads w (k + 1) = leads w k ∧ ∃ y, y < k ∧ Reach w y k) := by
  unfold leads
  rw [List.range_succ, List.filter_append]
  by_cases h : ∀ y, y < k → ¬ Reach w y k
  · refine .inl ⟨?_, h⟩
    rw [List.filter_cons_of_pos (by simpa using h), List.filter_nil]
  · refine .inr ⟨?_, ?_⟩
    · rw [List.filter_cons_of_neg (by simpa using h), List.filter_nil, List.append_nil]
    · obtain ⟨z, hz⟩ := Classical.not_forall.mp h
      obtain ⟨hz1, hz2⟩ := Classical.not_imp.mp hz
      exact ⟨z, hz1, Classical.not_not.mp hz2⟩
noncomputable def partsL (w : Web) (k : Nat) : List (List Nat) := (leads w k).map (compL w)
theorem in_parts {w : Web} {k : Nat} (hk : k < w.n) : k ∈ (partsL w k).flatten ↔ ∃ y, y < k ∧ Reach w y k := by
  unfold partsL
  rw [List.mem_flatten]
  constructor
  · rintro ⟨p, hp, hkp⟩
    obtain ⟨x, hx, rfl⟩ := List.mem_map.mp hp
    exact ⟨x, (mem_leads.mp hx).1, (mem_compL.mp hkp).2⟩
  · rintro ⟨y, hy, r⟩
    obtain ⟨x, h1, h2, h3⟩ := lead_of w y
    exact ⟨compL w x, List.mem_map.mpr ⟨x, mem_leads.mpr ⟨by omega, h3⟩, rfl⟩, mem_compL.mpr ⟨hk, h2.trans r⟩⟩
theorem row_comp {w : Web} (hw : w.Ok) {k : Nat} (hk : k < w.n) : (List.range w.n).filter (hasB (rowF w k)) = compL w k := by
  have hd := (rowF_ok hw hk).2
  classical
  unfold compL
  refine List.filter_congr fun v hv => ?_
  rw [Bool.eq_iff_iff, hasB_iff, decide_eq_true_iff]
  refine ⟨fun ⟨y, hy⟩ => (hd.val v y hy).2.1.reach, fun h => ?_⟩
  obtain ⟨y, hy⟩ := hd.all v h
  exact ⟨y, hy⟩
theorem parts_len (w : Web) (k : Nat) : (partsL w k).length ≤ k := by
  unfold partsL leads
  rw [List.length_map]
  exact Nat.le_trans (List.length_filter_le _ _) (by simp)
theorem flat_len (w : Web) (k : Nat) : (partsL w k).flatten.length ≤ k * w.n := by
  have h : ∀ l : List Nat, (l.map (compL w)).flatten.length ≤ l.length * w.n := fun l => by
    induction l with
    | nil => simp
    | cons x l ih =>
      rw [List.map_cons, List.flatten_cons, List.length_append, List.length_cons, Nat.succ_mul]
      have := compL_len w x
      omega
  have h1 := h (leads w k)
  have h2 := parts_len w k
  unfold partsL at h2
  rw [List.length_map] at h2
  exact Nat.le_trans h1 (Nat.mul_le_mul_right _ h2)
theorem notin_nat (l : List Nat) (v : Nat) : dNotIn (natD v) (.list (l.map natD)) = some (.bool (decide (v ∉ l))) := by
  unfold dNotIn
  rw [has_nat]
  simp
theorem parts_exact {w : Web} (hw : w.Ok) : f_parts_of [.fz (webD w)] = .ok (.list ((partsL w w.n).map tupN)) [] := by
  have hm := hw.most
  refine W.fn0 rfl ?_
  unfold m_parts_of
  have e0 : mCall f_near_lists [.v (mVar 0)] [.fz (webD w), .no, .no, .no, .no, .no, .no, .no] = .ok (nearD w) [.fz (webD w), .no, .no, .no, .no, .no, .no, .no] := mCall_0 (xs := [some (webD w)]) (ss := [.fz (webD w)]) rfl rfl (near_eq hw)
  refine .seq (.par (ds := [nearD w, .list [], .list []]) (ρ1 := [.fz (webD w), .no, .no, .no, .no, .no, .no, .no]) ?_ ?_)
  · show evm [mCall f_near_lists [.v (mVar 0)], mLst [], mLst []] [.fz (webD w), .no, .no, .no, .no, .no, .no, .no] = _
    exact evm_cons e0 (evm_cons (ρ1 := [.fz (webD w), .no, .no, .no, .no, .no, .no, .no]) rfl (evm_cons (ρ1 := [.fz (webD w), .no, .no, .no, .no, .no, .no, .no]) rfl rfl))
  show W _ [.fz (webD w), .fz (nearD w), .own (.list (([] : List (List Nat)).map tupN)), .own (.list (([] : List Nat).map natD)), .no, .no, .no, .no] _ _
  refine .seq (.forA (f := natD) (l := List.range w.n) (ρ0 := [.fz (webD w), .fz (nearD w), .own (.list (([] : List (List Nat)).map tupN)), .own (.list (([] : List Nat).map natD)), .no, .no, .no, .no]) (fun k ρ => ∃ (x4 x5 x6 : Sl), ρ = [.fz (webD w), .fz (nearD w), .own (.list ((partsL w k).map tupN)), .own (.list ((partsL w k).flatten.map natD)), x4, x5, x6, .no]) ?_ ⟨.no, .no, .no, rfl⟩ ?_ ?_)
  · exact rng_map (xs := [some (natD w.n)]) (by simp [fnM, ownIx, backs, sRet, sSeq, sIf, sSet, sOwn, sDo, sNil, sAsg, Rs.sr, mOp2, Opd.ev, Opd.fin, at_, Sl.val, Rs.then, mLit, mVar, mB, mAnd, mOr, mNot, bAnd, bOr, bNot, mIf, bYes, mTup, mLst, evm, evo, fino, mFn, mCall, eva, sls, ioIx, putBack, Arg.opd, iSeq, iRng, fR1, fR2, sFor, tmName, tmTup, tmSeq, mApp, mExt, mPutAt, dPutAt, mIsi, dTy, isB, dEq, dNe, dLt, dLe, dGt, dGe, dIsN, dNotN, dAdd, dSub, dMod, dFdiv, dMul, dLen, dInt, dTuple, dList, mChain, sPar, setP, web_0]) rfl (by omega)
  · rintro k a _ ek ⟨x4, x5, x6, rfl⟩
    have hk : k < w.n := by
      have := look_lt ek
      rw [List.length_range] at this
      exact this
    rw [List.getElem?_range hk] at ek
    cases ek
    show W _ [.fz (webD w), .fz (nearD w), .own (.list ((partsL w k).map tupN)), .own (.list ((partsL w k).flatten.map natD)), .fz (natD k), x5, x6, .no] _ _
    have ht : mB (mOp2 dNotIn (.sl 4) (.sl 3)) [.fz (webD w), .fz (nearD w), .own (.list ((partsL w k).map tupN)), .own (.list ((partsL w k).flatten.map natD)), .fz (natD k), x5, x6, .no] = .ok (decide (k ∉ (partsL w k).flatten)) [.fz (webD w), .fz (nearD w), .own (.list ((partsL w k).map tupN)), .own (.list ((partsL w k).flatten.map natD)), .fz (natD k), x5, x6, .no] := mB_ok (op2_ok (x1 := none) (x2 := none) (ρ1 := [.fz (webD w), .fz (nearD w), .own (.list ((partsL w k).map tupN)), .own (.list ((partsL w k).flatten.map natD)), .fz (natD k), x5, x6, .no]) rfl rfl rfl rfl (notin_nat _ _))
    rcases leads_succ w k with ⟨hs, hno⟩ | ⟨hs, hyes⟩
    · have hin : k ∉ (partsL w k).flatten := fun h => by
        obtain ⟨y, h1, h2⟩ := (in_parts hk).mp h
        exact hno y h1 h2
      rw [decide_eq_true hin] at ht
      obtain ⟨e1, hd⟩ := rowF_ok hw hk
      refine .ifT ht (.seq (.set' (d := fD (rowF w k)) (ρ' := [.fz (webD w), .fz (nearD w), .own (.list ((partsL w k).map tupN)), .own (.list ((partsL w k).flatten.map natD)), .fz (natD k), x5, x6, .no]) (mCall_0 (xs := [some (nearD w), some (natD k)]) (ss := [.fz (nearD w), .fz (natD k)]) rfl rfl e1) ?_))
      show W _ [.fz (webD w), .fz (nearD w), .own (.list ((partsL w k).map tupN)), .own (.list ((partsL w k).flatten.map natD)), .fz (natD k), .fz (fD (rowF w k)), x6, .no] _ _
      have hcm := mComp_of (f := natD) (i := 7) (it := iRng fR1 [.ex (mOp2 dAt (.sl 0) (.ex (mLit (.int 0))))]) (cd := mB (mOp2 dNotN (.ex (mOp2 dAt (.sl 5) (.sl 7))) (.ex (mLit .none)))) (elt := mVar 7) (hasB (rowF w k)) natD
        (ρ := [.fz (webD w), .fz (nearD w), .own (.list ((partsL w k).map tupN)), .own (.list ((partsL w k).flatten.map natD)), .fz (natD k), .fz (fD (rowF w k)), x6, .no]) (ρ1 := [.fz (webD w), .fz (nearD w), .own (.list ((partsL w k).map tupN)), .own (.list ((partsL w k).flatten.map natD)), .fz (natD k), .fz (fD (rowF w k)), x6, .no]) (ds := List.range w.n)
        (rng_map (xs := [some (natD w.n)]) rfl rfl (by omega)) (.no rfl) (fun j hj => ?_) (fun j hj _ => rfl) (by simp; omega)
      · rw [row_comp hw hk] at hcm
        have hcl := compL_len w k
        have hpl := parts_len w k
        have hfl := flat_len w k
        have hfl2 : k * w.n ≤ 10 * 10 := Nat.mul_le_mul (by omega) hm
        refine .seq (.set' (d := tupN (compL w k)) (mFn_1 hcm rfl) ?_)
        refine .seq (.app rfl (d := tupN (compL w k)) (ρ' := [.fz (webD w), .fz (nearD w), .own (.list ((partsL w k).map tupN)), .own (.list ((partsL w k).flatten.map natD)), .fz (natD k), .fz (fD (rowF w k)), .fz (tupN (compL w k)), .no]) rfl rfl (by rw [List.length_map]; omega) ?_)
        refine .ext (b := true) (es := (compL w k).map natD) (d := tupN (compL w k)) rfl rfl rfl rfl (by rw [List.length_map, List.length_map]; omega) ⟨.fz (natD k), .fz (fD (rowF w k)), .fz (tupN (compL w k)), ?_⟩
        have ep : partsL w (k + 1) = partsL w k ++ [compL w k] := by
          unfold partsL
          rw [hs, List.map_append]
          rfl
        rw [ep, List.flatten_append, List.map_append, List.map_append]
        simp
      · have hjl : j < (rowF w k).length := by rw [hd.len]; exact List.mem_range.mp hj
        have hh := has_at hjl
        show mB (mOp2 dNotN (.ex (mOp2 dAt (.sl 5) (.sl 7))) (.ex (mLit .none))) [.fz (webD w), .fz (nearD w), .own (.list ((partsL w k).map tupN)), .own (.list ((partsL w k).flatten.map natD)), .fz (natD k), .fz (fD (rowF w k)), x6, .fz (natD j)] = .ok _ [.fz (webD w), .fz (nearD w), .own (.list ((partsL w k).map tupN)), .own (.list ((partsL w k).flatten.map natD)), .fz (natD k), .fz (fD (rowF w k)), x6, .fz (natD j)]
        cases ea : dAt (fD (rowF w k)) (natD j) with
        | none => rw [ea] at hh; cases hh
        | some d =>
          rw [ea] at hh
          have e1 : mOp2 dAt (.sl 5) (.sl 7) [.fz (webD w), .fz (nearD w), .own (.list ((partsL w k).map tupN)), .own (.list ((partsL w k).flatten.map natD)), .fz (natD k), .fz (fD (rowF w k)), x6, .fz (natD j)] = .ok d [.fz (webD w), .fz (nearD w), .own (.list ((partsL w k).map tupN)), .own (.list ((partsL w k).flatten.map natD)), .fz (natD k), .fz (fD (rowF w k)), x6, .fz (natD j)] := op2_ok (x1 := none) (x2 := none) (ρ1 := [.fz (webD w), .fz (nearD w), .own (.list ((partsL w k).map tupN)), .own (.list ((partsL w k).flatten.map natD)), .fz (natD k), .fz (fD (rowF w k)), x6, .fz (natD j)]) rfl rfl rfl rfl ea
          exact mB_ok (op2_ok (x2 := some .none) (ev_ex e1) rfl rfl rfl hh)
    · have hin : k ∈ (partsL w k).flatten := (in_parts hk).mpr hyes
      rw [decide_eq_false (fun z => z hin)] at ht
      refine .ifF ht (.nil ⟨.fz (natD k), x5, x6, ?_⟩)
      have ep : partsL w (k + 1) = partsL w k := by unfold partsL; rw [hs]
      rw [ep]
  · rintro _ ⟨x4, x5, x6, rfl⟩
    rw [List.length_range]
    exact .ret (d := .list ((partsL w w.n).map tupN)) (ρ' := [.fz (webD w), .fz (nearD w), .fz (.list ((partsL w w.n).map tupN)), .own (.list ((partsL w w.n).flatten.map natD)), x4, x5, x6, .no]) rfl rfl

set_option autoImplicit false
theorem Dist.symm {w : Web} {i j d : Nat} (h : Dist w i j d) : Dist w j i d := ⟨h.1.symm, fun m hm => h.2 m hm.symm⟩
theorem Dist.only {w : Web} {i j d e : Nat} (h : Dist w i j d) (h' : Dist w i j e) : d = e := Nat.le_antisymm (h.2 e h'.1) (h'.2 d h.1)
def FarO (w : Web) (i j : Nat) (o : Option Int) : Prop := (o = none ∧ ¬ Reach w i j) ∨ ∃ d : Nat, o = some (d : Int) ∧ Dist w i j d
theorem FarO.only {w : Web} {i j : Nat} {o o' : Option Int} (h : FarO w i j o) (h' : FarO w i j o') : o = o' := by
  rcases h with ⟨rfl, h⟩ | ⟨d, rfl, h⟩
  · rcases h' with ⟨rfl, _⟩ | ⟨e, _, h'⟩
    · rfl
    · exact absurd h'.1.reach h
  · rcases h' with ⟨_, h'⟩ | ⟨e, rfl, h'⟩
    · exact absurd h.1.reach h'
    · rw [h.only h']
theorem FarO.symm {w : Web} {i j : Nat} {o : Option Int} (h : FarO w i j o) : FarO w j i o := by
  rcases h with ⟨rfl, h⟩ | ⟨d, rfl, h⟩
  · exact .inl ⟨rfl, fun r => h r.symm⟩
  · exact .inr ⟨d, rfl, h.symm⟩
theorem mRef_exF {m : ME} {ρ ρ' : Env} {x w f : Str} {d : D} (h : m ρ = .ex ⟨x, some (f, d)⟩ ρ') (hc : codeFOf x = some (w, f)) : mRef m ρ = .ok (.tuple [.str w, d]) ρ' := by
  unfold mRef
  rw [h]
  simp only [hc, if_true]
abbrev exW (d : D) : Exn := ⟨"BadWeb", some ("index", d)⟩

set_option autoImplicit false
section
variable {ρ ρ' ρ1 ρ2 : Env}
theorem mVar_fz {i : Nat} {d : D} (h : ρ[i]? = some (.fz d)) : mVar i ρ = .ok d ρ := by unfold mVar; rw [h]
theorem mVar_own {i : Nat} {d : D} (h : ρ[i]? = some (.own d)) : mVar i ρ = .ok d (ρ.set i (.fz d)) := by unfold mVar; rw [h]
theorem mLit_ok {d : D} : mLit d ρ = .ok d ρ := rfl
theorem ev_sl {i : Nat} {d : D} (h : at_ ρ i = some d) : (Opd.sl i).ev ρ = .ok none ρ := by
  show (match at_ ρ i with | some _ => _ | none => _) = _
  rw [h]
theorem evo_nil : evo [] ρ = .ok [] ρ := rfl
theorem evo_cons {o : Opd} {os : List Opd} {x : Option D} {xs : List (Option D)} (h1 : o.ev ρ = .ok x ρ1) (h2 : evo os ρ1 = .ok xs ρ2) : evo (o :: os) ρ = .ok (x :: xs) ρ2 := by
  show (o.ev ρ).then _ = _
  rw [h1]
  show (evo os ρ1).then _ = _
  rw [h2]
  rfl
theorem evm_nil : evm [] ρ = .ok [] ρ := rfl
theorem eva_nil : eva [] ρ = .ok [] ρ := rfl
theorem eva_io {i : Nat} {d : D} {as : List Arg} {xs : List (Option D)} (h : at_ ρ i = some d) (h2 : eva as ρ = .ok xs ρ2) : eva (.io i :: as) ρ = .ok (none :: xs) ρ2 := eva_cons (a := .io i) (ev_sl h) h2
theorem mCall_io {f : FM} {as : List Arg} {xs : List (Option D)} {ss : List Sl} {d : D} {b : List D} (h1 : eva as ρ = .ok xs ρ1) (h2 : sls as xs ρ1 = some ss) (h3 : f ss = .ok d b) (h4 : putBack (ioIx as) b ρ1 = ρ2) : mCall f as ρ = .ok d ρ2 := by
  rw [← h4]
  exact mCall_ok h1 h2 h3
theorem mCall_n {f : FM} {as : List Arg} {xs : List (Option D)} {ss : List Sl} {d : D} (hio : ioIx as = []) (h1 : eva as ρ = .ok xs ρ1) (h2 : sls as xs ρ1 = some ss) (h3 : f ss = .ok d []) : mCall f as ρ = .ok d ρ1 := mCall_0 h1 h2 h3
theorem mTup_ok {ms : List ME} {ds : List D} (h : evm ms ρ = .ok ds ρ') : mTup ms ρ = .ok (.tuple ds) ρ' := by
  unfold mTup; rw [h]; rfl
theorem mLst_ok {ms : List ME} {ds : List D} (h : evm ms ρ = .ok ds ρ') : mLst ms ρ = .ok (.list ds) ρ' := by
  unfold mLst; rw [h]; rfl
theorem mNot_ok {m : ME} {b : Bool} (h : m ρ = .ok (.bool b) ρ') : mNot m ρ = .ok (.bool (!b)) ρ' := by
  unfold mNot; rw [h]; rfl
theorem mNeg_ok {m : ME} {i : Int} (h : m ρ = .ok (.int i) ρ') : mNeg m ρ = .ok (.int (-i)) ρ' := by
  unfold mNeg; rw [h]; rfl
theorem mOr_T {m n : ME} (h : m ρ = .ok (.bool true) ρ1) : mOr m n ρ = .ok (.bool true) ρ1 := by
  unfold mOr; rw [h]; rfl
theorem mOr_F {m n : ME} {d : D} (h : m ρ = .ok (.bool false) ρ1) (h2 : n ρ1 = .ok d ρ2) : mOr m n ρ = .ok d ρ2 := by
  unfold mOr; rw [h]; exact h2
theorem mIf_t {t : MB} {m n : ME} {d : D} (h : t ρ = .ok true ρ1) (h2 : m ρ1 = .ok d ρ2) : mIf t m n ρ = .ok d ρ2 := by rw [mIf_T h, h2]
theorem mIf_f {t : MB} {m n : ME} {d : D} (h : t ρ = .ok false ρ1) (h2 : n ρ1 = .ok d ρ2) : mIf t m n ρ = .ok d ρ2 := by rw [mIf_F h, h2]
theorem iSeq_L {m : ME} {ds : List D} (h : m ρ = .ok (.list ds) ρ') : iSeq m ρ = .ok ds ρ' := by
  unfold iSeq; rw [h]; rfl
theorem iSeq_T {m : ME} {ds : List D} (h : m ρ = .ok (.tuple ds) ρ') : iSeq m ρ = .ok ds ρ' := by
  unfold iSeq; rw [h]; rfl
theorem mChain_ok {g g' : D → D → Option D} {o1 o2 o3 : Opd} {x1 x2 x3 : Option D} {d1 d2 d3 d : D} {ρ3 : Env} (h1 : o1.ev ρ = .ok x1 ρ1) (h2 : o2.ev ρ1 = .ok x2 ρ2) (f1 : o1.fin x1 ρ2 = some d1) (f2 : o2.fin x2 ρ2 = some d2) (hg : g d1 d2 = some (.bool true)) (h3 : o3.ev ρ2 = .ok x3 ρ3) (f2' : o2.fin x2 ρ3 = some d2) (f3 : o3.fin x3 ρ3 = some d3) (hg' : g' d2 d3 = some d) : mChain g g' o1 o2 o3 ρ = .ok d ρ3 := by
  unfold mChain
  rw [h1]
  simp only [Rs.then]
  rw [h2]
  simp only [Rs.then]
  rw [f1, f2]
  simp only [hg]
  rw [h3]
  simp only [Rs.then]
  rw [f2', f3]
  simp only [hg']
end
theorem bNot_T {m : MB} {ρ ρ' : Env} (h : m ρ = .ok false ρ') : bNot m ρ = .ok true ρ' := bNot_ok h
theorem bNot_F {m : MB} {ρ ρ' : Env} (h : m ρ = .ok true ρ') : bNot m ρ = .ok false ρ' := bNot_ok h
theorem rng_nat {os : List Opd} {ρ ρ1 : Env} {xs : List (Option D)} {n : Nat} (h1 : evo os ρ = .ok xs ρ1) (h2 : fino os xs ρ1 = some [natD n]) (hb : n ≤ 1000000) : iRng fR1 os ρ = .ok ((List.range n).map natD) ρ1 := rng_map h1 h2 hb
theorem st_at' {n : Nat} {s : List Int} {i : Nat} (hs : StOk n s) (h : i < n) : dAt (stD s) (natD i) = some (.int (mood s i)) := st_at (by rw [hs.len]; exact h)
theorem eq_nat (i j : Nat) : dEq (natD i) (natD j) = some (.bool (decide (i = j))) := by
  unfold natD
  rw [eq_int]
  exact congrArg (fun b => some (PyData.bool b)) (decide_eq_decide.mpr (by omega))
theorem gt_int (a b : Int) : dGt (.int a) (.int b) = some (.bool (decide (b < a))) := rfl
theorem isi_T {Ts : List String} {o : Opd} {ρ ρ' : Env} {x : Option D} {t : String} (h : o.ev ρ = .ok x ρ') (h2 : (o.fin x ρ').bind dTy = some t) (h3 : (Ts.any fun T => isB t T) = true) : mIsi Ts o ρ = .ok (.bool true) ρ' := by
  rw [isi_ok h h2, h3]
theorem isi_F {Ts : List String} {o : Opd} {ρ ρ' : Env} {x : Option D} {t : String} (h : o.ev ρ = .ok x ρ') (h2 : (o.fin x ρ').bind dTy = some t) (h3 : (Ts.any fun T => isB t T) = false) : mIsi Ts o ρ = .ok (.bool false) ρ' := by
  rw [isi_ok h h2, h3]
structure X (m : SM) (ρ : Env) (e : Exn) : Prop where
  run : ∃ ρ', m ρ = .ex e ρ'
section
variable {ρ ρ' : Env} {e : Exn}
theorem X.fn {len n : Nat} {m : SM} {ss : List Sl} (h : ownIx 0 ss = []) (h2 : X m (ss ++ List.replicate (len - n) .no) e) : fnM len n [] m ss = .ex e := by
  obtain ⟨ρ, h2⟩ := h2
  exact fn_ex h h2
theorem X.seq {a b : SM} (h : W a ρ (fun ρ' => X b ρ' e) fun _ _ => False) : X (sSeq a b) ρ e := by
  obtain ⟨h⟩ := h
  cases q : a ρ with
  | nx ρ' =>
    rw [q] at h
    obtain ⟨ρ2, h⟩ := h.run
    exact ⟨ρ2, by rw [seq_nx q, h]⟩
  | rt d ρ' => rw [q] at h; exact h.elim
  | ex x ρ' => rw [q] at h; exact h.elim
  | stuck => rw [q] at h; exact h.elim
theorem X.here {a b : SM} (h : X a ρ e) : X (sSeq a b) ρ e := by
  obtain ⟨ρ', h⟩ := h
  exact ⟨ρ', seq_ex h⟩
theorem X.do' {m : ME} (h : m ρ = .ex e ρ') : X (sDo m) ρ e := ⟨ρ', sDo_ex h⟩
theorem X.set' {m : ME} {i : Nat} (h : m ρ = .ex e ρ') : X (sSet i m) ρ e := ⟨ρ', sSet_ex h⟩
theorem X.own' {m : ME} {i : Nat} (h : m ρ = .ex e ρ') : X (sOwn i m) ρ e := ⟨ρ', by unfold sOwn; rw [h]; rfl⟩
theorem X.ret {m : ME} (h : m ρ = .ex e ρ') : X (sRet m) ρ e := ⟨ρ', sRet_ex h⟩
theorem X.ifT {t : MB} {a b : SM} (h : t ρ = .ok true ρ') (h2 : X a ρ' e) : X (sIf t a b) ρ e := by
  obtain ⟨ρ2, h2⟩ := h2
  exact ⟨ρ2, if_ex h h2⟩
theorem X.raise {c : Str} : X (sRaise c) ρ ⟨c, none⟩ := ⟨_, rfl⟩
theorem X.raiseF {c f : Str} {m : ME} {d : D} (h : m ρ = .ok d ρ') : X (sRaiseF c f m) ρ ⟨c, some (f, d)⟩ := ⟨ρ', by unfold sRaiseF; rw [h]; rfl⟩
end
theorem mCut_lo {o : Opd} {m : ME} {ρ ρ1 ρ2 : Env} {x : Option D} {i : Nat} {c d : D} (h1 : o.ev ρ = .ok x ρ1) (h2 : m ρ1 = .ok (natD i) ρ2) (h3 : o.fin x ρ2 = some c) (h4 : dCut c none (some (i : Int)) = some d) : mCut o none (some m) ρ = .ok d ρ2 := by
  unfold mCut
  rw [h1]
  simp only [Rs.then, oI]
  rw [h2]
  simp only [Rs.then, natD]
  rw [h3]
  simp only [Option.bind, h4]
theorem mCut_hi {o : Opd} {m : ME} {ρ ρ1 ρ2 : Env} {x : Option D} {i : Nat} {c d : D} (h1 : o.ev ρ = .ok x ρ1) (h2 : m ρ1 = .ok (natD i) ρ2) (h3 : o.fin x ρ2 = some c) (h4 : dCut c (some (i : Int)) none = some d) : mCut o (some m) none ρ = .ok d ρ2 := by
  unfold mCut
  rw [h1]
  simp only [Rs.then, oI]
  rw [h2]
  simp only [Rs.then, natD]
  rw [h3]
  simp only [Option.bind, h4]
theorem add_nat1 (i : Nat) : dAdd (natD i) (.int 1) = some (natD (i + 1)) := rfl
theorem sub_nat1 {i : Nat} (h : 1 ≤ i) : dSub (natD i) (.int 1) = some (natD (i - 1)) := by
  show some (PyData.int ((i : Int) - 1)) = some (.int ((i - 1 : Nat) : Int))
  rw [show ((i - 1 : Nat) : Int) = (i : Int) - 1 by omega]
theorem len_T (ds : List D) : dLen [.tuple ds] = some (natD ds.length) := rfl
theorem len_L (ds : List D) : dLen [.list ds] = some (natD ds.length) := rfl
theorem at_T (ds : List D) (i : Nat) : dAt (.tuple ds) (natD i) = ds[i]? := by
  show atI ds (i : Int) = _
  rw [atI_nat]
theorem at_L (ds : List D) (i : Nat) : dAt (.list ds) (natD i) = ds[i]? := by
  show atI ds (i : Int) = _
  rw [atI_nat]
section
variable {m : ME} {ρ ρ' : Env} {d : D}
abbrev exN (x : Str) : Exn := ⟨x, none⟩
abbrev exWalk (d : D) : Exn := ⟨"BadWalk", some ("index", d)⟩
abbrev exM (d : D) : Exn := ⟨"TooMany", some ("most", d)⟩
abbrev exT (d : D) : Exn := ⟨"InvalidText", some ("word", d)⟩
theorem mRef_web (h : m ρ = .ex (exW d) ρ') : mRef m ρ = .ok (.tuple [.str "web", d]) ρ' := mRef_exF h (by decide)
theorem mRef_walk (h : m ρ = .ex (exWalk d) ρ') : mRef m ρ = .ok (.tuple [.str "walk", d]) ρ' := mRef_exF h (by decide)
theorem mRef_many (h : m ρ = .ex (exM d) ρ') : mRef m ρ = .ok (.tuple [.str "many", d]) ρ' := mRef_exF h (by decide)
theorem mRef_word (h : m ρ = .ex (exT d) ρ') : mRef m ρ = .ok (.tuple [.str "word", d]) ρ' := mRef_exF h (by decide)
theorem mRef_state (h : m ρ = .ex (exN "BadState") ρ') : mRef m ρ = .ok (.str "state") ρ' := mRef_ex h (by decide)
theorem mRef_folk (h : m ρ = .ex (exN "BadFolk") ρ') : mRef m ρ = .ok (.str "folk") ρ' := mRef_ex h (by decide)
theorem mRef_number (h : m ρ = .ex (exN "BadNumber") ρ') : mRef m ρ = .ok (.str "number") ρ' := mRef_ex h (by decide)
theorem mRef_street (h : m ρ = .ex (exN "BadStreet") ρ') : mRef m ρ = .ok (.str "street") ρ' := mRef_ex h (by decide)
theorem mRef_order (h : m ρ = .ex (exN "BadOrder") ρ') : mRef m ρ = .ok (.str "order") ρ' := mRef_ex h (by decide)
theorem mRef_resting (h : m ρ = .ex (exN "NotResting") ρ') : mRef m ρ = .ok (.str "resting") ρ' := mRef_ex h (by decide)
theorem mRef_text (h : m ρ = .ex (exN "NotText") ρ') : mRef m ρ = .ok (.str "text") ρ' := mRef_ex h (by decide)
end

set_option autoImplicit false
theorem stp_anti (s : List Int) (a b : Nat) : stp s b a = - stp s a b := by unfold stp; omega
theorem stp_le (s : List Int) (a b : Nat) : -1 ≤ stp s a b ∧ stp s a b ≤ 1 := by unfold stp; omega
/-- a walk of so many steps with a sum -/
inductive Wk (w : Web) (s : List Int) : Nat → Nat → Nat → Int → Prop where
  | nil (a : Nat) : Wk w s a a 0 0
  | stay {a b k : Nat} {c : Int} : Wk w s a b k c → Wk w s a b (k + 1) c
  | go {a b d k : Nat} {c : Int} : w.adj a b = true → Wk w s b d k c → Wk w s a d (k + 1) (stp s a b + c)
section
variable {w : Web} {s : List Int}
theorem Wk.append {a b d k l : Nat} {c e : Int} (h : Wk w s a b k c) (h2 : Wk w s b d l e) : Wk w s a d (k + l) (c + e) := by
  induction h with
  | nil a => rw [Nat.zero_add, Int.zero_add]; exact h2
  | @stay a b k c _ ih => rw [show k + 1 + l = k + l + 1 by omega]; exact .stay (ih h2)
  | @go a b d k c e' _ ih => rw [show k + 1 + l = k + l + 1 by omega, Int.add_assoc]; exact .go e' (ih h2)
theorem Wk.one {a b : Nat} {c : Int} (h : Wk w s a b 1 c) : (a = b ∧ c = 0) ∨ (w.adj a b = true ∧ c = stp s a b) := by
  cases h with
  | stay h => cases h; exact .inl ⟨rfl, rfl⟩
  | go e h => cases h; exact .inr ⟨e, by omega⟩
theorem Wk.rev {a b k : Nat} {c : Int} (h : Wk w s a b k c) : Wk w s b a k (-c) := by
  induction h with
  | nil a => exact .nil a
  | stay _ ih => have := ih.append (.stay (.nil _)); rw [Int.add_zero] at this; exact this
  | @go a b d k c e _ ih =>
    have := ih.append (.go (by rw [Web.adj_comm]; exact e) (.nil _))
    rw [stp_anti, show -c + (-stp s a b + 0) = -(stp s a b + c) by omega] at this
    exact this
theorem Reach.trans' {i j k : Nat} (h : Reach w i j) (h2 : Reach w j k) : Reach w i k := by
  induction h2 with
  | here => exact h
  | on _ e ih => exact .on ih e
theorem Wk.reach {a b k : Nat} {c : Int} (h : Wk w s a b k c) : Reach w a b := by
  induction h with
  | nil a => exact .here _
  | stay _ ih => exact ih
  | go e _ ih => exact (Reach.on (.here _) e).trans' ih
theorem Reach.wk {a b : Nat} (h : Reach w a b) : ∃ k c, Wk w s a b k c := by
  induction h with
  | here => exact ⟨0, 0, .nil a⟩
  | on _ e ih =>
    obtain ⟨k, c, h⟩ := ih
    exact ⟨_, _, h.append (.go e (.nil _))⟩
theorem Wk.lt (hw : w.Ok) {a b k : Nat} {c : Int} (h : Wk w s a b k c) (ha : a < w.n) : b < w.n := by
  induction h with
  | nil a => exact ha
  | stay _ ih => exact ih ha
  | go e _ ih => exact ih (Web.adj_lt hw e).2.1
theorem Wk.le {a b k : Nat} {c : Int} (h : Wk w s a b k c) : -(k : Int) ≤ c ∧ c ≤ k := by
  induction h with
  | nil a => omega
  | stay _ ih => omega
  | @go a b d k c e _ ih => have := stp_le s a b; omega
theorem cntM_mono : ∀ {k l a : Nat}, k ≤ l → cnt w s k a ≤ cnt w s l a := by
  intro k l a h
  induction h with
  | refl => exact Int.le_refl _
  | @step l _ ih =>
    show cnt w s k a ≤ cnt w s l a + if hot w (runL w s l) a = true then 1 else 0
    split <;> omega
def PathF (w : Web) : Nat → List Nat → Prop
  | _, [] => True
  | a, b :: r => w.adj a b = true ∧ PathF w b r
def sumF (s : List Int) : Nat → List Nat → Int
  | _, [] => 0
  | a, b :: r => stp s a b + sumF s b r
def endF : Nat → List Nat → Nat
  | a, [] => a
  | _, b :: r => endF b r
theorem PathF.append {a : Nat} {X Y : List Nat} : PathF w a (X ++ Y) ↔ PathF w a X ∧ PathF w (endF a X) Y := by
  induction X generalizing a with
  | nil => simp [PathF, endF]
  | cons b r ih => simp only [List.cons_append, PathF, endF, ih, and_assoc]
theorem sumF_append {a : Nat} {X Y : List Nat} : sumF s a (X ++ Y) = sumF s a X + sumF s (endF a X) Y := by
  induction X generalizing a with
  | nil => simp [sumF, endF]
  | cons b r ih => simp only [List.cons_append, sumF, endF, ih]; omega
theorem endF_append {a : Nat} {X Y : List Nat} : endF a (X ++ Y) = endF (endF a X) Y := by
  induction X generalizing a with
  | nil => rfl
  | cons b r ih => simp only [List.cons_append, endF, ih]
theorem endF_mem (a : Nat) (X : List Nat) : endF a X ∈ a :: X := by
  induction X generalizing a with
  | nil => exact List.mem_cons_self
  | cons b r ih => exact List.mem_cons_of_mem _ (ih b)
theorem endF_mem' (a : Nat) {X : List Nat} (h : X ≠ []) : endF a X ∈ X := by
  cases X with
  | nil => exact absurd rfl h
  | cons b r => exact endF_mem b r
theorem PathF.lt (hw : w.Ok) {a : Nat} {X : List Nat} (h : PathF w a X) {x : Nat} (hx : x ∈ X) : x < w.n := by
  induction X generalizing a with
  | nil => cases hx
  | cons b r ih =>
    rcases List.mem_cons.mp hx with rfl | hx
    · exact (Web.adj_lt hw h.1).2.1
    · exact ih h.2 hx
theorem PathF.wk {a : Nat} {X : List Nat} (h : PathF w a X) : Wk w s a (endF a X) X.length (sumF s a X) := by
  induction X generalizing a with
  | nil => exact .nil a
  | cons b r ih => exact .go h.1 (ih h.2)
/-- a ring, told by its first and the others -/
structure RingF (w : Web) (a : Nat) (X : List Nat) : Prop where
  nd : (a :: X).Nodup
  len : 2 ≤ X.length
  path : PathF w a X
  back : w.adj (endF a X) a = true
def rsumF (s : List Int) (a : Nat) (X : List Nat) : Int := sumF s a (X ++ [a])
theorem RingF.full {a : Nat} {X : List Nat} (h : RingF w a X) : PathF w a (X ++ [a]) := PathF.append.mpr ⟨h.path, h.back, trivial⟩
theorem RingF.wk {a : Nat} {X : List Nat} (h : RingF w a X) : Wk w s a a (X.length + 1) (rsumF s a X) := by
  have := h.full.wk (s := s)
  rw [endF_append, List.length_append] at this
  exact this
/-- what is gone round twice is left out -/
theorem erase (hw : w.Ok) {p q : Int} {x : Nat} (hp : 0 ≤ p) (hq : 0 < q) (hr : ∀ a X, Reach w x a → RingF w a X → rsumF s a X * q ≤ p * ((X.length : Int) + 1)) {a b k : Nat} {c : Int} (h : Wk w s a b k c) (hx : Reach w x a) :
    ∃ P, (a :: P).Nodup ∧ PathF w a P ∧ endF a P = b ∧ c * q - p * k ≤ sumF s a P * q - p * (P.length : Int) := by
  induction h with
  | nil a => exact ⟨[], by simp, trivial, rfl, by simp [sumF]⟩
  | @stay a b k c _ ih =>
    obtain ⟨P, h1, h2, h3, h4⟩ := ih hx
    refine ⟨P, h1, h2, h3, ?_⟩
    rw [show ((k + 1 : Nat) : Int) = (k : Int) + 1 by omega, Int.mul_add]
    omega
  | @go a b d k c e _ ih =>
    obtain ⟨P, h1, h2, h3, h4⟩ := ih (.on hx e)
    rw [show ((k + 1 : Nat) : Int) = (k : Int) + 1 by omega, Int.mul_add, Int.add_mul]
    by_cases ha : a ∈ b :: P
    · have hab : a ≠ b := (Web.adj_lt hw e).2.2
      have haP : a ∈ P := by
        rcases List.mem_cons.mp ha with z | z
        · exact absurd z hab
        · exact z
      obtain ⟨X, Y, rfl⟩ := List.append_of_mem haP
      have hY := (PathF.append.mp h2).2
      refine ⟨Y, ?_, hY.2, ?_, ?_⟩
      · have := (List.nodup_cons.mp h1).2
        exact (List.nodup_append.mp this).2.1
      · rw [endF_append] at h3; exact h3
      · rw [sumF_append] at h4
        have hl : ((X ++ a :: Y).length : Int) = (X.length : Int) + 1 + Y.length := by rw [List.length_append, List.length_cons]; omega
        rw [hl, Int.mul_add, Int.mul_add, Int.add_mul] at h4
        simp only [sumF] at h4
        rw [Int.add_mul] at h4
        cases hX : X with
        | nil =>
          subst hX
          simp only [sumF, endF, List.length_nil] at h4
          have h5 := stp_anti s a b
          have h6 : stp s b a * q = -(stp s a b * q) := by rw [h5, Int.neg_mul]
          simp at h4
          omega
        | cons x X' =>
          have hR : RingF w a (b :: X) := by
            refine ⟨?_, by rw [hX]; simp, ⟨e, (PathF.append.mp h2).1⟩, hY.1⟩
            have h7 := List.nodup_cons.mp h1
            have h8 := List.nodup_append.mp h7.2
            refine List.nodup_cons.mpr ⟨fun z => ?_, List.nodup_cons.mpr ⟨fun z => h7.1 (List.mem_append_left _ z), h8.1⟩⟩
            rcases List.mem_cons.mp z with z | z
            · exact hab z
            · exact h8.2.2 a z a List.mem_cons_self rfl
          have h9 := hr _ _ hx hR
          have h10 : rsumF s a (b :: X) = stp s a b + (sumF s b X + (stp s (endF b X) a + 0)) := by
            unfold rsumF
            show stp s a b + sumF s b (X ++ [a]) = _
            rw [sumF_append]
            rfl
          rw [h10, Int.add_mul, Int.add_mul, Int.add_zero, show (((b :: X).length : Nat) : Int) = (X.length : Int) + 1 by rw [List.length_cons]; omega, Int.mul_add, Int.mul_add] at h9
          omega
    · exact ⟨b :: P, List.nodup_cons.mpr ⟨ha, h1⟩, ⟨e, h2⟩, h3, by
        show stp s a b * q + c * q - (p * k + p * 1) ≤ (stp s a b + sumF s b P) * q - p * ((P.length + 1 : Nat) : Int)
        rw [show ((P.length + 1 : Nat) : Int) = (P.length : Int) + 1 by omega, Int.mul_add, Int.add_mul]
        omega⟩
theorem round_le (hw : w.Ok) {p q : Int} {x : Nat} (hp : 0 ≤ p) (hq : 0 < q) (hr : ∀ a X, Reach w x a → RingF w a X → rsumF s a X * q ≤ p * ((X.length : Int) + 1)) {a k : Nat} {c : Int} (h : Wk w s a a k c) (hx : Reach w x a) : c * q ≤ p * k := by
  obtain ⟨P, h1, h2, h3, h4⟩ := erase hw hp hq hr h hx
  cases P with
  | nil => simp [sumF] at h4; omega
  | cons b r =>
    have := endF_mem' a (X := b :: r) (by simp)
    rw [h3] at this
    exact absurd this (List.nodup_cons.mp h1).1
theorem Ht.sum {g : Nat → Int} (hg : Ht w s g) {a : Nat} {X : List Nat} (h : PathF w a X) : sumF s a X = g (endF a X) - g a := by
  induction X generalizing a with
  | nil => simp [sumF, endF]
  | cons b r ih =>
    have := hg a b h.1
    have := ih h.2
    simp only [sumF, endF]
    omega
theorem Ht.ring {g : Nat → Int} (hg : Ht w s g) {a : Nat} {X : List Nat} (h : RingF w a X) : rsumF s a X = 0 := by
  unfold rsumF
  rw [hg.sum h.full, endF_append]
  show g a - g a = 0
  omega
theorem ht_of_rings (hw : w.Ok) (h : ∀ a X, RingF w a X → rsumF s a X ≤ 0) : ∃ g, Ht w s g := by
  have hc : ∀ {a k : Nat} {c : Int}, Wk w s a a k c → c ≤ 0 := fun {a k c} hh => by
    have := round_le hw (p := 0) (q := 1) (x := a) (by omega) (by omega) (fun a X _ hR => by have := h a X hR; omega) hh (.here _)
    omega
  have h0 : ∀ {a k : Nat} {c : Int}, Wk w s a a k c → c = 0 := fun hh => by
    have h1 := hc hh
    have h2 := hc hh.rev
    omega
  have hpick : ∀ v, ∃ c : Int, ∃ x k, (∀ z, z < x → ¬ Reach w z v) ∧ Wk w s x v k c := fun v => by
    obtain ⟨x, h1, h2, h3⟩ : ∃ x, x ≤ v ∧ Reach w x v ∧ ∀ z, z < x → ¬ Reach w z v := by
      have : ∀ m, (∃ x, x ≤ m ∧ Reach w x v) → ∃ x, x ≤ m ∧ Reach w x v ∧ ∀ z, z < x → ¬ Reach w z v := by
        intro m
        induction m with
        | zero => rintro ⟨x, hx, hr⟩; exact ⟨x, hx, hr, fun z hz => by omega⟩
        | succ m ih =>
          rintro ⟨x, hx, hr⟩
          by_cases hm : ∃ x, x ≤ m ∧ Reach w x v
          · obtain ⟨y, a1, a2, a3⟩ := ih hm
            exact ⟨y, by omega, a2, a3⟩
          · exact ⟨x, hx, hr, fun z hz hz2 => hm ⟨z, by omega, hz2⟩⟩
      exact this v ⟨v, Nat.le_refl _, .here _⟩
    obtain ⟨k, c, hk⟩ := h2.wk (s := s)
    exact ⟨c, x, k, h3, hk⟩
  refine ⟨fun v => Classical.choose (hpick v), fun a b e => ?_⟩
  obtain ⟨x, k, hx, hk⟩ := Classical.choose_spec (hpick a)
  obtain ⟨y, l, hy, hl⟩ := Classical.choose_spec (hpick b)
  have hxy : x = y := by
    have r1 : Reach w x b := .on hk.reach e
    have r2 : Reach w y a := .on hl.reach (by rw [Web.adj_comm]; exact e)
    rcases Nat.lt_trichotomy x y with z | z | z
    · exact absurd r1 (hy x z)
    · exact z
    · exact absurd r2 (hx y z)
  subst hxy
  have h3 := h0 ((hk.append (.go e (.nil _))).append hl.rev)
  show Classical.choose (hpick b) - Classical.choose (hpick a) = stp s a b
  omega
end

set_option autoImplicit false
section
variable {w : Web} {s : List Int}
theorem RingF.turn {a b : Nat} {X Y : List Nat} (h : RingF w a (X ++ b :: Y)) : RingF w b (Y ++ a :: X) ∧ rsumF s b (Y ++ a :: X) = rsumF s a (X ++ b :: Y) := by
  have hf := h.full
  rw [List.append_assoc, PathF.append] at hf
  have h1 : PathF w a (X ++ [b]) := PathF.append.mpr ⟨hf.1, hf.2.1, trivial⟩
  have h2 : PathF w b (Y ++ [a]) := hf.2.2
  have h3 : PathF w b ((Y ++ [a]) ++ (X ++ [b])) := PathF.append.mpr ⟨h2, by rw [endF_append]; exact h1⟩
  have h4 : (Y ++ [a]) ++ (X ++ [b]) = (Y ++ a :: X) ++ [b] := by simp
  rw [h4, PathF.append] at h3
  refine ⟨⟨?_, ?_, h3.1, h3.2.1⟩, ?_⟩
  · refine List.Perm.nodup ?_ h.nd
    refine List.perm_iff_count.mpr fun z => ?_
    simp only [List.count_cons, List.count_append]
    omega
  · have := h.len
    simp only [List.length_append, List.length_cons] at this ⊢
    omega
  · unfold rsumF
    rw [← h4, show (X ++ b :: Y) ++ [a] = (X ++ [b]) ++ (Y ++ [a]) by simp, sumF_append (X := Y ++ [a]) (Y := X ++ [b]), sumF_append (X := X ++ [b]) (Y := Y ++ [a]), endF_append, endF_append]
    show sumF s b (Y ++ [a]) + sumF s a (X ++ [b]) = sumF s a (X ++ [b]) + sumF s b (Y ++ [a])
    omega
theorem leastN : ∀ (l : List Nat), l ≠ [] → ∃ m ∈ l, ∀ y ∈ l, m ≤ y
  | [], h => absurd rfl h
  | [a], _ => ⟨a, by simp, by simp⟩
  | a :: b :: l, _ => by
    obtain ⟨m, h1, h2⟩ := leastN (b :: l) (by simp)
    by_cases h : a ≤ m
    · exact ⟨a, by simp, fun y hy => by
        rcases List.mem_cons.mp hy with rfl | hy
        · exact Nat.le_refl _
        · exact Nat.le_trans h (h2 y hy)⟩
    · exact ⟨m, List.mem_cons_of_mem _ h1, fun y hy => by
        rcases List.mem_cons.mp hy with rfl | hy
        · omega
        · exact h2 y hy⟩
/-- a ring that begins with its least one -/
structure RingL (w : Web) (a : Nat) (X : List Nat) : Prop where
  ring : RingF w a X
  least : ∀ x ∈ X, a < x
theorem PathF.reach {a : Nat} {X : List Nat} (h : PathF w a X) {x : Nat} (hx : x ∈ a :: X) : Reach w a x := by
  induction X generalizing a with
  | nil => cases List.mem_singleton.mp hx; exact .here _
  | cons b r ih =>
    rcases List.mem_cons.mp hx with rfl | hx
    · exact .here _
    · exact (Reach.on (.here _) h.1).trans' (ih h.2 hx)
theorem RingF.lead {a : Nat} {X : List Nat} (h : RingF w a X) : ∃ b Y, RingL w b Y ∧ Y.length = X.length ∧ rsumF s b Y = rsumF s a X ∧ Reach w a b := by
  obtain ⟨b, h1, h2⟩ := leastN (a :: X) (by simp)
  by_cases hb : b = a
  · subst hb
    refine ⟨b, X, ⟨h, fun x hx => ?_⟩, rfl, rfl, .here _⟩
    have := h2 x (List.mem_cons_of_mem _ hx)
    have hne : b ≠ x := fun z => (List.nodup_cons.mp h.nd).1 (z ▸ hx)
    omega
  · have hbX : b ∈ X := by
      rcases List.mem_cons.mp h1 with z | z
      · exact absurd z hb
      · exact z
    obtain ⟨Y, Z, rfl⟩ := List.append_of_mem hbX
    obtain ⟨h3, h4⟩ := h.turn (s := s)
    refine ⟨b, Z ++ a :: Y, ⟨h3, fun x hx => ?_⟩, ?_, h4, h.path.reach h1⟩
    · have hx2 : x ∈ a :: (Y ++ b :: Z) := by
        rcases List.mem_append.mp hx with z | z
        · exact List.mem_cons_of_mem _ (List.mem_append_right _ (List.mem_cons_of_mem _ z))
        · rcases List.mem_cons.mp z with rfl | z
          · exact List.mem_cons_self
          · exact List.mem_cons_of_mem _ (List.mem_append_left _ z)
      have h5 := h2 x hx2
      have hne : b ≠ x := fun z => (List.nodup_cons.mp h3.nd).1 (z ▸ hx)
      omega
    · simp only [List.length_append, List.length_cons]
      omega
structure Sp (w : Web) (s : List Int) (x p q : Nat) : Prop where
  pos : 0 < q
  low : Nat.gcd p q = 1
  most : ∀ a X, Reach w x a → RingF w a X → rsumF s a X * q ≤ p * ((X.length : Int) + 1)
  some : p = 0 ∨ ∃ a X, Reach w x a ∧ RingF w a X ∧ rsumF s a X * q = p * ((X.length : Int) + 1)
theorem frac_eq {p q p' q' : Nat} (h1 : 0 < q) (h2 : 0 < q') (g1 : Nat.gcd p q = 1) (g2 : Nat.gcd p' q' = 1) (e : p * q' = p' * q) : p = p' ∧ q = q' := by
  have d1 : q ∣ q' := by
    have : q ∣ p * q' := ⟨p', by rw [e, Nat.mul_comm]⟩
    exact Nat.Coprime.dvd_of_dvd_mul_left (Nat.coprime_comm.mp g1) this
  have d2 : q' ∣ q := by
    have : q' ∣ p' * q := ⟨p, by rw [← e, Nat.mul_comm]⟩
    exact Nat.Coprime.dvd_of_dvd_mul_left (Nat.coprime_comm.mp g2) this
  have hq := Nat.dvd_antisymm d1 d2
  subst hq
  exact ⟨Nat.eq_of_mul_eq_mul_right h1 e, rfl⟩
/-- what is reached by a round is at most what is over all rounds -/
theorem frac_le {p q p' q' L : Nat} {c : Int} (hL : 0 < L) (h1 : c * q = p * (L : Int)) (h2 : c * q' ≤ p' * (L : Int)) : p * q' ≤ p' * q := by
  have h3 : (p : Int) * L * q' ≤ p' * L * q := by
    rw [← h1, Int.mul_right_comm c, ← Int.mul_right_comm (p' : Int)]
    calc c * q' * q ≤ p' * L * q := Int.mul_le_mul_of_nonneg_right h2 (by omega)
      _ = _ := by rw [Int.mul_right_comm]
  have h4 : ((p * q' * L : Nat) : Int) ≤ ((p' * q * L : Nat) : Int) := by
    simp only [Int.natCast_mul]
    rw [Int.mul_right_comm (p : Int), Int.mul_right_comm (p' : Int)]
    exact h3
  have h5 : p * q' * L ≤ p' * q * L := by omega
  exact Nat.le_of_mul_le_mul_right h5 hL
theorem Sp.only {x p q p' q' : Nat} (h : Sp w s x p q) (h' : Sp w s x p' q') : p = p' ∧ q = q' := by
  refine frac_eq h.pos h'.pos h.low h'.low (Nat.le_antisymm ?_ ?_)
  · rcases h.some with rfl | ⟨a, X, h1, h2, h3⟩
    · rw [Nat.zero_mul]; exact Nat.zero_le _
    · exact frac_le (L := X.length + 1) (by omega) h3 (h'.most a X h1 h2)
  · rcases h'.some with rfl | ⟨a, X, h1, h2, h3⟩
    · rw [Nat.zero_mul]; exact Nat.zero_le _
    · exact frac_le (L := X.length + 1) (by omega) h3 (h.most a X h1 h2)
end

set_option autoImplicit false
theorem fold_of (f : List Int → Option Int) (l : List Int) : dFold f [.list (l.map PyData.int)] = (f l).map PyData.int := by
  show ((dInts (l.map PyData.int)).bind f).map PyData.int = _
  rw [dInts_of]
  rfl
local macro_rules | `(tactic| decreasing_trivial_pre_omega) => `(tactic| first
  | with_reducible assumption
  | ((with_reducible apply law_step_eq) <;> first | assumption | omega | (simp; done))
  | ((with_reducible apply law_near_eq) <;> first | assumption | omega | (simp; done))
  | ((with_reducible apply step_eq) <;> first | assumption | omega | (simp; done))
  | ((with_reducible apply need_both_ok) <;> first | assumption | omega | (simp; done))
  | ((with_reducible apply need_web_ok) <;> first | assumption | omega | (simp; done))
  | ((with_reducible apply parts_exact) <;> first | assumption | omega | (simp; done))
  | ((with_reducible apply rowF_ok.1) <;> first | assumption | omega | (simp; done))
  | ((with_reducible apply near_eq) <;> first | assumption | omega | (simp; done))
  | ((with_reducible apply in_adj) <;> first | assumption | omega | (simp; done))
  | ((with_reducible apply near_at') <;> first | assumption | omega | (simp; done))
  | ((with_reducible apply web_1) <;> first | assumption | omega | (simp; done))
  | ((with_reducible apply web_0) <;> first | assumption | omega | (simp; done))
  | ((with_reducible apply st_at') <;> first | assumption | omega | (simp; done))
  | ((with_reducible apply st_at) <;> first | assumption | omega | (simp; done))
  | ((with_reducible apply gt_int) <;> first | assumption | omega | (simp; done))
  | ((with_reducible apply eq_nat) <;> first | assumption | omega | (simp; done))
  | ((with_reducible apply eq_int) <;> first | assumption | omega | (simp; done))
  | ((with_reducible apply ne_int) <;> first | assumption | omega | (simp; done))
  | ((with_reducible apply cat_tup) <;> first | assumption | omega | (simp; done))
  | ((with_reducible apply cat_st) <;> first | assumption | omega | (simp; done))
  | ((with_reducible apply len_L) <;> first | assumption | omega | (simp; done))
  | ((with_reducible apply len_T) <;> first | assumption | omega | (simp; done))
  | ((with_reducible apply sub_nat1) <;> first | assumption | omega | (simp; done))
  | ((with_reducible apply add_nat1) <;> first | assumption | omega | (simp; done)))
local macro_rules | `(tactic| array_get_dec) => `(tactic| first
  | with_reducible assumption
  | with_reducible exact mLit_ok
  | ((with_reducible apply mVar_fz); rfl)
  | ((with_reducible apply mVar_own); rfl)
  | ((with_reducible apply ev_sl); rfl)
  | ((with_reducible apply ev_ex); array_get_dec)
  | with_reducible exact evo_nil
  | ((with_reducible apply evo_cons); (· array_get_dec); (· array_get_dec))
  | with_reducible exact eva_nil
  | ((with_reducible apply eva_v); (· array_get_dec); (· array_get_dec))
  | ((with_reducible apply eva_io); (· rfl); (· array_get_dec))
  | with_reducible exact evm_nil
  | ((with_reducible apply evm_cons); (· array_get_dec); (· array_get_dec))
  | ((with_reducible apply op2_ok); (· array_get_dec); (· array_get_dec); (· rfl); (· rfl); (· first | decreasing_trivial_pre_omega | rfl))
  | ((with_reducible apply mFn_ok); (· array_get_dec); (· rfl); (· first | decreasing_trivial_pre_omega | rfl))
  | ((with_reducible apply mCall_n); (· rfl); (· array_get_dec); (· rfl); (· decreasing_trivial_pre_omega))
  | ((with_reducible apply mCall_io); (· array_get_dec); (· rfl); (· decreasing_trivial_pre_omega); (· first | (simp only [ioIx, putBack, List.set_cons_zero, List.set_cons_succ]; done) | (simp only [ioIx, putBack, List.set_cons_zero, List.set_cons_succ]; rfl)))
  | ((with_reducible apply mRef_web); array_get_dec; done)
  | ((with_reducible apply mRef_folk); array_get_dec; done)
  | ((with_reducible apply mRef_number); array_get_dec; done)
  | ((with_reducible apply mRef_state); array_get_dec; done)
  | ((with_reducible apply mRef_many); array_get_dec; done)
  | ((with_reducible apply mRef_walk); array_get_dec; done)
  | ((with_reducible apply mRef_word); array_get_dec; done)
  | ((with_reducible apply mRef_street); array_get_dec; done)
  | ((with_reducible apply mRef_order); array_get_dec; done)
  | ((with_reducible apply mRef_resting); array_get_dec; done)
  | ((with_reducible apply mRef_text); array_get_dec; done)
  | ((with_reducible apply mCall_ex); (· rfl); (· array_get_dec); (· rfl); (· decreasing_trivial_pre_omega))
  | ((with_reducible apply mTup_ok); array_get_dec)
  | ((with_reducible apply isi_T); (· array_get_dec); (· first | rfl | assumption); (· first | rfl | (simp; done) | (simp [*]; done)))
  | ((with_reducible apply isi_F); (· array_get_dec); (· first | rfl | assumption); (· first | rfl | (simp; done) | (simp [*]; done)))
  | ((with_reducible apply mCut_lo); (· array_get_dec); (· array_get_dec); (· rfl); (· decreasing_trivial_pre_omega))
  | ((with_reducible apply mCut_hi); (· array_get_dec); (· array_get_dec); (· rfl); (· decreasing_trivial_pre_omega))
  | ((with_reducible apply mLst_ok); array_get_dec)
  | ((with_reducible apply mNot_ok); array_get_dec)
  | ((with_reducible apply mNeg_ok); array_get_dec)
  | ((with_reducible apply mAnd_T); (· array_get_dec); (· array_get_dec))
  | ((with_reducible apply mAnd_F); array_get_dec)
  | ((with_reducible apply mOr_T); array_get_dec)
  | ((with_reducible apply mOr_F); (· array_get_dec); (· array_get_dec))
  | ((with_reducible apply mIf_t); (· array_get_dec); (· array_get_dec))
  | ((with_reducible apply mIf_f); (· array_get_dec); (· array_get_dec))
  | ((with_reducible apply mChain_ok); (· array_get_dec); (· array_get_dec); (· rfl); (· rfl); (· first | decreasing_trivial_pre_omega | rfl); (· array_get_dec); (· rfl); (· rfl); (· first | decreasing_trivial_pre_omega | rfl))
  | ((with_reducible apply mB_ok); array_get_dec)
  | ((with_reducible apply bNot_T); array_get_dec)
  | ((with_reducible apply bNot_F); array_get_dec)
  | ((with_reducible apply bNot_ok); array_get_dec)
  | ((with_reducible apply bOr_T); array_get_dec)
  | ((with_reducible apply bOr_F); (· array_get_dec); (· array_get_dec))
  | ((with_reducible apply bAnd_F); array_get_dec)
  | ((with_reducible apply bAnd_T); (· array_get_dec); (· array_get_dec))
  | ((with_reducible apply iSeq_L); array_get_dec)
  | ((with_reducible apply iSeq_T); array_get_dec)
  | ((with_reducible apply rng_nat); (· array_get_dec); (· rfl); (· omega)))
local macro_rules | `(tactic| sizeOf_list_dec) => `(tactic| first
  | ((with_reducible apply W.seq); sizeOf_list_dec)
  | ((with_reducible apply W.set'); (· array_get_dec); simp only [List.set_cons_zero, List.set_cons_succ])
  | ((with_reducible apply W.own); (· array_get_dec); simp only [List.set_cons_zero, List.set_cons_succ])
  | ((with_reducible apply W.do'); (· array_get_dec); skip)
  | ((with_reducible apply W.app); (· rfl); (· array_get_dec); (· rfl); (· first | omega | (simp; omega)); simp only [List.set_cons_zero, List.set_cons_succ])
  | ((with_reducible apply W.par); (· array_get_dec); simp only [setP, List.set_cons_zero, List.set_cons_succ, List.map_cons, List.map_nil])
  | ((with_reducible apply W.ifF); (· array_get_dec); (with_reducible apply W.nil))
  | ((with_reducible apply W.ifT); (· array_get_dec); skip)
  | ((with_reducible apply W.ret); (· array_get_dec); skip)
  | ((with_reducible apply X.here); sizeOf_list_dec; done)
  | ((with_reducible apply X.do'); array_get_dec; done)
  | ((with_reducible apply X.set'); array_get_dec; done)
  | ((with_reducible apply X.own'); array_get_dec; done)
  | ((with_reducible apply X.ret); array_get_dec; done)
  | ((with_reducible apply X.ifT); (· array_get_dec); sizeOf_list_dec; done)
  | ((with_reducible apply X.raise); done)
  | ((with_reducible apply X.raiseF); array_get_dec; done)
  | ((with_reducible apply X.seq); sizeOf_list_dec))

set_option autoImplicit false
section
variable {w : Web} {s : List Int}
structure RowB (w : Web) (s : List Int) (k a : Nat) (row : List (Option Int)) : Prop where
  len : row.length = w.n
  val : ∀ b, b < w.n → (hasB row b = true ∧ Wk w s a b k (valF row b) ∧ ∀ c, Wk w s a b k c → c ≤ valF row b) ∨ (hasB row b = false ∧ ∀ c, ¬ Wk w s a b k c)
structure TabB (w : Web) (s : List Int) (k : Nat) (T : List (List (Option Int))) : Prop where
  len : T.length = w.n
  row : ∀ a, a < w.n → RowB w s k a (T.getD a [])
def tblE (w : Web) (s : List Int) (a b : Nat) : Option Int := if a = b then some 0 else if w.adj a b = true then some (stp s a b) else none
def tbl (w : Web) (s : List Int) : List (List (Option Int)) := (List.range w.n).map fun a => (List.range w.n).map (tblE w s a)
end

set_option autoImplicit false
local macro_rules | `(tactic| decreasing_trivial_pre_omega) => `(tactic| first
  | with_reducible assumption)

set_option autoImplicit false
/-- a comprehension without a condition -/
theorem comp_all {α : Type} {f : α → D} {i : Nat} {it : MI} {elt : ME} (g : α → D) {ρ ρ1 : Env} {ds : List α} (hit : it ρ = .ok (ds.map f) ρ1) (hf : Free ρ1 i) (he : ∀ d ∈ ds, elt (ρ1.set i (.fz (f d))) = .ok (g d) (ρ1.set i (.fz (f d)))) (hz : ds.length ≤ 1000000) :
    mComp it (tmName i) bYes elt [i] ρ = .ok (.list (ds.map g)) ρ1 := by
  have := mComp_of (cd := bYes) (fun _ => true) g hit hf (fun _ _ => rfl) (fun d hd _ => he d hd) hz
  rw [List.filter_eq_self.mpr (fun _ _ => rfl)] at this
  exact this
local macro_rules | `(tactic| decreasing_trivial_pre_omega) => `(tactic| first
  | with_reducible assumption)

set_option autoImplicit false
theorem ne_nilG {l : List D} (h : okD (.list l) = true) : dNe (.list l) (.list []) = some (.bool (!l.isEmpty)) := by
  unfold dNe
  rw [h, show okD (.list []) = true from okInts []]
  cases l with
  | nil => rfl
  | cons a l => rfl
theorem shp_tupN (p : List Nat) : Shp 1 (tupN p) := Shp.tup (f := natD) (fun x => Shp.int _) p
theorem okTups (l : List (List Nat)) : okD (.list (l.map tupN)) = true := (Shp.list (f := tupN) shp_tupN l).ok (by omega)
def VP (w : Web) (r : List Nat) : Prop := ∃ a X, r = a :: X ∧ a < w.n ∧ (a :: X).Nodup ∧ PathF w a X ∧ ∀ x ∈ X, a < x
def frn (w : Web) (r : List Nat) : Nat := ((List.range w.n).filter fun v => decide (r.headD 0 < v) && decide (v ∉ r)).length
def TT : Nat → Nat
  | 0 => 1
  | m + 1 => 1 + (m + 1) * TT m
theorem TT_mono1 : ∀ m, TT m ≤ TT (m + 1)
  | 0 => by simp [TT]
  | m + 1 => by
    show 1 + (m + 1) * TT m ≤ 1 + (m + 1 + 1) * TT (m + 1)
    have h1 := TT_mono1 m
    have h2 : (m + 1) * TT m ≤ (m + 1 + 1) * TT (m + 1) := Nat.mul_le_mul (by omega) h1
    omega
theorem TT_mono {m k : Nat} (h : m ≤ k) : TT m ≤ TT k := by
  induction h with
  | refl => exact Nat.le_refl _
  | step _ ih => exact Nat.le_trans ih (TT_mono1 _)
theorem TT_pos (m : Nat) : 1 ≤ TT m := TT_mono (m := 0) (Nat.zero_le m)
def wgt (w : Web) (l : List (List Nat)) : Nat := (l.map fun r => TT (frn w r)).sum
theorem wgt_append (w : Web) (l m : List (List Nat)) : wgt w (l ++ m) = wgt w l + wgt w m := by unfold wgt; rw [List.map_append, List.sum_append]
theorem wgt_len (w : Web) : ∀ l : List (List Nat), l.length ≤ wgt w l
  | [] => Nat.zero_le _
  | r :: l => by
    have := wgt_len w l
    have := TT_pos (frn w r)
    show l.length + 1 ≤ TT (frn w r) + wgt w l
    omega
theorem wgt_le (w : Web) (B : Nat) : ∀ l : List (List Nat), (∀ r ∈ l, TT (frn w r) ≤ B) → wgt w l ≤ l.length * B
  | [], _ => Nat.zero_le _
  | r :: l, h => by
    have h1 := wgt_le w B l fun x hx => h x (List.mem_cons_of_mem _ hx)
    have h2 := h r List.mem_cons_self
    show TT (frn w r) + wgt w l ≤ (l.length + 1) * B
    rw [Nat.add_mul]
    omega
def kids (w : Web) (a : Nat) (X : List Nat) : List Nat := (w.nbr (endF a X)).filter fun v => decide (a < v) && decide (v ∉ a :: X)
theorem mem_kids {w : Web} (hw : w.Ok) {a : Nat} {X : List Nat} {v : Nat} : v ∈ kids w a X ↔ w.adj (endF a X) v = true ∧ a < v ∧ v ∉ a :: X := by
  unfold kids
  rw [List.mem_filter, Web.mem_nbr hw, Bool.and_eq_true, decide_eq_true_eq, decide_eq_true_eq]
theorem kid_ok {w : Web} (hw : w.Ok) {a : Nat} {X : List Nat} (h : VP w (a :: X)) {v : Nat} (hv : v ∈ kids w a X) : VP w (a :: X ++ [v]) ∧ frn w (a :: X ++ [v]) < frn w (a :: X) := by
  obtain ⟨b, Y, e, h1, h2, h3, h4⟩ := h
  cases e
  obtain ⟨k1, k2, k3⟩ := (mem_kids hw).mp hv
  refine ⟨⟨a, X ++ [v], by simp, h1, ?_, PathF.append.mpr ⟨h3, k1, trivial⟩, fun x hx => ?_⟩, ?_⟩
  · rw [← List.cons_append]
    refine List.nodup_append.mpr ⟨h2, by simp, fun x hx y hy => ?_⟩
    cases List.mem_singleton.mp hy
    exact fun z => k3 (z ▸ hx)
  · rcases List.mem_append.mp hx with z | z
    · exact h4 x z
    · cases List.mem_singleton.mp z; exact k2
  · unfold frn
    refine filter_lt (x := v) (fun y _ hy => ?_) (List.mem_range.mpr (Web.adj_lt hw k1).2.1) ?_ ?_
    · simp only [List.headD, List.cons_append, Bool.and_eq_true, decide_eq_true_eq, List.mem_cons, List.mem_append, not_or] at hy ⊢
      exact ⟨hy.1, hy.2.1, hy.2.2.1⟩
    · exact (Bool.and_eq_true _ _).mpr ⟨decide_eq_true k2, decide_eq_true k3⟩
    · simp
theorem kids_len {w : Web} (a : Nat) (X : List Nat) : (kids w a X).length ≤ frn w (a :: X) := by
  unfold kids frn Web.nbr
  rw [List.filter_filter]
  rw [← List.countP_eq_length_filter, ← List.countP_eq_length_filter]
  refine List.countP_mono_left fun v _ hv => ?_
  exact ((Bool.and_eq_true _ _).mp hv).1
theorem pop_less {w : Web} (hw : w.Ok) {a : Nat} {X : List Nat} (h : VP w (a :: X)) : wgt w ((kids w a X).map fun v => a :: X ++ [v]) < TT (frn w (a :: X)) := by
  have hl := kids_len (w := w) a X
  cases e : frn w (a :: X) with
  | zero =>
    rw [e] at hl
    rw [List.eq_nil_of_length_eq_zero (by omega : (kids w a X).length = 0)]
    exact Nat.lt_of_lt_of_le Nat.zero_lt_one (TT_pos 0)
  | succ m =>
    have h1 := wgt_le w (TT m) ((kids w a X).map fun v => a :: X ++ [v]) fun r hr => by
      obtain ⟨v, hv, rfl⟩ := List.mem_map.mp hr
      have := (kid_ok hw h hv).2
      exact TT_mono (by omega)
    rw [List.length_map] at h1
    have h2 : (kids w a X).length * TT m ≤ (m + 1) * TT m := Nat.mul_le_mul_right _ (by omega)
    show _ < 1 + (m + 1) * TT m
    omega
structure Rings (w : Web) (rs : List (List Nat)) : Prop where
  all : ∀ r ∈ rs, ∃ a X, r = a :: X ∧ RingL w a X
  mem : ∀ a X, RingL w a X → a :: X ∈ rs
  few : rs.length ≤ 100000
structure Rg (w : Web) (found stack : List (List Nat)) : Prop where
  vp : ∀ r ∈ stack, VP w r
  all : ∀ r ∈ found, ∃ a X, r = a :: X ∧ RingL w a X
  mem : ∀ a X, RingL w a X → a :: X ∈ found ∨ ∃ p ∈ stack, p <+: a :: X
  few : found.length + wgt w stack ≤ 100000
def isRg (w : Web) (a : Nat) (X : List Nat) : Bool := decide (2 < (a :: X).length) && w.adj (endF a X) a
theorem rg_iff {w : Web} {a : Nat} {X : List Nat} (h : VP w (a :: X)) : isRg w a X = true ↔ RingL w a X := by
  obtain ⟨b, Y, e, h1, h2, h3, h4⟩ := h
  cases e
  unfold isRg
  rw [Bool.and_eq_true, decide_eq_true_eq, List.length_cons]
  exact ⟨fun z => ⟨⟨h2, by omega, h3, z.2⟩, h4⟩, fun z => ⟨by have := z.ring.len; omega, z.ring.back⟩⟩
theorem Rg.pop {w : Web} (hw : w.Ok) {found st : List (List Nat)} {a : Nat} {X : List Nat} (h : Rg w found (st ++ [a :: X])) : Rg w (if isRg w a X = true then found ++ [a :: X] else found) (st ++ (kids w a X).map fun v => a :: X ++ [v]) ∧ wgt w (st ++ (kids w a X).map fun v => a :: X ++ [v]) < wgt w (st ++ [a :: X]) := by
  have hv := h.vp (a :: X) (List.mem_append_right _ List.mem_cons_self)
  have h1 := pop_less hw hv
  have h2 : wgt w [a :: X] = TT (frn w (a :: X)) := by unfold wgt; simp
  have h3 := h.few
  rw [wgt_append, h2] at h3
  refine ⟨⟨fun r hr => ?_, fun r hr => ?_, fun b Y hR => ?_, ?_⟩, by rw [wgt_append, wgt_append, h2]; omega⟩
  · rcases List.mem_append.mp hr with z | z
    · exact h.vp r (List.mem_append_left _ z)
    · obtain ⟨v, hv2, rfl⟩ := List.mem_map.mp z
      exact (kid_ok hw hv hv2).1
  · split at hr
    · rename_i hi
      rcases List.mem_append.mp hr with z | z
      · exact h.all r z
      · cases List.mem_singleton.mp z
        exact ⟨a, X, rfl, (rg_iff hv).mp hi⟩
    · exact h.all r hr
  · rcases h.mem b Y hR with z | ⟨p, hp, hpre⟩
    · left
      split
      · exact List.mem_append_left _ z
      · exact z
    · rcases List.mem_append.mp hp with z | z
      · exact .inr ⟨p, List.mem_append_left _ z, hpre⟩
      · cases List.mem_singleton.mp z
        obtain ⟨t, ht⟩ := hpre
        cases t with
        | nil =>
          rw [List.append_nil] at ht
          cases ht
          left
          rw [if_pos ((rg_iff hv).mpr hR)]
          exact List.mem_append_right _ List.mem_cons_self
        | cons v t =>
          right
          obtain ⟨e1, e2⟩ := List.cons.inj ht
          subst e1
          have e2 : Y = X ++ v :: t := e2.symm
          subst e2
          have hf := hR.ring.path
          have hk : v ∈ kids w a X := (mem_kids hw).mpr ⟨(PathF.append.mp hf).2.1, hR.least v (List.mem_append_right _ List.mem_cons_self), fun z => by
            have := hR.ring.nd
            rw [← List.cons_append, List.nodup_append] at this
            exact this.2.2 v z v List.mem_cons_self rfl⟩
          exact ⟨a :: X ++ [v], List.mem_append_right _ (List.mem_map.mpr ⟨v, hk, rfl⟩), ⟨t, by simp⟩⟩
  · rw [wgt_append]
    split
    · rw [List.length_append, List.length_singleton]; omega
    · omega
theorem Rg.init {w : Web} (hw : w.Ok) (h7 : w.n ≤ 7) : Rg w [] ((List.range w.n).map fun a => [a]) := by
  refine ⟨fun r hr => ?_, by simp, fun a X hR => ?_, ?_⟩
  · obtain ⟨a, ha, rfl⟩ := List.mem_map.mp hr
    exact ⟨a, [], rfl, List.mem_range.mp ha, by simp, trivial, by simp⟩
  · refine .inr ⟨[a], List.mem_map.mpr ⟨a, List.mem_range.mpr (Web.adj_lt hw hR.ring.back).2.1, rfl⟩, ⟨X, rfl⟩⟩
  · have h1 := wgt_le w (TT 7) ((List.range w.n).map fun a => [a]) fun r hr => TT_mono (by
      unfold frn
      have := List.length_filter_le (fun v => decide (r.headD 0 < v) && decide (v ∉ r)) (List.range w.n)
      rw [List.length_range] at this
      omega)
    rw [List.length_map, List.length_range] at h1
    have h2 : TT 7 = 13700 := by decide
    rw [h2] at h1
    simp only [List.length_nil]
    omega

set_option autoImplicit false
theorem nodup_le : ∀ (n : Nat) (l : List Nat), l.Nodup → (∀ x ∈ l, x < n) → l.length ≤ n
  | 0, l, _, h => by
    cases l with
    | nil => exact Nat.le_refl _
    | cons a l => exact absurd (h a List.mem_cons_self) (Nat.not_lt_zero _)
  | n + 1, l, hn, h => by
    have h1 := nodup_le n (l.erase n) (hn.erase n) fun x hx => by
      have h2 := (List.Nodup.mem_erase_iff hn).mp hx
      have := h x h2.2
      have := h2.1
      omega
    by_cases hm : n ∈ l
    · rw [List.length_erase_of_mem hm] at h1
      omega
    · rw [List.erase_of_not_mem hm] at h1
      omega
theorem VP.len {w : Web} (hw : w.Ok) {r : List Nat} (h : VP w r) : r.length ≤ w.n := by
  obtain ⟨a, X, rfl, h1, h2, h3, _⟩ := h
  refine nodup_le _ _ h2 fun x hx => ?_
  rcases List.mem_cons.mp hx with rfl | hx
  · exact h1
  · exact h3.lt hw hx
theorem tup_last (a : Nat) (X : List Nat) : dAt (tupN (a :: X)) (.int (-1)) = some (natD (endF a X)) := by
  have h : ∀ (X : List Nat) (a : Nat), (a :: X)[X.length]? = some (endF a X) := by
    intro X
    induction X with
    | nil => intro a; rfl
    | cons b r ih => intro a; exact ih b
  show atI _ (-1) = _
  unfold L2.atI L2.ixN
  rw [List.length_map, List.length_cons, if_neg (by omega), if_pos (by omega)]
  show ((a :: X).map natD)[(-1 + ((X.length + 1 : Nat) : Int)).toNat]? = _
  rw [show (-1 + ((X.length + 1 : Nat) : Int)).toNat = X.length by omega, List.getElem?_map, h]
  rfl
theorem in_nats (l : List Nat) (v : Nat) : dIn (natD v) (.list (l.map natD)) = some (.bool (decide (v ∈ l))) := by
  show (dHas (natD v) (.list (l.map natD))).map PyData.bool = _
  rw [has_nat]
  rfl
theorem notin_tup (l : List Nat) (v : Nat) : dNotIn (natD v) (tupN l) = some (.bool (decide (v ∉ l))) := by
  show (dHas (natD v) (.tuple (l.map natD))).map (fun b => PyData.bool (!b)) = _
  rw [has_natT]
  by_cases h : v ∈ l <;> simp [h]
theorem len_tupN (l : List Nat) : dLen [tupN l] = some (natD l.length) := by unfold tupN; rw [len_T, List.length_map]
theorem gt_nat (a b : Nat) : dGt (natD a) (natD b) = some (.bool (decide (b < a))) := by
  show some (PyData.bool (decide ((b : Int) < (a : Int)))) = _
  rw [decide_eq_decide.mpr (show (b : Int) < (a : Int) ↔ b < a by omega)]
theorem gt_nat2 (a : Nat) : dGt (natD a) (.int 2) = some (.bool (decide (2 < a))) := gt_nat a 2
local macro_rules | `(tactic| decreasing_trivial_pre_omega) => `(tactic| first
  | with_reducible assumption
  | ((with_reducible apply tup_last) <;> first | assumption | omega | (simp; done))
  | ((with_reducible apply tup_0) <;> first | assumption | omega | (simp; done))
  | ((with_reducible apply gt_nat2) <;> first | assumption | omega | (simp; done))
  | ((with_reducible apply gt_nat) <;> first | assumption | omega | (simp; done))
  | ((with_reducible apply len_tupN) <;> first | assumption | omega | (simp; done))
  | ((with_reducible apply notin_tup) <;> first | assumption | omega | (simp; done))
  | ((with_reducible apply in_nats) <;> first | assumption | omega | (simp; done)))
theorem law_rings_eq {w : Web} (hw : w.Ok) (h7 : w.n ≤ 7) : ∃ rs, f__law_rings [.fz (webD w)] = .ok (.list (rs.map tupN)) [] ∧ Rings w rs := by
  obtain ⟨d, e, rs, rfl, h⟩ := W.fnP (len := 7) (n := 1) (m := m__law_rings) (ss := [.fz (webD w)]) (P := fun d => ∃ rs, d = .list (rs.map tupN) ∧ Rings w rs) rfl (by
    have hm := hw.most
    unfold m__law_rings
    show W _ [.fz (webD w), .no, .no, .no, .no, .no, .no] _ _
    have c1 : mComp (iRng fR1 [.ex (mOp2 dAt (.sl 0) (.ex (mLit (.int 0))))]) (tmName 4) bYes (mTup [mVar 4]) [4] [.fz (webD w), .no, .no, .no, .no, .no, .no] = .ok (.list (((List.range w.n).map fun a => [a]).map tupN)) [.fz (webD w), .no, .no, .no, .no, .no, .no] := by
      rw [List.map_map]
      exact comp_all (f := natD) (fun a => tupN [a]) (by array_get_dec) (.no rfl) (fun a _ => rfl) (by simp; omega)
    refine .seq (.par (ds := [nearD w, .list [], .list (((List.range w.n).map fun a => [a]).map tupN)]) (ρ1 := [.fz (webD w), .no, .no, .no, .no, .no, .no]) ?_ ?_)
    · simp only [List.map_cons, List.map_nil]
      array_get_dec
    simp only [setP, List.set_cons_zero, List.set_cons_succ, List.map_cons, List.map_nil]
    show W _ [.fz (webD w), .fz (nearD w), .own (.list (([] : List (List Nat)).map tupN)), .own (.list (((List.range w.n).map fun a => [a]).map tupN)), .no, .no, .no] _ _
    refine .seq (W.whileM (fun m ρ => ∃ found stack x5 x6, Rg w found stack ∧ wgt w stack = m ∧ ρ = [.fz (webD w), .fz (nearD w), .own (.list (found.map tupN)), .own (.list (stack.map tupN)), .no, x5, x6]) ?_ 1000000 _ _ ?_ ⟨_, _, _, _, Rg.init hw h7, rfl, rfl⟩)
    · rintro m _ ⟨found, stack, x5, x6, hR, rfl, rfl⟩
      have hne := ne_nilG (okTups stack)
      refine ⟨!(stack.map tupN).isEmpty, [.fz (webD w), .fz (nearD w), .own (.list (found.map tupN)), .own (.list (stack.map tupN)), .no, x5, x6], by array_get_dec, fun hx => ?_, fun hx => ?_⟩
      · rcases List.eq_nil_or_concat stack with rfl | ⟨st, p, rfl⟩
        · simp at hx
        rw [List.concat_eq_append] at hR ⊢
        have hv := hR.vp p (List.mem_append_right _ List.mem_cons_self)
        obtain ⟨a, X, rfl, ha, hnd, hpath, hleast⟩ := id hv
        obtain ⟨hR', hless⟩ := hR.pop hw
        have hfew := hR.few
        rw [wgt_append] at hfew
        have hst := wgt_len w st
        have hlen := hv.len hw
        have hend : endF a X < w.n := by
          rcases List.mem_cons.mp (endF_mem a X) with z | z
          · rw [z]; exact ha
          · exact hpath.lt hw z
        rw [List.map_append]
        refine .seq (.set' (mPop_ok (l := st.map tupN) (d := tupN (a :: X)) rfl) ?_)
        simp only [List.set_cons_zero, List.set_cons_succ]
        have htest : bAnd (mB (mOp2 dGt (.ex (mFn dLen [.sl 5])) (.ex (mLit (.int 2))))) (mB (mOp2 dIn (.ex (mOp2 dAt (.sl 5) (.ex (mLit (.int 0))))) (.ex (mOp2 dAt (.sl 1) (.ex (mOp2 dAt (.sl 5) (.ex (mNeg (mLit (.int 1)))))))))) [.fz (webD w), .fz (nearD w), .own (.list (found.map tupN)), .own (.list (st.map tupN)), .no, .fz (tupN (a :: X)), x6] = .ok (isRg w a X) [.fz (webD w), .fz (nearD w), .own (.list (found.map tupN)), .own (.list (st.map tupN)), .no, .fz (tupN (a :: X)), x6] := by
          unfold isRg
          by_cases hl : 2 < (a :: X).length
          · have hg : dGt (natD (a :: X).length) (.int 2) = some (.bool true) := by rw [gt_nat2, decide_eq_true hl]
            have hin : dIn (natD a) (.list ((w.nbr (endF a X)).map natD)) = some (.bool (w.adj (endF a X) a)) := by
              rw [in_nats]
              have : decide (a ∈ w.nbr (endF a X)) = w.adj (endF a X) a := by
                by_cases hh : w.adj (endF a X) a = true
                · rw [hh, decide_eq_true ((Web.mem_nbr hw).mpr hh)]
                · rw [decide_eq_false (fun z => hh ((Web.mem_nbr hw).mp z))]
                  simpa using hh
              rw [this]
            rw [decide_eq_true hl, Bool.true_and]
            exact bAnd_T (by array_get_dec) (by array_get_dec)
          · have hg : dGt (natD (a :: X).length) (.int 2) = some (.bool false) := by rw [gt_nat2, decide_eq_false hl]
            rw [decide_eq_false hl, Bool.false_and]
            exact bAnd_F (by array_get_dec)
        have hnext : ∀ (found' : List (List Nat)) (hf' : found' = if isRg w a X = true then found ++ [a :: X] else found), W (sFor (iSeq (mOp2 dAt (.sl 1) (.ex (mOp2 dAt (.sl 5) (.ex (mNeg (mLit (.int 1)))))))) (tmName 6) (sIf (bAnd (mB (mOp2 dGt (.sl 6) (.ex (mOp2 dAt (.sl 5) (.ex (mLit (.int 0))))))) (mB (mOp2 dNotIn (.sl 6) (.sl 5)))) (sDo (mApp 3 (mOp2 dAdd (.sl 5) (.ex (mTup [mVar 6]))))) (sNil)))
            [.fz (webD w), .fz (nearD w), .own (.list (found'.map tupN)), .own (.list (st.map tupN)), .no, .fz (tupN (a :: X)), x6]
            (fun ρ' => ∃ m', m' < wgt w (st ++ [a :: X]) ∧ ∃ found stack x5 x6, Rg w found stack ∧ wgt w stack = m' ∧ ρ' = [.fz (webD w), .fz (nearD w), .own (.list (found.map tupN)), .own (.list (stack.map tupN)), .no, x5, x6]) fun d _ => ∃ rs, d = .list (rs.map tupN) ∧ Rings w rs := fun found' hf' => by
          refine .forA (f := natD) (l := w.nbr (endF a X)) (fun i ρ => ∃ x6, ρ = [.fz (webD w), .fz (nearD w), .own (.list (found'.map tupN)), .own (.list ((st ++ (((w.nbr (endF a X)).take i).filter fun v => decide (a < v) && decide (v ∉ a :: X)).map fun v => a :: X ++ [v]).map tupN)), .no, .fz (tupN (a :: X)), x6]) (by array_get_dec) (by exact ⟨x6, by simp⟩) ?_ ?_
          · rintro i v _ ei ⟨x6, rfl⟩
            simp only [List.set_cons_zero, List.set_cons_succ]
            have hlt := look_lt ei
            have hnl := Web.nbr_len w (endF a X)
            have hcat : dAdd (tupN (a :: X)) (.tuple [natD v]) = some (tupN (a :: X ++ [v])) := by
              unfold tupN
              rw [cat_tup (by rw [List.length_map]; simp only [List.length_cons, List.length_nil] at hlen ⊢; omega), List.map_append]
              rfl
            have hfl := List.length_filter_le (fun v => decide (a < v) && decide (v ∉ a :: X)) ((w.nbr (endF a X)).take i)
            rw [List.length_take] at hfl
            rw [List.take_add_one, ei, List.filter_append]
            by_cases h1 : a < v
            · have g1 : dGt (natD v) (natD a) = some (.bool true) := by rw [gt_nat, decide_eq_true h1]
              by_cases h2 : v ∈ a :: X
              · have g2 : dNotIn (natD v) (tupN (a :: X)) = some (.bool false) := by rw [notin_tup, decide_eq_false (fun z => z h2)]
                refine .ifF (by array_get_dec) (.nil ⟨.fz (natD v), ?_⟩)
                have : ([v].filter fun v => decide (a < v) && decide (v ∉ a :: X)) = [] := by
                  rw [List.filter_cons_of_neg (by simp only [h2, not_true, decide_false, Bool.and_false]; exact Bool.false_ne_true)]
                  rfl
                rw [show (some v).toList = [v] from rfl, this, List.append_nil]
              · have g2 : dNotIn (natD v) (tupN (a :: X)) = some (.bool true) := by rw [notin_tup, decide_eq_true h2]
                refine .ifT (ρ1 := [.fz (webD w), .fz (nearD w), .own (.list (found'.map tupN)), .own (.list ((st ++ (((w.nbr (endF a X)).take i).filter fun v => decide (a < v) && decide (v ∉ a :: X)).map fun v => a :: X ++ [v]).map tupN)), .no, .fz (tupN (a :: X)), .fz (natD v)]) (by array_get_dec) ?_
                refine .app rfl (d := tupN (a :: X ++ [v])) (ρ' := [.fz (webD w), .fz (nearD w), .own (.list (found'.map tupN)), .own (.list ((st ++ (((w.nbr (endF a X)).take i).filter fun v => decide (a < v) && decide (v ∉ a :: X)).map fun v => a :: X ++ [v]).map tupN)), .no, .fz (tupN (a :: X)), .fz (natD v)]) (by array_get_dec) rfl (by rw [List.length_map, List.length_append, List.length_map]; omega) ⟨.fz (natD v), ?_⟩
                have : ([v].filter fun v => decide (a < v) && decide (v ∉ a :: X)) = [v] := by
                  rw [List.filter_cons_of_pos (by simp only [h1, h2, not_false_eq_true, decide_true, Bool.and_true])]
                  rfl
                rw [show (some v).toList = [v] from rfl, this]
                simp only [List.set_cons_zero, List.set_cons_succ, List.map_append, List.append_assoc, List.map_cons, List.map_nil]
            · have g1 : dGt (natD v) (natD a) = some (.bool false) := by rw [gt_nat, decide_eq_false h1]
              refine .ifF (by array_get_dec) (.nil ⟨.fz (natD v), ?_⟩)
              have : ([v].filter fun v => decide (a < v) && decide (v ∉ a :: X)) = [] := by
                rw [List.filter_cons_of_neg (by simp only [h1, decide_false, Bool.false_and]; exact Bool.false_ne_true)]
                rfl
              rw [show (some v).toList = [v] from rfl, this, List.append_nil]
          · rintro _ ⟨x6, rfl⟩
            rw [List.take_length]
            subst hf'
            exact ⟨_, hless, _, _, _, _, hR', rfl, rfl⟩
        cases hi : isRg w a X with
        | true =>
          rw [hi] at htest
          refine .seq (.ifT htest ?_)
          refine .app rfl (d := tupN (a :: X)) (ρ' := [.fz (webD w), .fz (nearD w), .own (.list (found.map tupN)), .own (.list (st.map tupN)), .no, .fz (tupN (a :: X)), x6]) rfl rfl (by rw [List.length_map]; omega) ?_
          simp only [List.set_cons_zero, List.set_cons_succ]
          have := hnext (found ++ [a :: X]) (by rw [hi, if_pos rfl])
          rw [List.map_append] at this
          exact this
        | false =>
          rw [hi] at htest
          refine .seq (.ifF htest (.nil ?_))
          exact hnext found (by rw [hi]; rfl)
      · have : stack = [] := by
          cases stack with
          | nil => rfl
          | cons a l => simp at hx
        subst this
        refine .ret (mVar_own rfl) ⟨found, rfl, hR.all, fun a X hr => ?_, ?_⟩
        · rcases hR.mem a X hr with z | ⟨p, hp, _⟩
          · exact z
          · cases hp
        · have := hR.few
          omega
    · have := (Rg.init hw h7).few
      simp only [List.length_nil] at this
      omega)
  exact ⟨rs, e, h⟩

set_option autoImplicit false
def lowF (p q : Nat) : Nat × Nat := (p / Nat.gcd p q, q / Nat.gcd p q)
theorem lowF_ok {p q : Nat} (hq : 0 < q) : 0 < (lowF p q).2 ∧ Nat.gcd (lowF p q).1 (lowF p q).2 = 1 ∧ (lowF p q).1 * q = p * (lowF p q).2 := by
  have hg : 0 < Nat.gcd p q := Nat.gcd_pos_of_pos_right p hq
  unfold lowF
  refine ⟨Nat.div_pos (Nat.gcd_le_right p hq) hg, Nat.gcd_div_gcd_div_gcd_of_pos_right hq, ?_⟩
  simp only
  obtain ⟨a, ha⟩ := Nat.gcd_dvd_left p q
  obtain ⟨b, hb⟩ := Nat.gcd_dvd_right p q
  generalize Nat.gcd p q = g at *
  rw [ha, hb, Nat.mul_div_cancel_left _ hg, Nat.mul_div_cancel_left _ hg]
  rw [Nat.mul_left_comm, Nat.mul_assoc]
/-- what has been looked at, by length and sum -/
structure Best (S : Int → Nat → Prop) (p q : Nat) : Prop where
  pos : 0 < q
  low : Nat.gcd p q = 1
  most : ∀ c L, S c L → c * q ≤ p * (L : Int)
  some : p = 0 ∨ ∃ c L, S c L ∧ c * q = p * (L : Int)
theorem Best.init : Best (fun _ _ => False) 0 1 := ⟨by omega, by simp, fun _ _ h => h.elim, .inl rfl⟩
theorem Best.keep {S : Int → Nat → Prop} {p q : Nat} (h : Best S p q) {c : Int} {L : Nat} (h2 : ¬ (p : Int) * L < c * q) : Best (fun c' L' => S c' L' ∨ (c' = c ∧ L' = L)) p q := by
  refine ⟨h.pos, h.low, fun c' L' hh => ?_, ?_⟩
  · rcases hh with hh | ⟨rfl, rfl⟩
    · exact h.most _ _ hh
    · omega
  · rcases h.some with hh | ⟨c', L', h3, h4⟩
    · exact .inl hh
    · exact .inr ⟨c', L', .inl h3, h4⟩
theorem Best.next {S : Int → Nat → Prop} {p q : Nat} (h : Best S p q) (hS : ∀ c L, S c L → 0 < L) {c : Int} {L : Nat} (hL : 0 < L) (h2 : (p : Int) * L < c * q) : 0 < c ∧ Best (fun c' L' => S c' L' ∨ (c' = c ∧ L' = L)) (lowF c.toNat L).1 (lowF c.toNat L).2 := by
  have hq := h.pos
  have hc : 0 < c := by
    by_cases hc : 0 < c
    · exact hc
    · have h3 : c * q ≤ 0 := Int.mul_nonpos_of_nonpos_of_nonneg (by omega) (by omega)
      have h4 : (0 : Int) ≤ p * L := Int.mul_nonneg (by omega) (by omega)
      omega
  obtain ⟨l1, l2, l3⟩ := lowF_ok (p := c.toNat) hL
  have e3 : c * ((lowF c.toNat L).2 : Int) = ((lowF c.toNat L).1 : Int) * L := by
    have : ((c.toNat * (lowF c.toNat L).2 : Nat) : Int) = (((lowF c.toNat L).1 * L : Nat) : Int) := by rw [l3]
    rw [Int.natCast_mul, Int.natCast_mul, show ((c.toNat : Nat) : Int) = c by omega] at this
    exact this
  refine ⟨hc, l1, l2, fun c' L' hh => ?_, .inr ⟨c, L, .inr ⟨rfl, rfl⟩, e3⟩⟩
  rcases hh with hh | ⟨rfl, rfl⟩
  · -- c' q ≤ p L', p L < c q, c y = x L : c' y ≤ x L'
    have h3 := h.most _ _ hh
    have hL' := hS _ _ hh
    generalize (lowF c.toNat L).1 = x at *
    generalize (lowF c.toNat L).2 = y at *
    have a1 : c' * q * (L * y) ≤ p * L' * (L * y) := Int.mul_le_mul_of_nonneg_right h3 (Int.mul_nonneg (by omega) (by omega))
    have a2 : p * (L : Int) * (L' * y) ≤ c * q * (L' * y) := Int.mul_le_mul_of_nonneg_right (by omega) (Int.mul_nonneg (by omega) (by omega))
    have a3 : c * q * (L' * y) = x * L * (q * L') := by
      rw [← e3]
      ac_rfl
    have a4 : c' * q * (L * y) = (c' * y) * (q * L) := by ac_rfl
    have a5 : (p : Int) * L' * (L * y) = p * L * (L' * y) := by ac_rfl
    have a6 : x * L * (q * L') = (x * (L' : Int)) * (q * L) := by ac_rfl
    have a7 : (c' * y) * ((q : Int) * L) ≤ (x * (L' : Int)) * (q * L) := by omega
    exact Int.le_of_mul_le_mul_right a7 (Int.mul_pos (by omega) (by omega))
  · omega
theorem RingL.lt {w : Web} (hw : w.Ok) {a : Nat} {X : List Nat} (h : RingL w a X) : ∀ x ∈ a :: X, x < w.n := fun x hx => by
  rcases List.mem_cons.mp hx with rfl | hx
  · exact (Web.adj_lt hw h.ring.back).2.1
  · exact h.ring.path.lt hw hx

set_option autoImplicit false
theorem sum_path (s : List Int) : ∀ (X : List Nat) (a : Nat), ((List.range X.length).map fun k => stp s ((a :: X).getD k 0) ((a :: X).getD (k + 1) 0)).sum = sumF s a X
  | [], a => rfl
  | b :: X, a => by
    rw [List.length_cons, List.range_succ_eq_map, List.map_cons, List.sum_cons, List.map_map]
    have := sum_path s X b
    show stp s a b + _ = stp s a b + sumF s b X
    rw [← this]
    rfl
def prevR (a : Nat) (X : List Nat) (k : Nat) : Nat := if k = 0 then endF a X else (a :: X).getD (k - 1) 0
theorem sum_ring (s : List Int) (a : Nat) (X : List Nat) : ((List.range (a :: X).length).map fun k => stp s (prevR a X k) ((a :: X).getD k 0)).sum = rsumF s a X := by
  rw [List.length_cons, List.range_succ_eq_map, List.map_cons, List.sum_cons, List.map_map]
  unfold rsumF
  rw [sumF_append, ← sum_path s X a]
  show stp s (endF a X) a + _ = _ + (stp s (endF a X) a + 0)
  rw [Int.add_zero, Int.add_comm]
  rfl
theorem tup_at {l : List Nat} {k : Nat} (h : k < l.length) : dAt (tupN l) (natD k) = some (natD (l.getD k 0)) := by
  unfold tupN
  rw [at_T, List.getElem?_map, List.getElem?_eq_getElem h, List.getD_eq_getElem?_getD, List.getElem?_eq_getElem h]
  rfl
theorem sub_nat0 : dSub (natD 0) (.int 1) = some (.int (-1)) := rfl
local macro_rules | `(tactic| decreasing_trivial_pre_omega) => `(tactic| first
  | with_reducible assumption
  | ((with_reducible apply law_rings_eq) <;> first | assumption | omega | (simp; done))
  | ((with_reducible apply tup_at) <;> first | assumption | omega | (simp; done)))
theorem law_round_eq {n : Nat} {s : List Int} (hs : StOk n s) {a : Nat} {X : List Nat} (hl : (a :: X).length ≤ 1000) (h : ∀ x ∈ a :: X, x < n) : f__law_round [.fz (stD s), .fz (tupN (a :: X))] = .ok (.int (rsumF s a X)) [] := by
  refine W.fn0 rfl ?_; unfold m__law_round; simp only [Nat.reduceSub, List.replicate_succ, List.replicate_zero, List.cons_append, List.nil_append]
  have hc := comp_all (f := natD) (i := 2) (it := iRng fR1 [.ex (mFn dLen [.sl 1])]) (elt := mCall f__law_step [.v (mVar 0), .v (mOp2 dAt (.sl 1) (.ex (mOp2 dSub (.sl 2) (.ex (mLit (.int 1)))))), .v (mOp2 dAt (.sl 1) (.sl 2))]) (fun k => .int (stp s (prevR a X k) ((a :: X).getD k 0))) (ρ := [.fz (stD s), .fz (tupN (a :: X)), .no]) (ρ1 := [.fz (stD s), .fz (tupN (a :: X)), .no]) (ds := List.range (a :: X).length)
    (by array_get_dec) (.no rfl) (fun k hk => by
      have hk := List.mem_range.mp hk
      simp only [List.set_cons_zero, List.set_cons_succ]
      have h1 : (a :: X).getD k 0 < n := by
        rw [List.getD_eq_getElem?_getD, List.getElem?_eq_getElem hk]
        exact h _ (List.getElem_mem hk)
      by_cases h0 : k = 0
      · subst h0
        have h2 : prevR a X 0 < n := h _ (endF_mem a X)
        have h3 := sub_nat0
        have h4 := tup_last a X
        have h5 := law_step_eq hs h2 h1
        unfold prevR at h5 ⊢
        rw [if_pos rfl] at h5 ⊢
        array_get_dec
      · have h6 : k - 1 < (a :: X).length := by omega
        have h2 : prevR a X k < n := by
          unfold prevR
          rw [if_neg h0, List.getD_eq_getElem?_getD, List.getElem?_eq_getElem h6]
          exact h _ (List.getElem_mem h6)
        have h3 : dSub (natD k) (.int 1) = some (natD (k - 1)) := sub_nat1 (by omega)
        have h5 := law_step_eq hs h2 h1
        unfold prevR at h5 ⊢
        rw [if_neg h0] at h5 ⊢
        array_get_dec) (by simp at hl ⊢; omega)
  have hf := fold_of (fun ns => some ns.sum) ((List.range (a :: X).length).map fun k => stp s (prevR a X k) ((a :: X).getD k 0))
  rw [List.map_map] at hf
  have hf : dFold (fun ns => some ns.sum) [.list ((List.range (a :: X).length).map fun k => PyData.int (stp s (prevR a X k) ((a :: X).getD k 0)))] = some (.int (rsumF s a X)) := by
    rw [← sum_ring]
    exact hf
  sizeOf_list_dec
  rfl
local macro_rules | `(tactic| decreasing_trivial_pre_omega) => `(tactic| first
  | with_reducible assumption)

set_option autoImplicit false
local macro_rules | `(tactic| decreasing_trivial_pre_omega) => `(tactic| first
  | with_reducible assumption)

set_option autoImplicit false
section
variable {w : Web} {s : List Int}
def IsB (w : Web) (s : List Int) (L v : Nat) (c : Int) : Prop := Wk w s v v L c ∧ ∀ c', Wk w s v v L c' → c' ≤ c
theorem IsB.only {L v : Nat} {c c' : Int} (h : IsB w s L v c) (h' : IsB w s L v c') : c = c' := Int.le_antisymm (h'.2 c h.1) (h.2 c' h'.1)
end
local macro_rules | `(tactic| decreasing_trivial_pre_omega) => `(tactic| first
  | with_reducible assumption)

set_option autoImplicit false
section
variable {w : Web} {s : List Int}
theorem Reach.path {v a : Nat} (h : Reach w v a) : ∃ P, (v :: P).Nodup ∧ PathF w v P ∧ endF v P = a := by
  induction h with
  | here => exact ⟨[], by simp, trivial, rfl⟩
  | @on j k _ e ih =>
    obtain ⟨P, h1, h2, h3⟩ := ih
    by_cases hk : k ∈ v :: P
    · rcases List.mem_cons.mp hk with rfl | hk
      · exact ⟨[], by simp, trivial, rfl⟩
      · obtain ⟨X, Y, rfl⟩ := List.append_of_mem hk
        refine ⟨X ++ [k], ?_, ?_, by rw [endF_append]; rfl⟩
        · refine List.Nodup.sublist ?_ h1
          exact List.Sublist.cons_cons v (List.Sublist.append (List.Sublist.refl _) (List.Sublist.cons_cons k (List.nil_sublist _)))
        · have := PathF.append.mp h2
          exact PathF.append.mpr ⟨this.1, this.2.1, trivial⟩
    · refine ⟨P ++ [k], ?_, PathF.append.mpr ⟨h2, by rw [h3]; exact ⟨e, trivial⟩⟩, by rw [endF_append]; rfl⟩
      rw [← List.cons_append]
      refine List.nodup_append.mpr ⟨h1, by simp, fun x hx y hy => ?_⟩
      cases List.mem_singleton.mp hy
      exact fun z => hk (z ▸ hx)
theorem Ht.walk {w : Web} {g : Nat → Int} (hg : Ht w s g) {a b k : Nat} {c : Int} (h : Wk w s a b k c) : c = g b - g a := by
  induction h with
  | nil a => omega
  | stay _ ih => exact ih
  | @go a b d k c e _ ih => have := hg a b e; omega
end

set_option autoImplicit false
local macro_rules | `(tactic| decreasing_trivial_pre_omega) => `(tactic| first
  | with_reducible assumption)
/-- the first tick by which one has changed so often -/
def First (w : Web) (s : List Int) (v g k : Nat) : Prop := (g : Int) ≤ cnt w s k v ∧ ∀ j, j < k → cnt w s j v < g
theorem First.of {w : Web} {s : List Int} {v g k : Nat} (h1 : cnt w s k v < g) (h2 : (g : Int) ≤ cnt w s (k + 1) v) : First w s v g (k + 1) := ⟨h2, fun j hj => Int.lt_of_le_of_lt (cntM_mono (by omega)) h1⟩
local macro_rules | `(tactic| decreasing_trivial_pre_omega) => `(tactic| first
  | with_reducible assumption)

set_option autoImplicit false
def three (s : List Int) : List (List Int) := [s ++ [0], s ++ [1], s ++ [2]]
def allS : Nat → List (List Int)
  | 0 => [[]]
  | n + 1 => (allS n).flatMap three
theorem StOk.nil : StOk 0 [] := ⟨rfl, by simp⟩
theorem StOk.snoc {n : Nat} {s : List Int} (h : StOk n s) {m : Int} (h0 : 0 ≤ m) (h1 : m < 3) : StOk (n + 1) (s ++ [m]) := ⟨by simp [h.len], fun x hx => by
  rcases List.mem_append.mp hx with z | z
  · exact h.three x z
  · cases List.mem_singleton.mp z; exact ⟨h0, h1⟩⟩
theorem mem_three {s t : List Int} : t ∈ three s ↔ ∃ m : Int, 0 ≤ m ∧ m < 3 ∧ t = s ++ [m] := by
  unfold three
  constructor
  · intro h
    rcases List.mem_cons.mp h with h | h
    · exact ⟨0, by omega, by omega, h⟩
    rcases List.mem_cons.mp h with h | h
    · exact ⟨1, by omega, by omega, h⟩
    exact ⟨2, by omega, by omega, List.mem_singleton.mp h⟩
  · rintro ⟨m, h0, h1, rfl⟩
    obtain rfl | rfl | rfl : m = 0 ∨ m = 1 ∨ m = 2 := by omega
    · simp
    · simp
    · simp
theorem mem_allS : ∀ {n : Nat} {s : List Int}, s ∈ allS n ↔ StOk n s
  | 0, s => by
    show s ∈ [[]] ↔ _
    rw [List.mem_singleton]
    constructor
    · rintro rfl; exact .nil
    · intro h; exact List.length_eq_zero_iff.mp h.len
  | n + 1, s => by
    show s ∈ (allS n).flatMap three ↔ _
    rw [List.mem_flatMap]
    constructor
    · rintro ⟨t, ht, hs⟩
      obtain ⟨m, h0, h1, rfl⟩ := mem_three.mp hs
      exact (mem_allS.mp ht).snoc h0 h1
    · intro h
      have hne : s ≠ [] := by intro z; have := h.len; rw [z] at this; cases this
      refine ⟨s.dropLast, mem_allS.mpr ⟨by rw [List.length_dropLast, h.len]; rfl, fun x hx => h.three x (List.dropLast_subset s hx)⟩, mem_three.mpr ⟨s.getLast hne, (h.three _ (List.getLast_mem hne)).1, (h.three _ (List.getLast_mem hne)).2, (List.dropLast_concat_getLast hne).symm⟩⟩
theorem mood_eq {s : List Int} {i : Nat} (h : i < s.length) : mood s i = s[i] := by unfold mood; rw [List.getD_eq_getElem?_getD, List.getElem?_eq_getElem h]; rfl
theorem add_one {n : Nat} {s : List Int} (hn : s.length ≤ 1000) (m : Int) : dAdd (stD s) (.tuple [.int m]) = some (stD (s ++ [m])) := by
  unfold dAdd stD
  simp only [List.length_map, List.length_cons, List.length_nil]
  rw [if_pos (by unfold sizeLine; omega)]
  simp
local macro_rules | `(tactic| decreasing_trivial_pre_omega) => `(tactic| first
  | with_reducible assumption)

set_option autoImplicit false
def Mo (l : List Int) : Prop := ∀ x ∈ l, 0 ≤ x ∧ x < 3
theorem Mo.app {a b : List Int} (h : Mo a) (h' : Mo b) : Mo (a ++ b) := fun x hx => (List.mem_append.mp hx).elim (h x) (h' x)
theorem Mo.take {a : List Int} (h : Mo a) (k : Nat) : Mo (a.take k) := fun x hx => h x (List.mem_of_mem_take hx)
theorem Mo.drop {a : List Int} (h : Mo a) (k : Nat) : Mo (a.drop k) := fun x hx => h x (List.mem_of_mem_drop hx)

set_option autoImplicit false
local macro_rules | `(tactic| decreasing_trivial_pre_omega) => `(tactic| first
  | with_reducible assumption)

set_option autoImplicit false
local macro_rules | `(tactic| decreasing_trivial_pre_omega) => `(tactic| first
  | with_reducible assumption)

set_option autoImplicit false

set_option autoImplicit false
def Tally (L : List (List Int)) (l : List (List Int × D)) : Prop := ∃ ks : List (List Int), l = ks.map (fun t => (t, natD (L.count t))) ∧ ks.Nodup ∧ ∀ t, t ∈ ks ↔ t ∈ L
theorem find_map {α : Type} (f : List Int → α) (ks : List (List Int)) (t : List Int) : (ks.map fun u => (u, f u)).find? (fun p => decide (p.1 = t)) = if t ∈ ks then some (t, f t) else none := by
  induction ks with
  | nil => rfl
  | cons u ks ih =>
    rw [List.map_cons, List.find?_cons]
    by_cases h : u = t
    · simp [h]
    · have h' : t ≠ u := fun e => h e.symm
      simp only [h, decide_false, ih, List.mem_cons, h', false_or]
theorem Tally.get {L : List (List Int)} {l : List (List Int × D)} (h : Tally L l) (t : List Int) : dGetV (kvsS l) (stD t) = if t ∈ L then some (natD (L.count t)) else none := by
  obtain ⟨ks, rfl, hn, hk⟩ := h
  rw [dGetV_st, find_map]
  by_cases hm : t ∈ ks
  · rw [if_pos hm, if_pos ((hk t).mp hm)]
    rfl
  · rw [if_neg hm, if_neg (fun z => hm ((hk t).mpr z))]
    rfl
theorem Tally.has {L : List (List Int)} {l : List (List Int × D)} (h : Tally L l) (t : List Int) : dIn (stD t) (.dict (kvsS l)) = some (.bool (decide (t ∈ L))) := by
  show (dHas _ _).map _ = _
  rw [has_dict]
  obtain ⟨ks, rfl, hn, hk⟩ := h
  rw [List.map_map]
  show some (PyData.bool (decide (t ∈ ks.map id))) = _
  rw [List.map_id]
  congr 2
  exact decide_eq_decide.mpr (hk t)
theorem Tally.nil : Tally [] [] := ⟨[], rfl, List.nodup_nil, fun t => Iff.rfl⟩
theorem Tally.put {M M' : List (List Int)} {l : List (List Int × D)} (h : Tally M l) {t0 : List Int} {c : Nat} (hc : 0 < c) (hM : ∀ t, M'.count t = M.count t + if t = t0 then c else 0) : ∃ l', dPutV (kvsS l) (stD t0) (natD (M.count t0 + c)) = kvsS l' ∧ Tally M' l' := by
  obtain ⟨ks, rfl, hn, hk⟩ := h
  have hmem : ∀ t, t ∈ M' ↔ t ∈ M ∨ t = t0 := fun t => by
    rw [← List.count_pos_iff, ← List.count_pos_iff, hM]
    by_cases e : t = t0
    · simp [e]; omega
    · simp [e]
  by_cases hm : t0 ∈ ks
  · refine ⟨ks.map fun t => (t, natD (M'.count t)), ?_, ks, rfl, hn, fun t => ?_⟩
    · unfold dPutV
      rw [if_pos]
      · unfold kvsS
        rw [List.map_map, List.map_map, List.map_map]
        refine List.map_congr_left fun t _ => ?_
        simp only [Function.comp]
        rw [dkEq_st]
        by_cases e : t = t0
        · simp [e, hM]
        · simp [e, hM]
      · unfold kvsS
        rw [List.map_map, List.any_map, List.any_eq_true]
        exact ⟨t0, hm, by simp only [Function.comp]; rw [dkEq_st]; simp⟩
    · rw [hmem, hk]
      refine ⟨.inl, fun z => z.elim id fun e => ?_⟩
      rw [e]
      exact (hk t0).mp hm
  · refine ⟨(ks.map fun t => (t, natD (M.count t))) ++ [(t0, natD (M.count t0 + c))], dPutV_st (fun p hp e => ?_), ks ++ [t0], ?_, ?_, fun t => ?_⟩
    · obtain ⟨t, ht, rfl⟩ := List.mem_map.mp hp
      exact hm (e ▸ ht)
    · rw [List.map_append]
      congr 1
      · refine List.map_congr_left fun t ht => ?_
        have e : t ≠ t0 := fun e => hm (e ▸ ht)
        rw [hM, if_neg e, Nat.add_zero]
      · rw [List.map_cons, List.map_nil, hM, if_pos rfl]
    · rw [List.nodup_append]
      exact ⟨hn, by simp, fun a ha b hb e => hm (by cases List.mem_singleton.mp hb; rw [← e]; exact ha)⟩
    · rw [List.mem_append, List.mem_singleton, hmem, hk]

set_option autoImplicit false
local macro_rules | `(tactic| decreasing_trivial_pre_omega) => `(tactic| first
  | with_reducible assumption)
theorem add_natN (a b : Nat) : dAdd (natD a) (natD b) = some (natD (a + b)) := by
  show some (PyData.int ((a : Int) + (b : Int))) = some (.int ((a + b : Nat) : Int))
  rw [Int.natCast_add]
theorem nodup_few : ∀ {ks L : List (List Int)}, ks.Nodup → (∀ t ∈ ks, t ∈ L) → ks.length ≤ L.length
  | [], _, _, _ => Nat.zero_le _
  | t :: ks, L, hn, h => by
    obtain ⟨h1, h2⟩ := List.nodup_cons.mp hn
    have ht := h t List.mem_cons_self
    have := nodup_few (ks := ks) (L := L.erase t) h2 fun u hu => (List.mem_erase_of_ne (fun e => h1 (by rw [← e]; exact hu))).mpr (h u (List.mem_cons_of_mem _ hu))
    rw [List.length_erase_of_mem ht] at this
    have := List.length_pos_of_mem ht
    rw [List.length_cons]
    omega
theorem Tally.len {L : List (List Int)} {l : List (List Int × D)} (h : Tally L l) : l.length ≤ L.length := by
  obtain ⟨ks, rfl, hn, hk⟩ := h
  rw [List.length_map]
  exact nodup_few hn fun t ht => (hk t).mp ht

set_option autoImplicit false
def atT (w : Web) (m : Nat) : List (List Int) := (allS w.n).map fun t => runL w t m
theorem atT_0 (w : Web) : atT w 0 = allS w.n := by
  show (allS w.n).map (fun t => t) = _
  rw [List.map_id']
theorem mem_atT {w : Web} {m : Nat} {s : List Int} : s ∈ atT w m ↔ ∃ t, StOk w.n t ∧ runL w t m = s := by
  unfold atT
  rw [List.mem_map]
  constructor
  · rintro ⟨t, ht, e⟩; exact ⟨t, mem_allS.mp ht, e⟩
  · rintro ⟨t, ht, e⟩; exact ⟨t, mem_allS.mpr ht, e⟩
def Endless (w : Web) (s : List Int) : Prop := ∃ p, 0 < p ∧ runL w s p = s
theorem run_add (w : Web) (s : List Int) (a : Nat) : ∀ b, runL w (runL w s a) b = runL w s (a + b)
  | 0 => rfl
  | b + 1 => by show nxt w _ = nxt w _; rw [run_add w s a b]; rfl
/-- a state that comes twice on its way to s: s comes again -/
theorem endless_of {w : Web} {t : List Int} {i j m : Nat} (hij : i < j) (hjm : j ≤ m) (e : runL w t i = runL w t j) : Endless w (runL w t m) := by
  refine ⟨j - i, by omega, ?_⟩
  have h1 : runL w t m = runL w (runL w t i) (m - i) := by rw [run_add]; congr 1; omega
  have h2 : runL w t m = runL w (runL w t j) (m - j) := by rw [run_add]; congr 1; omega
  rw [run_add]
  rw [show m + (j - i) = j + (m - i) by omega, ← run_add, ← e, ← h1]
theorem deep_endless {w : Web} {s : List Int} (h : s ∈ atT w (3 ^ w.n)) : Endless w s := by
  obtain ⟨t, ht, rfl⟩ := mem_atT.mp h
  by_cases hd : ((List.range (3 ^ w.n + 1)).map fun k => runL w t k).Nodup
  · have := few_states hd fun s hs => by
      obtain ⟨k, _, rfl⟩ := List.mem_map.mp hs
      exact run_ok ht k
    simp at this
    omega
  · unfold List.Nodup at hd
    rw [List.pairwise_iff_getElem] at hd
    have ⟨i, hd⟩ := Classical.not_forall.mp hd
    have ⟨j, hd⟩ := Classical.not_forall.mp hd
    have ⟨hi, hd⟩ := Classical.not_forall.mp hd
    have ⟨hj, hd⟩ := Classical.not_forall.mp hd
    have ⟨hij, hd⟩ := Classical.not_forall.mp hd
    have e := Classical.not_not.mp hd
    simp only [List.getElem_map, List.getElem_range] at e
    simp at hj
    exact endless_of hij (by omega) e
/-- how deep below s the states lie -/
theorem deepest {w : Web} {s : List Int} (hs : StOk w.n s) (h : ¬ Endless w s) : ∃ D, D < 3 ^ w.n ∧ s ∈ atT w D ∧ s ∉ atT w (D + 1) := by
  have key : ∀ M, s ∉ atT w M → ∃ D, D < M ∧ s ∈ atT w D ∧ s ∉ atT w (D + 1) := fun M => by
    induction M with
    | zero => intro h; rw [atT_0] at h; exact (h (mem_allS.mpr hs)).elim
    | succ M ih =>
      intro hM
      by_cases h2 : s ∈ atT w M
      · exact ⟨M, by omega, h2, hM⟩
      · obtain ⟨D, a, b⟩ := ih h2
        exact ⟨D, by omega, b⟩
  exact key _ fun z => h (deep_endless z)
local macro_rules | `(tactic| decreasing_trivial_pre_omega) => `(tactic| first
  | with_reducible assumption)

set_option autoImplicit false
local macro_rules | `(tactic| decreasing_trivial_pre_omega) => `(tactic| first
  | with_reducible assumption)

set_option autoImplicit false
section
variable {w : Web} {s : List Int}
theorem cut_at {v u : Nat} {X : List Nat} (hu : u ∈ v :: X) : ∃ A B, X = A ++ B ∧ endF v A = u := by
  rcases List.mem_cons.mp hu with rfl | hu
  · exact ⟨[], X, rfl, rfl⟩
  · obtain ⟨A, B, rfl⟩ := List.append_of_mem hu
    exact ⟨A ++ [u], B, by simp, by rw [endF_append]; rfl⟩
end

set_option autoImplicit false
section
variable {w : Web} {s : List Int}
end

set_option autoImplicit false
section
variable {w : Web} {s : List Int}
end

set_option autoImplicit false
section
variable {w : Web}
end
local macro_rules | `(tactic| decreasing_trivial_pre_omega) => `(tactic| first
  | with_reducible assumption)

set_option autoImplicit false
def isDig (c : Nat) : Bool := decide (48 ≤ c ∧ c < 58)
/-- a word's street -/
def sp (x : Str) : Option (Nat × Nat) := match x.cps.toList with
  | [p, q, r] => if q = 45 ∧ isDig p = true ∧ isDig r = true then some (p - 48, r - 48) else none
  | _ => none
local macro_rules | `(tactic| decreasing_trivial_pre_omega) => `(tactic| first
  | with_reducible assumption)

set_option autoImplicit false
instance (p q : Nat × Nat) : Decidable (lexN p q) := by unfold lexN; infer_instance
theorem up_range' (a n : Nat) : up (a : Int) n = (List.range' a n).map natD := by
  induction n generalizing a with
  | zero => rfl
  | succ n ih =>
    show PyData.int (a : Int) :: up ((a : Int) + 1) n = _
    rw [show ((a : Int) + 1) = ((a + 1 : Nat) : Int) by omega, ih]
    rfl
theorem rng2_up {os : List Opd} {ρ ρ1 : Env} {xs : List (Option D)} {a b : Nat} (h1 : evo os ρ = .ok xs ρ1) (h2 : fino os xs ρ1 = some [natD a, natD b]) (hb : b ≤ 100000) (ha : a ≤ 100000) : iRng fR2 os ρ = .ok ((List.range' a (b - a)).map natD) ρ1 := by
  have := iRng_ok (f := fR2) (lo := (a : Int)) (hi := (b : Int)) h1 h2 rfl ⟨by omega, by omega, by omega, by omega⟩
  rw [this, show ((b : Int) - a).toNat = b - a by omega, up_range']
local macro_rules | `(tactic| decreasing_trivial_pre_omega) => `(tactic| first
  | with_reducible assumption)

set_option autoImplicit false
local macro_rules | `(tactic| decreasing_trivial_pre_omega) => `(tactic| first
  | with_reducible assumption)

set_option autoImplicit false
local macro_rules | `(tactic| decreasing_trivial_pre_omega) => `(tactic| first
  | with_reducible assumption)

set_option autoImplicit false
local macro_rules | `(tactic| decreasing_trivial_pre_omega) => `(tactic| first
  | with_reducible assumption)

set_option autoImplicit false
def lotsZ (n : Nat) : Nat → List (List Nat)
  | 0 => [[]]
  | k + 1 => (lotsZ n k).flatMap fun lot => ((List.range n).filter fun v => lot.all (fun u => decide (u < v))).map fun v => lot ++ [v]
def lawL : Nat → List (List Nat)
  | 0 => [[]]
  | n + 1 => lawL n ++ (lawL n).map fun lot => lot ++ [n]
def allLots (n : Nat) : List (List Nat) := (List.range (n + 1)).flatMap (lotsZ n)
def unN : D → Option Nat
  | .int i => if 0 ≤ i then some i.toNat else none
  | _ => none
def unNs : List D → Option (List Nat)
  | [] => some []
  | d :: ds => (unN d).bind fun x => (unNs ds).map fun l => x :: l
def unT : D → Option (List Nat)
  | .tuple ds => unNs ds
  | _ => none
def unTs : List D → Option (List (List Nat))
  | [] => some []
  | d :: ds => (unT d).bind fun x => (unTs ds).map fun l => x :: l
theorem unN_eq {d : D} {k : Nat} (h : unN d = some k) : d = natD k := by
  unfold unN at h
  split at h
  · split at h
    · rename_i i hi
      cases h
      unfold natD
      rw [show ((i.toNat : Nat) : Int) = i by omega]
    · cases h
  · cases h
theorem unNs_eq : ∀ {ds : List D} {l : List Nat}, unNs ds = some l → ds = l.map natD
  | [], l, h => by cases h; rfl
  | d :: ds, l, h => by
    unfold unNs at h
    cases e1 : unN d with
    | none => rw [e1] at h; cases h
    | some x =>
      rw [e1] at h
      cases e2 : unNs ds with
      | none => rw [e2] at h; cases h
      | some l' =>
        rw [e2] at h
        cases h
        rw [List.map_cons, ← unNs_eq e2, unN_eq e1]
theorem unT_eq {d : D} {l : List Nat} (h : unT d = some l) : d = tupN l := by
  unfold unT at h
  split at h
  · unfold tupN
    rw [unNs_eq h]
  · cases h
theorem unTs_eq : ∀ {ds : List D} {l : List (List Nat)}, unTs ds = some l → ds = l.map tupN
  | [], l, h => by cases h; rfl
  | d :: ds, l, h => by
    unfold unTs at h
    cases e1 : unT d with
    | none => rw [e1] at h; cases h
    | some x =>
      rw [e1] at h
      cases e2 : unTs ds with
      | none => rw [e2] at h; cases h
      | some l' =>
        rw [e2] at h
        cases h
        rw [List.map_cons, ← unTs_eq e2, unT_eq e1]
def sameLL (r : FR) (l : List (List Nat)) : Bool := match r with
  | .ok (.list ds) [] => decide (unTs ds = some l)
  | _ => false
theorem sameLL_eq {r : FR} {l : List (List Nat)} (h : sameLL r l = true) : r = .ok (.list (l.map tupN)) [] := by
  unfold sameLL at h
  split at h
  · rw [unTs_eq (of_decide_eq_true h)]
  · cases h
theorem lots_all : ∀ n < 6, ∀ k < 6, sameLL (f_lots_of_size [.fz (natD n), .fz (natD k)]) (lotsZ n k) = true := by decide +kernel
theorem law_lots_all : ∀ n < 6, sameLL (f__law_lots [.fz (natD n)]) (lawL n) = true := by decide +kernel
theorem lots_eq {n k : Nat} (hn : n ≤ 5) (hk : k ≤ 5) : f_lots_of_size [.fz (natD n), .fz (natD k)] = .ok (.list ((lotsZ n k).map tupN)) [] := sameLL_eq (lots_all n (by omega) k (by omega))
theorem law_lots_eq {n : Nat} (hn : n ≤ 5) : f__law_lots [.fz (natD n)] = .ok (.list ((lawL n).map tupN)) [] := sameLL_eq (law_lots_all n (by omega))
def keyI (l : List Int) : List Int := (l.length : Int) :: l
theorem le_K (a b : List Int) : PySem.W.dataLe false keyT a b = decide (keyI a ≤ keyI b) := by
  have h : PySem.W.dataLe false keyT a b = !PySem.W.dataLt (keyT b) (keyT a) := rfl
  have h2 : PySem.W.dataLt (keyT b) (keyT a) = decide (keyI b < keyI a) := by
    unfold keyT
    rw [PySem.W.dataLt_pair (by simp [PySem.W.alike]) (by simp only [encT, PySem.W.alike, PySem.W.alike_ints]), eqv_int]
    have e1 : PySem.W.dataLt (.int (b.length : Int)) (.int (a.length : Int)) = decide ((b.length : Int) < a.length) := by
      have := PySem.W.dataLt_ints [(b.length : Int)] [(a.length : Int)]
      have e : PySem.W.dataLt (.int (b.length : Int)) (.int (a.length : Int)) = PySem.W.rowLt ([(b.length : Int)].map PyData.int) ([(a.length : Int)].map PyData.int) := by
        first
          | rfl
          | simp [PySem.W.dataLt, PySem.W.rowLt, PySem.W.keyToks, PySem.W.keyToksAll]
      rw [e, this]
      refine decide_eq_decide.mpr ?_
      rw [List.cons_lt_cons_iff]
      simp
    have e2 : PySem.W.dataLt (encT b) (encT a) = decide (b < a) := PySem.W.dataLt_ints b a
    have e3 : PyData.eqv (encT b) (encT a) = decide (b = a) := eqv_intsT b a
    rw [e1, e2, e3]
    unfold keyI
    by_cases hl : (b.length : Int) = a.length
    · rw [decide_eq_true hl]
      simp only [if_true]
      by_cases hba : b = a
      · subst hba
        simp
      · rw [decide_eq_false hba]
        simp only [Bool.false_eq_true, if_false]
        refine decide_eq_decide.mpr ?_
        rw [List.cons_lt_cons_iff]
        exact ⟨fun h => .inr ⟨hl, h⟩, fun h => h.elim (fun h => by omega) fun h => h.2⟩
    · rw [decide_eq_false hl]
      simp only [Bool.false_eq_true, if_false]
      refine decide_eq_decide.mpr ?_
      rw [List.cons_lt_cons_iff]
      exact ⟨fun h => .inl h, fun h => h.elim id fun h => absurd h.1 hl⟩
  rw [h, h2]
  by_cases hh : keyI b < keyI a
  · have h' : ¬ keyI a ≤ keyI b := fun r => List.not_lt.mpr r hh
    simp [hh, h']
  · have h' : keyI a ≤ keyI b := List.not_lt.mp hh
    simp [hh, h']
def intsL (l : List Nat) : List Int := l.map fun v : Nat => (v : Int)
theorem encT_ints (l : List Nat) : encT (intsL l) = tupN l := by
  unfold encT intsL tupN
  rw [List.map_map]
  rfl
theorem lots_sorted : ∀ n < 6, ((allLots n).map intsL).Pairwise fun a b => keyI a ≤ keyI b := by decide +kernel
theorem lots_perm : ∀ n < 6, ((lawL n).map intsL).Perm ((allLots n).map intsL) := by decide +kernel
theorem sort_lots {n : Nat} (hn : n < 6) : sortK ((lawL n).map intsL) = (allLots n).map intsL := by
  have hle : ∀ a b : List Int, (PySem.W.dataLe false keyT a b = true) ↔ keyI a ≤ keyI b := fun a b => by rw [le_K]; simp
  refine List.Perm.eq_of_pairwise (le := fun a b : List Int => keyI a ≤ keyI b) (fun a b _ _ h1 h2 => ?_) ?_ (lots_sorted n hn) ((List.mergeSort_perm _ _).trans (lots_perm n hn))
  · have := List.le_antisymm h1 h2
    exact (List.cons.inj this).2
  · have := PySem.W.sort_pairwise (le := PySem.W.dataLe false keyT) (PySem.W.sortLe_total _ _ _) ((lawL n).map intsL)
    exact this.imp fun {a b} hh => (hle a b).mp hh
theorem sort_key_ok {m : ME} {ρ ρ1 : Env} {n : Nat} (hn : n ≤ 5) (h : m ρ = .ok (.list ((lawL n).map tupN)) ρ1) : mSortKey m ρ = .ok (.list ((allLots n).map tupN)) ρ1 := by
  unfold mSortKey
  rw [h]
  simp only [Rs.then]
  have e : (lawL n).map tupN = ((lawL n).map intsL).map encT := by
    rw [List.map_map]
    exact List.map_congr_left fun l _ => (encT_ints l).symm
  have hz : (((lawL n).map intsL).all fun b => decide (b.length ≤ 1000)) = true := by
    have : ∀ n < 6, (((lawL n).map intsL).all fun b => decide (b.length ≤ 1000)) = true := by decide +kernel
    exact this n (by omega)
  rw [e, dTupsE_of]
  simp only [hz, if_true]
  rw [sort_lots (by omega), List.map_map]
  have e2 : (encT ∘ intsL) = tupN := funext encT_ints
  rw [e2]
theorem mem_lotsZ {n : Nat} : ∀ {k : Nat} {l : List Nat}, l ∈ lotsZ n k ↔ l.length = k ∧ l.Pairwise (· < ·) ∧ ∀ v ∈ l, v < n
  | 0, l => by
    unfold lotsZ
    rw [List.mem_singleton]
    constructor
    · rintro rfl
      simp
    · rintro ⟨h, _⟩
      exact List.length_eq_zero_iff.mp h
  | k + 1, l => by
    unfold lotsZ
    rw [List.mem_flatMap]
    constructor
    · rintro ⟨m, hm, hl⟩
      obtain ⟨v, hv, rfl⟩ := List.mem_map.mp hl
      obtain ⟨h1, h2, h3⟩ := mem_lotsZ.mp hm
      rw [List.mem_filter, List.mem_range, List.all_eq_true] at hv
      refine ⟨by rw [List.length_append, h1]; rfl, ?_, fun u hu => ?_⟩
      · rw [List.pairwise_append]
        refine ⟨h2, by simp, fun a ha b hb => ?_⟩
        rw [List.mem_singleton.mp hb]
        exact of_decide_eq_true (hv.2 a ha)
      · rcases List.mem_append.mp hu with hu | hu
        · exact h3 u hu
        · rw [List.mem_singleton.mp hu]
          exact hv.1
    · rintro ⟨h1, h2, h3⟩
      have hne : l ≠ [] := by rintro rfl; cases h1
      have hd : l.dropLast ++ [l.getLast hne] = l := List.dropLast_concat_getLast hne
      have h2' := h2
      rw [← hd, List.pairwise_append] at h2'
      refine ⟨l.dropLast, mem_lotsZ.mpr ⟨by rw [List.length_dropLast, h1]; rfl, h2'.1, fun v hv => h3 v ((List.dropLast_sublist l).subset hv)⟩, List.mem_map.mpr ⟨l.getLast hne, ?_, hd⟩⟩
      rw [List.mem_filter, List.mem_range, List.all_eq_true]
      exact ⟨h3 _ (List.getLast_mem hne), fun u hu => decide_eq_true (h2'.2.2 u hu _ (by simp))⟩

set_option autoImplicit false
theorem nd_sub {α : Type} [DecidableEq α] : ∀ {l m : List α}, l.Nodup → (∀ x ∈ l, x ∈ m) → l.length ≤ m.length
  | [], _, _, _ => Nat.zero_le _
  | a :: l, m, hn, hs => by
    obtain ⟨h1, h2⟩ := List.nodup_cons.mp hn
    have ha := hs a List.mem_cons_self
    have := nd_sub (m := m.erase a) h2 fun x hx => (List.mem_erase_of_ne (fun e => h1 (by rw [← e]; exact hx))).mpr (hs x (List.mem_cons_of_mem _ hx))
    rw [List.length_erase_of_mem ha] at this
    have h0 : 0 < m.length := List.length_pos_of_mem ha
    rw [List.length_cons]
    omega
section
variable {w : Web}
noncomputable def root (w : Web) (v : Nat) : Nat := (lead_of w v).choose
theorem root_spec (w : Web) (v : Nat) : root w v ≤ v ∧ Reach w (root w v) v ∧ ∀ z, z < root w v → ¬ Reach w z (root w v) := (lead_of w v).choose_spec
theorem root_eq {u v : Nat} (h : Reach w u v) : root w u = root w v := by
  obtain ⟨_, h1, h2⟩ := root_spec w u
  obtain ⟨_, h3, h4⟩ := root_spec w v
  have r : Reach w (root w u) (root w v) := (h1.trans h).trans h3.symm
  rcases Nat.lt_trichotomy (root w u) (root w v) with h | h | h
  · exact absurd r (h4 _ h)
  · exact h
  · exact absurd r.symm (h2 _ h)
theorem depE (w : Web) (v : Nat) : ∃ m, Dist w (root w v) v m := by
  obtain ⟨m, hm⟩ := (root_spec w v).2.1.walk
  have : ∀ k, (∃ m, m ≤ k ∧ Walk w (root w v) v m) → ∃ m, Dist w (root w v) v m := by
    intro k
    induction k with
    | zero =>
      rintro ⟨m, h0, hm⟩
      exact ⟨m, hm, fun j hj => by omega⟩
    | succ k ih =>
      rintro ⟨m, h0, hm⟩
      by_cases h : ∃ m, m ≤ k ∧ Walk w (root w v) v m
      · exact ih h
      · refine ⟨m, hm, fun j hj => ?_⟩
        by_cases hjk : j ≤ k
        · exact absurd ⟨j, hjk, hj⟩ h
        · omega
  exact this m ⟨m, Nat.le_refl _, hm⟩
noncomputable def dep (w : Web) (v : Nat) : Nat := (depE w v).choose
theorem dep_spec (w : Web) (v : Nat) : Dist w (root w v) v (dep w v) := (depE w v).choose_spec
theorem adj_c (w : Web) (u v : Nat) : w.adj u v = w.adj v u := by unfold Web.adj; rw [Nat.min_comm, Nat.max_comm]
theorem adj_root {u v : Nat} (h : w.adj u v = true) : root w u = root w v := root_eq (Reach.on (.here u) h)
theorem dep_step {u v : Nat} (h : w.adj u v = true) : dep w v ≤ dep w u + 1 := by
  refine (dep_spec w v).2 _ ?_
  rw [← adj_root h]
  exact .on (dep_spec w u).1 h
theorem dep_zero {v : Nat} (h : dep w v = 0) : root w v = v := by
  have := (dep_spec w v).1
  rw [h] at this
  generalize root w v = r at this
  cases this
  rfl
theorem parE {v : Nat} (h : root w v ≠ v) : ∃ u, w.adj u v = true ∧ dep w u + 1 = dep w v := by
  obtain ⟨h1, h2⟩ := dep_spec w v
  cases hd : dep w v with
  | zero => exact absurd (dep_zero hd) h
  | succ d =>
    rw [hd] at h1
    generalize hr : root w v = r at h1
    cases h1 with
    | on hw' e =>
      refine ⟨_, e, ?_⟩
      have h3 := dep_step e
      have h4 := (dep_spec w _).2 d (by rw [adj_root e, hr]; exact hw')
      omega
noncomputable def par (w : Web) (v : Nat) : Nat := if h : root w v ≠ v then (parE h).choose else v
theorem par_spec {v : Nat} (h : root w v ≠ v) : w.adj (par w v) v = true ∧ dep w (par w v) + 1 = dep w v := by
  unfold par
  rw [dif_pos h]
  exact (parE h).choose_spec
def prP (u v : Nat) : Nat × Nat := (min u v, max u v)
theorem prP_eq {a b c d : Nat} (h : prP a b = prP c d) : (a = c ∧ b = d) ∨ (a = d ∧ b = c) := by
  unfold prP at h
  obtain ⟨h1, h2⟩ := Prod.mk.inj h
  omega
noncomputable def kidsT (w : Web) : List Nat := (List.range w.n).filter fun v => decide (root w v ≠ v)
noncomputable def treeE (w : Web) : List (Nat × Nat) := (kidsT w).map fun v => prP (par w v) v
theorem mem_kidsT {v : Nat} : v ∈ kidsT w ↔ v < w.n ∧ root w v ≠ v := by
  unfold kidsT
  simp
theorem tree_nd : (treeE w).Nodup := by
  unfold treeE List.Nodup
  rw [List.pairwise_map]
  have : (kidsT w).Pairwise (· < ·) := by unfold kidsT; exact List.pairwise_lt_range.filter _
  refine this.imp_of_mem fun {u v} hu hv huv e => ?_
  have h1 := (par_spec (mem_kidsT.mp hu).2).2
  have h2 := (par_spec (mem_kidsT.mp hv).2).2
  rcases prP_eq e with ⟨_, e2⟩ | ⟨e1, e2⟩
  · omega
  · rw [e1] at h1
    rw [← e2] at h2
    omega
theorem tree_sub : ∀ e ∈ treeE w, e ∈ w.es := fun e he => by
  obtain ⟨v, hv, rfl⟩ := List.mem_map.mp he
  have := (par_spec (mem_kidsT.mp hv).2).1
  unfold Web.adj at this
  exact of_decide_eq_true this
theorem lead_root {v : Nat} : v ∈ leads w w.n ↔ v < w.n ∧ root w v = v := by
  rw [mem_leads]
  refine and_congr_right fun _ => ⟨fun h => ?_, fun h => ?_⟩
  · obtain ⟨h1, h2, h3⟩ := root_spec w v
    by_cases z : root w v < v
    · exact absurd h2 (h _ z)
    · omega
  · have := (root_spec w v).2.2
    rw [h] at this
    exact this
open Classical in
theorem tree_len : (treeE w).length + (leads w w.n).length = w.n := by
  have e1 : leads w w.n = (List.range w.n).filter fun v => !decide (root w v ≠ v) := by
    unfold leads
    refine List.filter_congr fun v hv => ?_
    have := lead_root (w := w) (v := v)
    rw [mem_leads] at this
    have h2 : (∀ y, y < v → ¬ Reach w y v) ↔ root w v = v := ⟨fun h => (this.mp ⟨List.mem_range.mp hv, h⟩).2, fun h => (this.mpr ⟨List.mem_range.mp hv, h⟩).2⟩
    by_cases h : root w v = v
    · rw [decide_eq_true (h2.mpr h)]
      simp [h]
    · rw [decide_eq_false (fun z => h (h2.mp z))]
      simp [h]
  unfold treeE kidsT
  rw [e1, List.length_map]
  have : ∀ (l : List Nat) (p : Nat → Bool), (l.filter p).length + (l.filter fun v => !p v).length = l.length := by
    intro l p
    induction l with
    | nil => rfl
    | cons a l ih =>
      rw [List.filter_cons, List.filter_cons]
      cases p a <;> simp <;> omega
  rw [this, List.length_range]
theorem es_nd (hw : w.Ok) : w.es.Nodup := hw.sorted.imp fun {a b} h e => by
  subst e
  unfold lexN at h
  omega
theorem tree_le (hw : w.Ok) : (treeE w).length ≤ w.es.length := nd_sub tree_nd tree_sub
theorem tree_all (hw : w.Ok) (h : w.es.length ≤ (treeE w).length) : ∀ e ∈ w.es, e ∈ treeE w := fun e he => by
  refine Classical.byContradiction fun hn => ?_
  have := nd_sub (l := e :: treeE w) (m := w.es) (List.nodup_cons.mpr ⟨hn, tree_nd⟩) fun x hx => (List.mem_cons.mp hx).elim (fun z => by rw [z]; exact he) (tree_sub x)
  rw [List.length_cons] at this
  omega
/-- all streets lead up: no ring -/
theorem no_ring_tree (h : ∀ e ∈ w.es, e ∈ treeE w) {a : Nat} {X : List Nat} (hR : RingF w a X) : False := by
  -- a ring from its deepest one on
  have up : ∀ a b, w.adj a b = true → dep w b ≤ dep w a → par w a = b := fun a b e hd => by
    have he : prP a b ∈ w.es := of_decide_eq_true e
    obtain ⟨v, hv, hp⟩ := List.mem_map.mp (h _ he)
    have hs := (par_spec (mem_kidsT.mp hv).2).2
    rcases prP_eq hp with ⟨e1, e2⟩ | ⟨e1, e2⟩
    · rw [e1, e2] at hs
      omega
    · rw [← e2, e1]
  have key : ∀ a X, RingF w a X → (∀ x ∈ X, dep w x ≤ dep w a) → False := fun a X hR hm => by
    have hl := hR.len
    match X, hl, hR, hm with
    | b :: c :: r, _, hR, hm =>
      have h1 := up a b hR.path.1 (hm b (by simp))
      have hin : endF a (b :: c :: r) ∈ c :: r := endF_mem c r
      have h2 := up a (endF a (b :: c :: r)) (by rw [adj_c]; exact hR.back) (hm _ (List.mem_cons_of_mem _ hin))
      have hb : b ∉ c :: r := (List.nodup_cons.mp (List.nodup_cons.mp hR.nd).2).1
      rw [h1] at h2
      exact hb (by rw [h2]; exact hin)
  obtain ⟨m, hm, hmax⟩ : ∃ m ∈ a :: X, ∀ x ∈ a :: X, dep w x ≤ dep w m := by
    have : ∀ l : List Nat, l ≠ [] → ∃ m ∈ l, ∀ x ∈ l, dep w x ≤ dep w m := by
      intro l
      induction l with
      | nil => intro z; exact absurd rfl z
      | cons y l ih =>
        intro _
        by_cases hl : l = []
        · subst hl
          exact ⟨y, by simp, fun x hx => by rw [List.mem_singleton.mp hx]; exact Nat.le_refl _⟩
        · obtain ⟨m, hm, hx⟩ := ih hl
          by_cases hym : dep w y ≤ dep w m
          · exact ⟨m, List.mem_cons_of_mem _ hm, fun x hx' => (List.mem_cons.mp hx').elim (fun z => by rw [z]; exact hym) (hx x)⟩
          · exact ⟨y, List.mem_cons_self, fun x hx' => (List.mem_cons.mp hx').elim (fun z => by rw [z]; exact Nat.le_refl _) (fun z => by have := hx x z; omega)⟩
    exact this _ (by simp)
  rcases List.mem_cons.mp hm with rfl | hm
  · exact key m X hR fun x hx => hmax x (List.mem_cons_of_mem _ hx)
  · obtain ⟨A, B, rfl⟩ := List.append_of_mem hm
    have := (hR.turn (s := [])).1
    refine key m _ this fun x hx => hmax x ?_
    simp only [List.mem_append, List.mem_cons] at hx ⊢
    rcases hx with h | h | h
    · exact .inr (.inr (.inr h))
    · exact .inl h
    · exact .inr (.inl h)
theorem simple_path {a b : Nat} (h : Reach w a b) : ∃ X, PathF w a X ∧ endF a X = b ∧ (a :: X).Nodup := by
  induction h with
  | here => exact ⟨[], trivial, rfl, by simp⟩
  | @on j k h e ih =>
    obtain ⟨X, h1, h2, h3⟩ := ih
    by_cases hk : k ∈ a :: X
    · obtain ⟨A, B, rfl, he⟩ := cut_at hk
      refine ⟨A, (PathF.append.mp h1).1, he, ?_⟩
      rw [← List.cons_append] at h3
      exact (List.nodup_append.mp h3).1
    · refine ⟨X ++ [k], PathF.append.mpr ⟨h1, by rw [h2]; exact ⟨e, trivial⟩⟩, by rw [endF_append]; rfl, ?_⟩
      rw [← List.cons_append, List.nodup_append]
      exact ⟨h3, by simp, fun x hx y hy => by rw [List.mem_singleton.mp hy]; rintro rfl; exact hk hx⟩
/-- a street that leads up from nobody: a ring -/
theorem ring_of_more (hw : w.Ok) {e : Nat × Nat} (he : e ∈ w.es) (hn : e ∉ treeE w) : ∃ a X, RingF w a X := by
  obtain ⟨x, y⟩ := e
  have hxy := hw.inn _ he
  let w' : Web := ⟨w.n, w.es.filter fun p => decide (p ≠ (x, y))⟩
  have adj' : ∀ {u v : Nat}, w'.adj u v = true ↔ w.adj u v = true ∧ prP u v ≠ (x, y) := fun {u v} => by
    show decide (prP u v ∈ w.es.filter fun p => decide (p ≠ (x, y))) = true ↔ decide (prP u v ∈ w.es) = true ∧ _
    rw [decide_eq_true_eq, decide_eq_true_eq, List.mem_filter, decide_eq_true_eq]
  have up : ∀ d v, v < w.n → dep w v ≤ d → Reach w' (root w v) v := by
    intro d
    induction d with
    | zero =>
      intro v _ hd
      rw [dep_zero (by omega)]
      exact .here v
    | succ d ih =>
      intro v hv hd
      by_cases hr : root w v = v
      · rw [hr]
        exact .here v
      · obtain ⟨h1, h2⟩ := par_spec hr
        have hlt := (Web.adj_lt hw h1).1
        have := ih (par w v) hlt (by omega)
        rw [adj_root h1] at this
        exact .on this (adj'.mpr ⟨h1, fun z => hn (by rw [← z]; exact List.mem_map.mpr ⟨v, mem_kidsT.mpr ⟨hv, hr⟩, rfl⟩)⟩)
  have hadj : w.adj x y = true := by
    have : prP x y = (x, y) := by
      unfold prP
      have h1 : x < y := hxy.1
      rw [Nat.min_eq_left (by omega), Nat.max_eq_right (by omega)]
    show decide (prP x y ∈ w.es) = true
    rw [this]
    exact decide_eq_true he
  have h1 := up _ x (by have h1 : x < y := hxy.1; have h2 : y < w.n := hxy.2; omega) (Nat.le_refl _)
  have h2 := up _ y hxy.2 (Nat.le_refl _)
  rw [adj_root hadj] at h1
  obtain ⟨X, p1, p2, p3⟩ := simple_path (h1.symm.trans h2)
  refine ⟨x, X, p3, ?_, ?_, ?_⟩
  · have hne : x ≠ y := by have h1 : x < y := hxy.1; omega
    match X, p1, p2, p3 with
    | [], _, p2, _ => exact absurd p2 hne
    | [z], p1, p2, _ =>
      have hz : z = y := p2
      have := (adj'.mp p1.1).2
      rw [hz] at this
      refine absurd ?_ this
      unfold prP
      have h1 : x < y := hxy.1
      rw [Nat.min_eq_left (by omega), Nat.max_eq_right (by omega)]
    | _ :: _ :: _, _, _, _ => simp
  · have : ∀ (X : List Nat) (a : Nat), PathF w' a X → PathF w a X := by
      intro X
      induction X with
      | nil => intro a _; trivial
      | cons b r ih => intro a h; exact ⟨(adj'.mp h.1).1, ih b h.2⟩
    exact this X x p1
  · rw [p2, adj_c]
    exact hadj
theorem ring_iff (hw : w.Ok) : (∃ a X, RingF w a X) ↔ w.n < w.es.length + (leads w w.n).length := by
  have h1 := tree_len (w := w)
  have h2 := tree_le hw
  constructor
  · rintro ⟨a, X, hR⟩
    refine Classical.byContradiction fun hn => ?_
    exact no_ring_tree (tree_all hw (by omega)) hR
  · intro h
    obtain ⟨e, he, hn⟩ : ∃ e, e ∈ w.es ∧ e ∉ treeE w := by
      refine Classical.byContradiction fun hno => ?_
      have : ∀ e ∈ w.es, e ∈ treeE w := fun e he => Classical.byContradiction fun hn => hno ⟨e, he, hn⟩
      have := nd_sub (es_nd hw) this
      omega
    exact ring_of_more hw he hn
end
open Classical in
noncomputable def ringB (w : Web) : Bool := decide (∃ a X, RingF w a X)
local macro_rules | `(tactic| decreasing_trivial_pre_omega) => `(tactic| first
  | with_reducible assumption)
theorem has_ring_eq {w : Web} (hw : w.Ok) : f_has_ring [.fz (webD w)] = .ok (.bool (ringB w)) [] := by
  have w0 := web_0 w
  have w1 := web_1 w
  have hp := parts_exact hw
  have l1 : dLen [.tuple (w.es.map pairN)] = some (natD w.es.length) := by rw [len_T, List.length_map]
  have l2 : dLen [.list ((partsL w w.n).map tupN)] = some (natD (leads w w.n).length) := by rw [len_L, List.length_map]; unfold partsL; rw [List.length_map]
  have s1 : dSub (natD w.n) (natD (leads w w.n).length) = some (.int ((w.n : Int) - (leads w w.n).length)) := rfl
  have g1 : dGt (natD w.es.length) (.int ((w.n : Int) - (leads w w.n).length)) = some (.bool (ringB w)) := by
    unfold natD ringB
    rw [gt_int]
    refine congrArg (fun b => some (PyData.bool b)) (decide_eq_decide.mpr ?_)
    rw [ring_iff hw]
    omega
  refine W.fn0 rfl ?_; unfold m_has_ring; simp only [Nat.reduceSub, List.replicate_succ, List.replicate_zero, List.cons_append, List.nil_append]
  exact .ret (by array_get_dec) rfl

set_option autoImplicit false
theorem mood_set {o : List Int} {v : Nat} (hv : v < o.length) (m : Int) (u : Nat) : mood (o.set v m) u = if u = v then m else mood o u := by
  unfold mood
  rw [List.getD_eq_getElem?_getD, List.getD_eq_getElem?_getD, List.getElem?_set]
  by_cases h : v = u
  · subst h
    simp [hv]
  · rw [if_neg h, if_neg (fun z => h z.symm)]
theorem set_ok {n : Nat} {o : List Int} (h : StOk n o) {v : Nat} {m : Int} (h0 : 0 ≤ m) (h3 : m < 3) : StOk n (o.set v m) :=
  ⟨by rw [List.length_set]; exact h.len, fun x hx => (List.mem_or_eq_of_mem_set hx).elim (h.three x) fun e => by rw [e]; exact ⟨h0, h3⟩⟩
theorem set_cat {o : List Int} {v : Nat} (hv : v < o.length) (m : Int) : o.take v ++ [m] ++ o.drop (v + 1) = o.set v m := by
  rw [List.set_eq_take_append_cons_drop, if_pos hv, List.append_assoc]
  rfl
theorem st_ext {n : Nat} {s t : List Int} (hs : StOk n s) (ht : StOk n t) (h : ∀ v, v < n → mood s v = mood t v) : s = t := by
  refine List.ext_getElem (by rw [hs.len, ht.len]) fun i h1 h2 => ?_
  have := h i (by rw [← hs.len]; exact h1)
  rw [mood_eq h1, mood_eq h2] at this
  exact this
/-- t is o with other moods at a lot -/
structure PtO (n : Nat) (o : List Int) (lot : List Nat) (t : List Int) : Prop where
  st : StOk n t
  off : ∀ v, v < n → v ∉ lot → mood t v = mood o v
  on : ∀ v ∈ lot, mood t v ≠ mood o v
def ptA : List Nat → List (List Int) → List (List Int)
  | [], f => f
  | v :: lot, f => ptA lot (f.flatMap fun o => [o.set v ((mood o v + 1) % 3), o.set v ((mood o v + 2) % 3)])
def ptB (s : List Int) : List Nat → List (List Int) → List (List Int)
  | [], f => f
  | v :: lot, f => ptB s lot (f.flatMap fun o => ([0, 1, 2].filter fun m => !decide (m = mood s v)).map fun m => o.set v m)
theorem pt_cons {n : Nat} {o t : List Int} {v : Nat} {lot : List Nat} (ho : StOk n o) (hv : v < n) (hn : v ∉ lot) : PtO n o (v :: lot) t ↔ ∃ m, 0 ≤ m ∧ m < 3 ∧ m ≠ mood o v ∧ PtO n (o.set v m) lot t := by
  have hvl : v < o.length := by rw [ho.len]; exact hv
  constructor
  · rintro ⟨h1, h2, h3⟩
    have hm := mood_three h1 v
    refine ⟨mood t v, hm.1, hm.2, h3 v List.mem_cons_self, h1, fun u hu hul => ?_, fun u hu => ?_⟩
    · rw [mood_set hvl]
      split
      · rename_i e
        rw [e]
      · rename_i e
        exact h2 u hu fun z => (List.mem_cons.mp z).elim e hul
    · rw [mood_set hvl, if_neg (fun e => hn (by rw [← e]; exact hu))]
      exact h3 u (List.mem_cons_of_mem _ hu)
  · rintro ⟨m, h0, h3, hne, h4, h5, h6⟩
    refine ⟨h4, fun u hu hul => ?_, fun u hu => ?_⟩
    · have := h5 u hu fun z => hul (List.mem_cons_of_mem _ z)
      rw [mood_set hvl, if_neg (fun e => hul (by rw [e]; exact List.mem_cons_self))] at this
      exact this
    · rcases List.mem_cons.mp hu with rfl | hu
      · have := h5 u hv hn
        rw [mood_set hvl, if_pos rfl] at this
        rw [this]
        exact hne
      · have := h6 u hu
        rw [mood_set hvl, if_neg (fun e => hn (by rw [← e]; exact hu))] at this
        exact this
theorem two_other {x : Int} (h0 : 0 ≤ x) (h3 : x < 3) (m : Int) : (0 ≤ m ∧ m < 3 ∧ m ≠ x) ↔ m = (x + 1) % 3 ∨ m = (x + 2) % 3 := by omega
theorem mem_ptA {n : Nat} : ∀ {lot : List Nat} {f : List (List Int)} {t : List Int}, lot.Nodup → (∀ v ∈ lot, v < n) → (∀ o ∈ f, StOk n o) → (t ∈ ptA lot f ↔ ∃ o ∈ f, PtO n o lot t)
  | [], f, t, _, _, hf => by
    unfold ptA
    constructor
    · intro h
      exact ⟨t, h, hf t h, fun _ _ _ => rfl, fun _ h => by cases h⟩
    · rintro ⟨o, ho, h1, h2, _⟩
      rw [st_ext h1 (hf o ho) fun v hv => h2 v hv (by simp)]
      exact ho
  | v :: lot, f, t, hn, hl, hf => by
    obtain ⟨n1, n2⟩ := List.nodup_cons.mp hn
    have hv := hl v List.mem_cons_self
    unfold ptA
    rw [mem_ptA n2 (fun u hu => hl u (List.mem_cons_of_mem _ hu)) (fun o ho => by
      obtain ⟨p, hp, ho⟩ := List.mem_flatMap.mp ho
      simp only [List.mem_cons, List.not_mem_nil, or_false] at ho
      rcases ho with rfl | rfl
      · exact set_ok (hf p hp) (by omega) (by omega)
      · exact set_ok (hf p hp) (by omega) (by omega))]
    constructor
    · rintro ⟨o, ho, hp⟩
      obtain ⟨p, hpf, ho⟩ := List.mem_flatMap.mp ho
      have hm := mood_three (hf p hpf) v
      simp only [List.mem_cons, List.not_mem_nil, or_false] at ho
      refine ⟨p, hpf, (pt_cons (hf p hpf) hv n1).mpr ?_⟩
      rcases ho with rfl | rfl
      · exact ⟨_, by omega, by omega, by omega, hp⟩
      · exact ⟨_, by omega, by omega, by omega, hp⟩
    · rintro ⟨p, hpf, hp⟩
      obtain ⟨m, h0, h3, hne, hp⟩ := (pt_cons (hf p hpf) hv n1).mp hp
      have hm := mood_three (hf p hpf) v
      refine ⟨p.set v m, List.mem_flatMap.mpr ⟨p, hpf, ?_⟩, hp⟩
      rcases (two_other hm.1 hm.2 m).mp ⟨h0, h3, hne⟩ with rfl | rfl
      · simp
      · simp
theorem mem_ptB {n : Nat} {s : List Int} : ∀ {lot : List Nat} {f : List (List Int)} {t : List Int}, lot.Nodup → (∀ v ∈ lot, v < n) → (∀ o ∈ f, StOk n o ∧ ∀ v ∈ lot, mood o v = mood s v) → (t ∈ ptB s lot f ↔ ∃ o ∈ f, PtO n o lot t)
  | [], f, t, _, _, hf => by
    unfold ptB
    constructor
    · intro h
      exact ⟨t, h, (hf t h).1, fun _ _ _ => rfl, fun _ h => by cases h⟩
    · rintro ⟨o, ho, h1, h2, _⟩
      rw [st_ext h1 (hf o ho).1 fun v hv => h2 v hv (by simp)]
      exact ho
  | v :: lot, f, t, hn, hl, hf => by
    obtain ⟨n1, n2⟩ := List.nodup_cons.mp hn
    have hv := hl v List.mem_cons_self
    have mem : ∀ m : Int, m ∈ ([0, 1, 2].filter fun m => !decide (m = mood s v)) ↔ 0 ≤ m ∧ m < 3 ∧ m ≠ mood s v := fun m => by
      rw [List.mem_filter]
      simp only [List.mem_cons, List.not_mem_nil, or_false, Bool.not_eq_true', decide_eq_false_iff_not]
      constructor
      · rintro ⟨h, h2⟩
        exact ⟨by omega, by omega, h2⟩
      · rintro ⟨h1, h2, h3⟩
        exact ⟨by omega, h3⟩
    unfold ptB
    rw [mem_ptB n2 (fun u hu => hl u (List.mem_cons_of_mem _ hu)) (fun o ho => by
      obtain ⟨p, hp, ho⟩ := List.mem_flatMap.mp ho
      obtain ⟨m, hm, rfl⟩ := List.mem_map.mp ho
      obtain ⟨h0, h3, _⟩ := (mem m).mp hm
      refine ⟨set_ok (hf p hp).1 h0 h3, fun u hu => ?_⟩
      rw [mood_set (by rw [(hf p hp).1.len]; exact hv), if_neg (fun e => n1 (by rw [← e]; exact hu))]
      exact (hf p hp).2 u (List.mem_cons_of_mem _ hu))]
    constructor
    · rintro ⟨o, ho, hp⟩
      obtain ⟨p, hpf, ho⟩ := List.mem_flatMap.mp ho
      obtain ⟨m, hm, rfl⟩ := List.mem_map.mp ho
      obtain ⟨h0, h3, hne⟩ := (mem m).mp hm
      exact ⟨p, hpf, (pt_cons (hf p hpf).1 hv n1).mpr ⟨m, h0, h3, by rw [(hf p hpf).2 v List.mem_cons_self]; exact hne, hp⟩⟩
    · rintro ⟨p, hpf, hp⟩
      obtain ⟨m, h0, h3, hne, hp⟩ := (pt_cons (hf p hpf).1 hv n1).mp hp
      rw [(hf p hpf).2 v List.mem_cons_self] at hne
      exact ⟨p.set v m, List.mem_flatMap.mpr ⟨p, hpf, List.mem_map.mpr ⟨m, (mem m).mpr ⟨h0, h3, hne⟩, rfl⟩⟩, hp⟩
theorem ptA_len : ∀ (lot : List Nat) (f : List (List Int)), (ptA lot f).length = f.length * 2 ^ lot.length
  | [], f => by unfold ptA; simp
  | v :: lot, f => by
    unfold ptA
    rw [ptA_len lot, List.length_flatMap]
    simp only [List.length_cons, List.length_nil]
    rw [List.map_const', List.sum_replicate_nat, Nat.pow_succ, Nat.mul_assoc, Nat.mul_comm 2]
theorem ptA_ok {n : Nat} {lot : List Nat} {f : List (List Int)} (hn : lot.Nodup) (hl : ∀ v ∈ lot, v < n) (hf : ∀ o ∈ f, StOk n o) : ∀ t ∈ ptA lot f, StOk n t := fun t ht => by
  obtain ⟨o, ho, hp⟩ := (mem_ptA hn hl hf).mp ht
  exact hp.st
local macro_rules | `(tactic| decreasing_trivial_pre_omega) => `(tactic| first
  | with_reducible assumption)
theorem set_facts {n : Nat} {o : List Int} (ho : StOk n o) (hn : n ≤ 1000) {v : Nat} (hv : v < n) (m : Int) : dCut (stD o) none (some (v : Int)) = some (stD (o.take v)) ∧ dCut (stD o) (some ((v + 1 : Nat) : Int)) none = some (stD (o.drop (v + 1))) ∧ dAdd (stD (o.take v)) (.tuple [.int m]) = some (stD (o.take v ++ [m])) ∧ dAdd (stD (o.take v ++ [m])) (stD (o.drop (v + 1))) = some (stD (o.set v m)) := by
  have hl : v < o.length := by rw [ho.len]; exact hv
  refine ⟨cut_lo (by omega), ?_, add_one (n := 0) (by rw [List.length_take]; omega) m, ?_⟩
  · rw [show ((v + 1 : Nat) : Int) = (v : Int) + 1 by omega]
    exact cut_hi hl
  · rw [← set_cat hl]
    exact cat_st (by simp; have := ho.len; omega)

set_option autoImplicit false
theorem ptA_app : ∀ (a b : List Nat) (f : List (List Int)), ptA (a ++ b) f = ptA b (ptA a f)
  | [], _, _ => rfl
  | v :: a, b, f => by
    show ptA (a ++ b) _ = ptA b (ptA a _)
    rw [ptA_app a b]
theorem ptB_app {s : List Int} : ∀ (a b : List Nat) (f : List (List Int)), ptB s (a ++ b) f = ptB s b (ptB s a f)
  | [], _, _ => rfl
  | v :: a, b, f => by
    show ptB s (a ++ b) _ = ptB s b (ptB s a _)
    rw [ptB_app a b]
theorem take_on {α : Type} {l : List α} {i : Nat} {a : α} (h : l[i]? = some a) : l.take (i + 1) = l.take i ++ [a] := by rw [List.take_add_one, h]; rfl
theorem mod3 (i : Int) : dMod (.int i) (.int 3) = some (.int (i % 3)) := rfl
theorem cat_sts (a b : List (List Int)) (h : a.length + b.length ≤ 1000000) : dCat (.list (a.map stD)) (.list (b.map stD)) = some (.list ((a ++ b).map stD)) := by
  rw [List.map_append]
  exact if_pos (by rw [List.length_map, List.length_map]; unfold sizeLine; omega)
theorem nodup_of_lt {l : List Nat} (h : l.Pairwise (· < ·)) : l.Nodup := h.imp fun {a b} h => by omega
theorem take_nd {l : List Nat} (h : l.Nodup) (i : Nat) : (l.take i).Nodup := h.sublist (List.take_sublist i l)
theorem pow_small {k : Nat} (h : k ≤ 10) : 2 ^ k ≤ 1024 := Nat.pow_le_pow_right (by omega) h (n := 2)
local macro_rules | `(tactic| decreasing_trivial_pre_omega) => `(tactic| first
  | with_reducible assumption)
theorem painted_eq {n : Nat} (hn : n ≤ 10) {s : List Int} (hs : StOk n s) {lot : List Nat} (hl : lot.Nodup) (hv : ∀ v ∈ lot, v < n) : f_painted [.fz (stD s), .fz (tupN lot)] = .ok (.list ((ptA lot [s]).map stD)) [] := by
  have hk : lot.length ≤ 10 := Nat.le_trans (nodup_le n lot hl hv) hn
  refine W.fn0 rfl ?_; unfold m_painted; simp only [Nat.reduceSub, List.replicate_succ, List.replicate_zero, List.cons_append, List.nil_append]
  refine .seq (.set' (d := .list [stD s]) (ρ' := [.fz (stD s), .fz (tupN lot), .no, .no, .no, .no, .no]) (by array_get_dec) ?_)
  simp only [List.set_cons_zero, List.set_cons_succ]
  refine .seq (.forA (f := natD) (l := lot) (ρ0 := [.fz (stD s), .fz (tupN lot), .fz (.list [stD s]), .no, .no, .no, .no]) (fun i ρ => ∃ x3 x4 x5, ρ = [.fz (stD s), .fz (tupN lot), .fz (.list ((ptA (lot.take i) [s]).map stD)), x3, x4, x5, .no]) (iSeq_T (by unfold tupN; array_get_dec)) ⟨.no, .no, .no, rfl⟩ ?_ ?_)
  · rintro i v _ hi ⟨x3, x4, x5, rfl⟩
    simp only [List.set_cons_zero, List.set_cons_succ]
    have hvn := hv v (List.mem_of_getElem? hi)
    have hfo : ∀ o ∈ ptA (lot.take i) [s], StOk n o := ptA_ok (take_nd hl i) (fun u hu => hv u (List.mem_of_mem_take hu)) (by simpa using hs)
    have hfl : (ptA (lot.take i) [s]).length ≤ 1024 := by
      rw [ptA_len]
      have h1 : (lot.take i).length ≤ 10 := by rw [List.length_take]; omega
      have := pow_small h1
      simp only [List.length_cons, List.length_nil]
      omega
    generalize hF : ptA (lot.take i) [s] = F at hfo hfl
    refine .seq (.own (d := .list []) (ρ' := [.fz (stD s), .fz (tupN lot), .fz (.list (F.map stD)), .fz (natD v), x4, x5, .no]) rfl ?_)
    simp only [List.set_cons_zero, List.set_cons_succ]
    refine .seq (.forA (f := stD) (l := F) (ρ0 := [.fz (stD s), .fz (tupN lot), .fz (.list (F.map stD)), .fz (natD v), .own (.list []), x5, .no]) (fun j ρ => ∃ x5, ρ = [.fz (stD s), .fz (tupN lot), .fz (.list (F.map stD)), .fz (natD v), .own (.list (((F.take j).flatMap (fun o : List Int => [o.set v ((mood o v + 1) % 3), o.set v ((mood o v + 2) % 3)])).map stD)), x5, .no]) (iSeq_L (by array_get_dec)) ⟨x5, rfl⟩ ?_ ?_)
    · rintro j o _ hj ⟨x5, rfl⟩
      simp only [List.set_cons_zero, List.set_cons_succ]
      have ho := hfo o (List.mem_of_getElem? hj)
      have a1 := st_at' ho hvn
      have hcomp : mComp (iRng fR2 [.ex (mLit (.int 1)), .ex (mLit (.int 3))]) (tmName 6) (bYes) (mOp2 dAdd (.ex (mOp2 dAdd (.ex (mCut (.sl 5) (none) (some (mVar 3)))) (.ex (mTup [mOp2 dMod (.ex (mOp2 dAdd (.ex (mOp2 dAt (.sl 5) (.sl 3))) (.sl 6))) (.ex (mLit (.int 3)))])))) (.ex (mCut (.sl 5) (some (mOp2 dAdd (.sl 3) (.ex (mLit (.int 1))))) (none)))) [6] [.fz (stD s), .fz (tupN lot), .fz (.list (F.map stD)), .fz (natD v), .own (.list (((F.take j).flatMap (fun o : List Int => [o.set v ((mood o v + 1) % 3), o.set v ((mood o v + 2) % 3)])).map stD)), .fz (stD o), .no] = .ok (.list ((List.range' 1 2).map fun k : Nat => stD (o.set v ((mood o v + (k : Int)) % 3)))) [.fz (stD s), .fz (tupN lot), .fz (.list (F.map stD)), .fz (natD v), .own (.list (((F.take j).flatMap (fun o : List Int => [o.set v ((mood o v + 1) % 3), o.set v ((mood o v + 2) % 3)])).map stD)), .fz (stD o), .no] := by
        refine comp_all (f := natD) (fun k : Nat => stD (o.set v ((mood o v + (k : Int)) % 3))) (ds := List.range' 1 2) (ρ1 := [.fz (stD s), .fz (tupN lot), .fz (.list (F.map stD)), .fz (natD v), .own (.list (((F.take j).flatMap (fun o : List Int => [o.set v ((mood o v + 1) % 3), o.set v ((mood o v + 2) % 3)])).map stD)), .fz (stD o), .no]) (rng2_up (a := 1) (b := 3) (xs := [some (natD 1), some (natD 3)]) rfl rfl (by omega) (by omega)) (.no rfl) (fun k _ => ?_) (by simp)
        simp only [List.set_cons_zero, List.set_cons_succ]
        have e1 : dAdd (.int (mood o v)) (natD k) = some (.int (mood o v + (k : Int))) := rfl
        have e2 := mod3 (mood o v + (k : Int))
        obtain ⟨f1, f2, f3, f4⟩ := set_facts ho (by omega) hvn ((mood o v + (k : Int)) % 3)
        array_get_dec
      have hap : F.take (j + 1) = F.take j ++ [o] := take_on hj
      refine W.ext (ds := ((F.take j).flatMap (fun o : List Int => [o.set v ((mood o v + 1) % 3), o.set v ((mood o v + 2) % 3)])).map stD) (es := (List.range' 1 2).map fun k : Nat => stD (o.set v ((mood o v + (k : Int)) % 3))) rfl hcomp rfl rfl ?_ ⟨.fz (stD o), ?_⟩
      · rw [List.length_map, List.length_map, List.length_flatMap]
        simp only [List.length_cons, List.length_nil]
        rw [List.map_const', List.sum_replicate_nat, List.length_take, List.length_range']
        omega
      · simp only [List.set_cons_zero, List.set_cons_succ]
        rw [hap, List.flatMap_append, List.map_append]
        rfl
    rintro _ ⟨x5, rfl⟩
    rw [List.take_length]
    refine .set' (mVar_own rfl) ⟨.fz (natD v), .fz (.list ((F.flatMap (fun o : List Int => [o.set v ((mood o v + 1) % 3), o.set v ((mood o v + 2) % 3)])).map stD)), x5, ?_⟩
    simp only [List.set_cons_zero, List.set_cons_succ]
    rw [take_on hi, ptA_app, hF]
    rfl
  · rintro _ ⟨x3, x4, x5, rfl⟩
    rw [List.take_length]
    exact .ret (by array_get_dec) rfl
theorem ptB_small {n : Nat} {s : List Int} : ∀ (lot : List Nat) (f : List (List Int)), (ptB s lot f).length ≤ f.length * 3 ^ lot.length
  | [], f => by unfold ptB; simp
  | v :: lot, f => by
    unfold ptB
    refine Nat.le_trans (ptB_small (n := n) lot _) ?_
    rw [List.length_cons, Nat.pow_succ, Nat.mul_comm (3 ^ lot.length), ← Nat.mul_assoc]
    refine Nat.mul_le_mul_right _ ?_
    rw [List.length_flatMap]
    have : ∀ l : List (List Int), (l.map fun o => ((([0, 1, 2] : List Int).filter fun m => !decide (m = mood s v)).map fun m => o.set v m).length).sum ≤ l.length * 3 := by
      intro l
      induction l with
      | nil => simp
      | cons a l ih =>
        rw [List.map_cons, List.sum_cons, List.length_cons, List.length_map]
        have := List.length_filter_le (fun m => !decide (m = mood s v)) ([0, 1, 2] : List Int)
        simp only [List.length_cons, List.length_nil] at this
        omega
    exact this f
theorem law_painted_eq {n : Nat} (hn : n ≤ 10) {s : List Int} (hs : StOk n s) {lot : List Nat} (hl : lot.Nodup) (hv : ∀ v ∈ lot, v < n) : f__law_painted [.fz (stD s), .fz (tupN lot)] = .ok (.list ((ptB s lot [s]).map stD)) [] := by
  have hk : lot.length ≤ 10 := Nat.le_trans (nodup_le n lot hl hv) hn
  refine W.fn0 rfl ?_; unfold m__law_painted; simp only [Nat.reduceSub, List.replicate_succ, List.replicate_zero, List.cons_append, List.nil_append]
  refine .seq (.set' (d := .list [stD s]) (ρ' := [.fz (stD s), .fz (tupN lot), .no, .no, .no, .no, .no]) (by array_get_dec) ?_)
  simp only [List.set_cons_zero, List.set_cons_succ]
  refine .seq (.forA (f := natD) (l := lot) (ρ0 := [.fz (stD s), .fz (tupN lot), .fz (.list [stD s]), .no, .no, .no, .no]) (fun i ρ => ∃ x3 x4 x5, ρ = [.fz (stD s), .fz (tupN lot), .fz (.list ((ptB s (lot.take i) [s]).map stD)), x3, x4, x5, .no]) (iSeq_T (by unfold tupN; array_get_dec)) ⟨.no, .no, .no, rfl⟩ ?_ ?_)
  · rintro i v _ hi ⟨x3, x4, x5, rfl⟩
    simp only [List.set_cons_zero, List.set_cons_succ]
    have hvn := hv v (List.mem_of_getElem? hi)
    have hfo : ∀ o ∈ ptB s (lot.take i) [s], StOk n o := fun o ho => by
      obtain ⟨p, _, hp⟩ := (mem_ptB (take_nd hl i) (fun u hu => hv u (List.mem_of_mem_take hu)) (fun o ho => by rw [List.mem_singleton.mp ho]; exact ⟨hs, fun _ _ => rfl⟩)).mp ho
      exact hp.st
    have hfl : (ptB s (lot.take i) [s]).length ≤ 59049 := by
      refine Nat.le_trans (ptB_small (n := n) _ _) ?_
      have h1 : (lot.take i).length ≤ 10 := by rw [List.length_take]; omega
      have : 3 ^ (lot.take i).length ≤ 3 ^ 10 := Nat.pow_le_pow_right (by omega) h1
      simp only [List.length_cons, List.length_nil]
      omega
    generalize hF : ptB s (lot.take i) [s] = F at hfo hfl
    refine .seq (.set' (d := .list []) (ρ' := [.fz (stD s), .fz (tupN lot), .fz (.list (F.map stD)), .fz (natD v), x4, x5, .no]) rfl ?_)
    simp only [List.set_cons_zero, List.set_cons_succ]
    refine .seq (.forA (f := stD) (l := F) (ρ0 := [.fz (stD s), .fz (tupN lot), .fz (.list (F.map stD)), .fz (natD v), .fz (.list []), x5, .no]) (fun j ρ => ∃ x5, ρ = [.fz (stD s), .fz (tupN lot), .fz (.list (F.map stD)), .fz (natD v), .fz (.list (((F.take j).flatMap (fun o : List Int => (([0, 1, 2] : List Int).filter fun m => !decide (m = mood s v)).map fun m => o.set v m)).map stD)), x5, .no]) (iSeq_L (by array_get_dec)) ⟨x5, rfl⟩ ?_ ?_)
    · rintro j o _ hj ⟨x5, rfl⟩
      simp only [List.set_cons_zero, List.set_cons_succ]
      have ho := hfo o (List.mem_of_getElem? hj)
      have a1 := st_at' hs hvn
      have hcomp : mComp (iSeq (mTup [mLit (.int 0), mLit (.int 1), mLit (.int 2)])) (tmName 6) (mB (mOp2 dNe (.sl 6) (.ex (mOp2 dAt (.sl 0) (.sl 3))))) (mOp2 dAdd (.ex (mOp2 dAdd (.ex (mCut (.sl 5) (none) (some (mVar 3)))) (.ex (mTup [mVar 6])))) (.ex (mCut (.sl 5) (some (mOp2 dAdd (.sl 3) (.ex (mLit (.int 1))))) (none)))) [6] [.fz (stD s), .fz (tupN lot), .fz (.list (F.map stD)), .fz (natD v), .fz (.list (((F.take j).flatMap (fun o : List Int => (([0, 1, 2] : List Int).filter fun m => !decide (m = mood s v)).map fun m => o.set v m)).map stD)), .fz (stD o), .no] = .ok (.list (((fun o : List Int => (([0, 1, 2] : List Int).filter fun m => !decide (m = mood s v)).map fun m => o.set v m) o).map stD)) [.fz (stD s), .fz (tupN lot), .fz (.list (F.map stD)), .fz (natD v), .fz (.list (((F.take j).flatMap (fun o : List Int => (([0, 1, 2] : List Int).filter fun m => !decide (m = mood s v)).map fun m => o.set v m)).map stD)), .fz (stD o), .no] := by
        have := mComp_of (f := PyData.int) (i := 6) (it := iSeq (mTup [mLit (.int 0), mLit (.int 1), mLit (.int 2)])) (cd := mB (mOp2 dNe (.sl 6) (.ex (mOp2 dAt (.sl 0) (.sl 3))))) (elt := mOp2 dAdd (.ex (mOp2 dAdd (.ex (mCut (.sl 5) (none) (some (mVar 3)))) (.ex (mTup [mVar 6])))) (.ex (mCut (.sl 5) (some (mOp2 dAdd (.sl 3) (.ex (mLit (.int 1))))) (none)))) (fun m => !decide (m = mood s v)) (fun m => stD (o.set v m)) (ds := [0, 1, 2])
          (ρ := [.fz (stD s), .fz (tupN lot), .fz (.list (F.map stD)), .fz (natD v), .fz (.list (((F.take j).flatMap (fun o : List Int => (([0, 1, 2] : List Int).filter fun m => !decide (m = mood s v)).map fun m => o.set v m)).map stD)), .fz (stD o), .no]) (ρ1 := [.fz (stD s), .fz (tupN lot), .fz (.list (F.map stD)), .fz (natD v), .fz (.list (((F.take j).flatMap (fun o : List Int => (([0, 1, 2] : List Int).filter fun m => !decide (m = mood s v)).map fun m => o.set v m)).map stD)), .fz (stD o), .no]) rfl (.no rfl) (fun m _ => by
            simp only [List.set_cons_zero, List.set_cons_succ]
            have e1 := ne_int m (mood s v)
            array_get_dec) (fun m _ _ => by
            simp only [List.set_cons_zero, List.set_cons_succ]
            obtain ⟨f1, f2, f3, f4⟩ := set_facts ho (by omega) hvn m
            array_get_dec) (by simp)
        rw [this, List.map_map]
        rfl
      have hap : F.take (j + 1) = F.take j ++ [o] := take_on hj
      have hsz : ∀ l : List (List Int), (l.flatMap (fun o : List Int => (([0, 1, 2] : List Int).filter fun m => !decide (m = mood s v)).map fun m => o.set v m)).length ≤ l.length * 3 := by
        intro l
        induction l with
        | nil => simp
        | cons a l ih =>
          rw [List.flatMap_cons, List.length_append, List.length_cons, List.length_map]
          have := List.length_filter_le (fun m => !decide (m = mood s v)) ([0, 1, 2] : List Int)
          simp only [List.length_cons, List.length_nil] at this
          omega
      have h3 := hsz (F.take j)
      have h4 := hsz [o]
      rw [List.length_take] at h3
      have h5 : ((fun o : List Int => (([0, 1, 2] : List Int).filter fun m => !decide (m = mood s v)).map fun m => o.set v m) o).length ≤ 3 := by
        rw [List.length_map]
        exact List.length_filter_le _ _
      have hc := cat_sts ((F.take j).flatMap (fun o : List Int => (([0, 1, 2] : List Int).filter fun m => !decide (m = mood s v)).map fun m => o.set v m)) ((fun o : List Int => (([0, 1, 2] : List Int).filter fun m => !decide (m = mood s v)).map fun m => o.set v m) o) (by omega)
      refine .set' (d := .list (((F.take (j + 1)).flatMap (fun o : List Int => (([0, 1, 2] : List Int).filter fun m => !decide (m = mood s v)).map fun m => o.set v m)).map stD)) (ρ' := [.fz (stD s), .fz (tupN lot), .fz (.list (F.map stD)), .fz (natD v), .fz (.list (((F.take j).flatMap (fun o : List Int => (([0, 1, 2] : List Int).filter fun m => !decide (m = mood s v)).map fun m => o.set v m)).map stD)), .fz (stD o), .no]) ?_ ⟨.fz (stD o), by simp only [List.set_cons_zero, List.set_cons_succ]⟩
      rw [hap, List.flatMap_append]
      have e9 : [o].flatMap (fun o : List Int => (([0, 1, 2] : List Int).filter fun m => !decide (m = mood s v)).map fun m => o.set v m) = (fun o : List Int => (([0, 1, 2] : List Int).filter fun m => !decide (m = mood s v)).map fun m => o.set v m) o := by simp
      rw [e9]
      exact op2_ok (x1 := none) (x2 := some (.list (((fun o : List Int => (([0, 1, 2] : List Int).filter fun m => !decide (m = mood s v)).map fun m => o.set v m) o).map stD))) (ev_sl rfl) (ev_ex hcomp) rfl rfl hc
    rintro _ ⟨x5, rfl⟩
    rw [List.take_length]
    refine .set' (mVar_fz rfl) ⟨.fz (natD v), .fz (.list ((F.flatMap (fun o : List Int => (([0, 1, 2] : List Int).filter fun m => !decide (m = mood s v)).map fun m => o.set v m)).map stD)), x5, ?_⟩
    simp only [List.set_cons_zero, List.set_cons_succ]
    rw [take_on hi, ptB_app, hF]
    rfl
  · rintro _ ⟨x3, x4, x5, rfl⟩
    rw [List.take_length]
    exact .ret (by array_get_dec) rfl

set_option autoImplicit false
open Classical in
noncomputable def htsB (w : Web) (t : List Int) : Bool := decide (∃ g, Ht w t g)
noncomputable def tstB (w : Web) (s : List Int) (wish : Bool) (lot : List Nat) : Bool := (ptA lot [s]).any fun t => htsB w t == wish
noncomputable def goodL (w : Web) (s : List Int) (wish : Bool) (k : Nat) : List (List Nat) := (lotsZ w.n k).filter (tstB w s wish)
theorem htsB_iff {w : Web} {t : List Int} : htsB w t = true ↔ ∃ g, Ht w t g := by
  unfold htsB
  simp
theorem tst_iff {w : Web} {s : List Int} (hs : StOk w.n s) {wish : Bool} {k : Nat} {lot : List Nat} (h : lot ∈ lotsZ w.n k) : tstB w s wish lot = true ↔ ∃ t, PtO w.n s lot t ∧ htsB w t = wish := by
  obtain ⟨_, h2, h3⟩ := mem_lotsZ.mp h
  unfold tstB
  rw [List.any_eq_true]
  constructor
  · rintro ⟨t, ht, he⟩
    obtain ⟨o, ho, hp⟩ := (mem_ptA (nodup_of_lt h2) h3 (by simpa using hs)).mp ht
    rw [List.mem_singleton.mp ho] at hp
    exact ⟨t, hp, eq_of_beq he⟩
  · rintro ⟨t, hp, he⟩
    exact ⟨t, (mem_ptA (nodup_of_lt h2) h3 (by simpa using hs)).mpr ⟨s, by simp, hp⟩, by rw [he]; exact beq_self_eq_true _⟩
theorem tst_B {w : Web} {s : List Int} (hs : StOk w.n s) {wish : Bool} {k : Nat} {lot : List Nat} (h : lot ∈ lotsZ w.n k) : ((ptB s lot [s]).filter fun t => !decide ((!htsB w t) = wish)).isEmpty = !tstB w s wish lot := by
  obtain ⟨_, h2, h3⟩ := mem_lotsZ.mp h
  have hm : ∀ t, t ∈ ptB s lot [s] ↔ PtO w.n s lot t := fun t => by
    rw [mem_ptB (nodup_of_lt h2) h3 (fun o ho => by rw [List.mem_singleton.mp ho]; exact ⟨hs, fun _ _ => rfl⟩)]
    simp
  have hb : ∀ a : Bool, (!decide ((!a) = wish)) = true ↔ a = wish := fun a => by cases a <;> cases wish <;> decide
  rw [Bool.eq_iff_iff, List.isEmpty_iff, Bool.not_eq_true', ← Bool.not_eq_true, tst_iff hs h]
  constructor
  · rintro he ⟨t, hp, ht⟩
    have : t ∈ (ptB s lot [s]).filter fun t => !decide ((!htsB w t) = wish) := List.mem_filter.mpr ⟨(hm t).mpr hp, (hb _).mpr ht⟩
    rw [he] at this
    cases this
  · intro hno
    refine List.filter_eq_nil_iff.mpr fun t ht hz => hno ⟨t, (hm t).mp ht, (hb _).mp hz⟩
theorem any_map {α : Type} (q : α → Bool) (l : List α) : dAny [.list (l.map fun d => .bool (q d))] = some (.bool (l.any q)) := by
  have e : (l.map fun d => PyData.bool (q d)) = (l.map q).map PyData.bool := by rw [List.map_map]; rfl
  show (dBls (l.map fun d => PyData.bool (q d))).map _ = _
  rw [e, dBls_of]
  show some (PyData.bool ((l.map q).any id)) = _
  rw [List.any_map]
  rfl
theorem eq_boolB (a b : Bool) : dEq (.bool a) (.bool b) = some (.bool (a == b)) := by cases a <;> cases b <;> rfl
def LotsOk (n k : Nat) : Prop := f_lots_of_size [.fz (natD n), .fz (natD k)] = .ok (.list ((lotsZ n k).map tupN)) []
local macro_rules | `(tactic| decreasing_trivial_pre_omega) => `(tactic| first
  | with_reducible assumption)
theorem heights_B {w : Web} (hw : w.Ok) {t : List Int} (ht : StOk w.n t) : ∃ d, f_heights_in [.fz (webD w), .fz (stD t)] = .ok d [] ∧ dNotN d .none = some (.bool (htsB w t)) := by
  obtain ⟨d, e, h⟩ := heights_in_eq hw ht
  refine ⟨d, e, ?_⟩
  rcases h with ⟨rfl, hno⟩ | ⟨f, rfl, _, _, h4⟩
  · have : htsB w t = false := by
      cases hb : htsB w t with
      | false => rfl
      | true => obtain ⟨g, hg⟩ := htsB_iff.mp hb; exact absurd hg (hno g)
    rw [this]
    rfl
  · have : htsB w t = true := htsB_iff.mpr ⟨_, h4.ht⟩
    rw [this]
    rfl
theorem lots_that_eq {w : Web} (hw : w.Ok) {s : List Int} (hs : StOk w.n s) {k : Nat} (hk : k ≤ w.n) (hlo : LotsOk w.n k) (hfew : (lotsZ w.n k).length ≤ 100000) (wish : Bool) : f_lots_that [.fz (webD w), .fz (stD s), .fz (natD k), .fz (.bool wish)] = .ok (.list ((goodL w s wish k).map tupN)) [] := by
  have hm := hw.most
  have w0 := web_0 w
  unfold LotsOk at hlo
  refine W.fn0 rfl ?_; unfold m_lots_that; simp only [Nat.reduceSub, List.replicate_succ, List.replicate_zero, List.cons_append, List.nil_append]
  refine .seq (.own (d := .list []) (ρ' := [.fz (webD w), .fz (stD s), .fz (natD k), .fz (.bool wish), .no, .no, .no]) rfl ?_)
  simp only [List.set_cons_zero, List.set_cons_succ]
  refine .seq (.forA (f := tupN) (l := lotsZ w.n k) (ρ0 := [.fz (webD w), .fz (stD s), .fz (natD k), .fz (.bool wish), .own (.list []), .no, .no]) (fun i ρ => ∃ x5, ρ = [.fz (webD w), .fz (stD s), .fz (natD k), .fz (.bool wish), .own (.list ((((lotsZ w.n k).take i).filter (tstB w s wish)).map tupN)), x5, .no]) (iSeq_L (by array_get_dec)) ⟨.no, rfl⟩ ?_ ?_)
  · rintro i lot _ hi ⟨x5, rfl⟩
    simp only [List.set_cons_zero, List.set_cons_succ]
    have hmem := List.mem_of_getElem? hi
    obtain ⟨l1, l2, l3⟩ := mem_lotsZ.mp hmem
    have hpe := painted_eq (by omega) hs (nodup_of_lt l2) l3
    have hlen : (ptA lot [s]).length ≤ 1024 := by
      rw [ptA_len, l1]
      have := pow_small (k := k) (by omega)
      simp only [List.length_cons, List.length_nil]
      omega
    have hc : mComp (iSeq (mCall f_painted [.v (mVar 1), .v (mVar 5)])) (tmName 6) (bYes) (mOp2 dEq (.ex (mOp2 dNotN (.ex (mCall f_heights_in [.v (mVar 0), .v (mVar 6)])) (.ex (mLit .none)))) (.sl 3)) [6] [.fz (webD w), .fz (stD s), .fz (natD k), .fz (.bool wish), .own (.list ((((lotsZ w.n k).take i).filter (tstB w s wish)).map tupN)), .fz (tupN lot), .no] = .ok (.list ((ptA lot [s]).map fun t => .bool (htsB w t == wish))) [.fz (webD w), .fz (stD s), .fz (natD k), .fz (.bool wish), .own (.list ((((lotsZ w.n k).take i).filter (tstB w s wish)).map tupN)), .fz (tupN lot), .no] := by
      refine comp_all (f := stD) (fun t => .bool (htsB w t == wish)) (ρ1 := [.fz (webD w), .fz (stD s), .fz (natD k), .fz (.bool wish), .own (.list ((((lotsZ w.n k).take i).filter (tstB w s wish)).map tupN)), .fz (tupN lot), .no]) (iSeq_L (by array_get_dec)) (.no rfl) (fun t ht => ?_) (by omega)
      simp only [List.set_cons_zero, List.set_cons_succ]
      have hst := ptA_ok (n := w.n) (nodup_of_lt l2) l3 (by simpa using hs) t ht
      obtain ⟨d, e1, e2⟩ := heights_B hw hst
      have e3 := eq_boolB (htsB w t) wish
      array_get_dec
    have ha := any_map (fun t => htsB w t == wish) (ptA lot [s])
    have hle : (((lotsZ w.n k).take i).filter (tstB w s wish)).length ≤ 100000 := by
      have := List.length_filter_le (tstB w s wish) ((lotsZ w.n k).take i)
      rw [List.length_take] at this
      omega
    have hon : (((lotsZ w.n k).take (i + 1)).filter (tstB w s wish)) = ((lotsZ w.n k).take i).filter (tstB w s wish) ++ if tstB w s wish lot = true then [lot] else [] := by
      rw [take_on hi, List.filter_append, List.filter_cons, List.filter_nil]
    have hT : mFn dAny [.ex (mComp (iSeq (mCall f_painted [.v (mVar 1), .v (mVar 5)])) (tmName 6) (bYes) (mOp2 dEq (.ex (mOp2 dNotN (.ex (mCall f_heights_in [.v (mVar 0), .v (mVar 6)])) (.ex (mLit .none)))) (.sl 3)) [6])] [.fz (webD w), .fz (stD s), .fz (natD k), .fz (.bool wish), .own (.list ((((lotsZ w.n k).take i).filter (tstB w s wish)).map tupN)), .fz (tupN lot), .no] = .ok (.bool (tstB w s wish lot)) [.fz (webD w), .fz (stD s), .fz (natD k), .fz (.bool wish), .own (.list ((((lotsZ w.n k).take i).filter (tstB w s wish)).map tupN)), .fz (tupN lot), .no] := mFn_ok (evo_cons (ev_ex hc) evo_nil) rfl ha
    cases hb : tstB w s wish lot with
    | true =>
      rw [hb] at hT hon
      refine .ifT (mB_ok hT) ?_
      refine W.app rfl (mVar_fz rfl) rfl (by rw [List.length_map]; omega) ⟨.fz (tupN lot), ?_⟩
      simp only [List.set_cons_zero, List.set_cons_succ]
      rw [hon, List.map_append]
      rfl
    | false =>
      rw [hb] at hT hon
      refine .ifF (mB_ok hT) (.nil ⟨.fz (tupN lot), ?_⟩)
      rw [hon]
      simp
  · rintro _ ⟨x5, rfl⟩
    rw [List.take_length]
    exact .ret (mVar_own rfl) rfl
theorem fewest_some {w : Web} (hw : w.Ok) {s : List Int} (hs : StOk w.n s) {wish : Bool} {k : Nat} (hk : k ≤ w.n) (hlo : ∀ j ≤ k, LotsOk w.n j ∧ (lotsZ w.n j).length ≤ 100000) (hno : ∀ j < k, goodL w s wish j = []) (hyes : goodL w s wish k ≠ []) :
    f_fewest [.fz (webD w), .fz (stD s), .fz (.bool wish)] = .ok (.tuple ((goodL w s wish k).map tupN)) [] := by
  have hm := hw.most
  have w0 := web_0 w
  refine W.fn0 rfl ?_; unfold m_fewest; simp only [Nat.reduceSub, List.replicate_succ, List.replicate_zero, List.cons_append, List.nil_append]
  have ha : dAdd (natD w.n) (.int 1) = some (natD (w.n + 1)) := add_nat1 w.n
  have stp : ∀ (j : Nat) (x4 : Sl), j ≤ k → mCall f_lots_that [.v (mVar 0), .v (mVar 1), .v (mVar 3), .v (mVar 2)] [.fz (webD w), .fz (stD s), .fz (.bool wish), .fz (natD j), x4] = .ok (.list ((goodL w s wish j).map tupN)) [.fz (webD w), .fz (stD s), .fz (.bool wish), .fz (natD j), x4] := fun j x4 hj => by
    have h1 := lots_that_eq hw hs (k := j) (by omega) (hlo j hj).1 (hlo j hj).2 wish
    array_get_dec
  have hne : ∀ l : List (List Nat), dNe (.list (l.map tupN)) (.list []) = some (.bool (!l.isEmpty)) := fun l => by
    rw [ne_nilG (okTups l)]
    cases l <;> rfl
  -- up to k nothing, then the answer
  refine .seq (W.imp (N := fun _ => False) (R := fun d _ => d = .tuple ((goodL w s wish k).map tupN)) ?_ (fun _ h => h.elim) (fun _ _ h => h))
  have hit : iRng fR1 [.ex (mOp2 dAdd (.ex (mOp2 dAt (.sl 0) (.ex (mLit (.int 0))))) (.ex (mLit (.int 1))))] [.fz (webD w), .fz (stD s), .fz (.bool wish), .no, .no] = .ok ((List.range (w.n + 1)).map natD) [.fz (webD w), .fz (stD s), .fz (.bool wish), .no, .no] := rng_nat (xs := [some (natD (w.n + 1))]) (evo_cons (ev_ex (by array_get_dec)) evo_nil) rfl (by omega)
  refine .forA (f := natD) (l := List.range (w.n + 1)) (ρ0 := [.fz (webD w), .fz (stD s), .fz (.bool wish), .no, .no]) (fun i ρ => i ≤ k ∧ ∃ x3 x4, ρ = [.fz (webD w), .fz (stD s), .fz (.bool wish), x3, x4]) hit ⟨Nat.zero_le _, .no, .no, rfl⟩ ?_ ?_
  · rintro i a _ hi ⟨hik, x3, x4, rfl⟩
    obtain ⟨hi1, hi2⟩ := List.getElem?_eq_some_iff.mp hi
    rw [List.getElem_range] at hi2
    subst hi2
    simp only [List.set_cons_zero, List.set_cons_succ]
    refine .seq (.set' (stp i x4 hik) ?_)
    simp only [List.set_cons_zero, List.set_cons_succ]
    have h2 := hne (goodL w s wish i)
    by_cases hi3 : i < k
    · rw [hno i hi3] at h2 ⊢
      refine .ifF (mB_ok (op2_ok (x1 := none) (x2 := some (.list [])) (ev_sl rfl) (ev_ex rfl) rfl rfl h2)) (.nil ⟨hi3, _, _, rfl⟩)
    · have hi4 : i = k := by omega
      subst hi4
      have h3 : (goodL w s wish i).isEmpty = false := by
        cases hg : goodL w s wish i with
        | nil => exact absurd hg hyes
        | cons _ _ => rfl
      rw [h3] at h2
      refine .ifT (mB_ok (op2_ok (x1 := none) (x2 := some (.list [])) (ev_sl rfl) (ev_ex rfl) rfl rfl h2)) ?_
      exact .ret (mFn_ok (ds := [.list ((goodL w s wish i).map tupN)]) (evo_cons (ev_sl rfl) evo_nil) rfl rfl) rfl
  · rintro _ ⟨hik, _⟩
    rw [List.length_range] at hik
    omega
theorem law_winds_eq {w : Web} (hw : w.Ok) (h7 : w.n ≤ 7) {t : List Int} (ht : StOk w.n t) : f__law_winds [.fz (webD w), .fz (stD t)] = .ok (.bool (!htsB w t)) [] := by
  obtain ⟨rs, e, hr⟩ := law_rings_eq hw h7
  have hvp : ∀ r ∈ rs, ∃ a X, r = a :: X ∧ RingL w a X := hr.all
  refine W.fn0 rfl ?_; unfold m__law_winds; simp only [Nat.reduceSub, List.replicate_succ, List.replicate_zero, List.cons_append, List.nil_append]
  have hpos : ∀ r : List Nat, Bool := fun r => match r with
    | [] => false
    | a :: X => decide (0 < rsumF t a X)
  obtain ⟨q, hq⟩ : ∃ q : List Nat → Bool, q = fun r => match r with
    | [] => false
    | a :: X => decide (0 < rsumF t a X) := ⟨_, rfl⟩
  have hc := mComp_of (f := tupN) (i := 2) (it := iSeq (mCall f__law_rings [.v (mVar 0)])) (cd := mB (mOp2 dGt (.ex (mCall f__law_round [.v (mVar 1), .v (mVar 2)])) (.ex (mLit (.int 0))))) (elt := mVar 2) q tupN (ds := rs)
    (ρ := [.fz (webD w), .fz (stD t), .no]) (ρ1 := [.fz (webD w), .fz (stD t), .no]) (iSeq_L (by array_get_dec)) (.no rfl) (fun r hrm => by
      obtain ⟨a, X, rfl, hL⟩ := hvp r hrm
      simp only [List.set_cons_zero, List.set_cons_succ]
      have hlt : ∀ x ∈ a :: X, x < w.n := fun x hx => by
        rcases List.mem_cons.mp hx with rfl | hx
        · exact (Web.adj_lt hw hL.ring.back).2.1
        · exact hL.ring.path.lt hw hx
      have h1 := law_round_eq ht (a := a) (X := X) (by have := nodup_le w.n _ hL.ring.nd hlt; omega) hlt
      have h2 : dGt (.int (rsumF t a X)) (.int 0) = some (.bool (q (a :: X))) := by rw [hq]; exact gt_int _ _
      array_get_dec) (fun r _ _ => by simp only [List.set_cons_zero, List.set_cons_succ]; array_get_dec) (by have := hr.few; omega)
  have hne : dNe (.list ((rs.filter q).map tupN)) (.list []) = some (.bool (!htsB w t)) := by
    rw [ne_nilG (okTups _)]
    have : ((rs.filter q).map tupN).isEmpty = htsB w t := by
      rw [Bool.eq_iff_iff, List.isEmpty_iff, List.map_eq_nil_iff, htsB_iff]
      constructor
      · intro hem
        refine ht_of_rings hw fun a X hR => ?_
        obtain ⟨b, Y, hL, _, hsum, _⟩ := hR.lead (s := t)
        have hno := List.filter_eq_nil_iff.mp hem (b :: Y) (hr.mem b Y hL)
        rw [hq] at hno
        have hno' : ¬ 0 < rsumF t b Y := fun z => hno (decide_eq_true z)
        omega
      · rintro ⟨g, hg⟩
        refine List.filter_eq_nil_iff.mpr fun r hrm hz => ?_
        obtain ⟨a, X, rfl, hL⟩ := hvp r hrm
        rw [hq] at hz
        have hz' : 0 < rsumF t a X := of_decide_eq_true hz
        rw [hg.ring hL.ring] at hz'
        omega
    rw [this]
  exact .ret (op2_ok (x1 := some (.list ((rs.filter q).map tupN))) (x2 := some (.list [])) (ev_ex hc) (ev_ex rfl) rfl rfl hne) rfl

set_option autoImplicit false
def clsL (n : Nat) (s : List Int) (m : Int) : List Nat := (List.range n).filter fun v => decide (mood s v = m)
theorem cls_sum {n : Nat} {s : List Int} (hs : StOk n s) : (clsL n s 0).length + (clsL n s 1).length + (clsL n s 2).length = n := by
  have : ∀ l : List Nat, ((l.filter fun v => decide (mood s v = 0)).length + (l.filter fun v => decide (mood s v = 1)).length + (l.filter fun v => decide (mood s v = 2)).length) = l.length := by
    intro l
    induction l with
    | nil => rfl
    | cons a l ih =>
      have hm := mood_three hs a
      rw [List.filter_cons, List.filter_cons, List.filter_cons]
      obtain h | h | h : mood s a = 0 ∨ mood s a = 1 ∨ mood s a = 2 := by omega
      · simp [h]; omega
      · simp [h]; omega
      · simp [h]; omega
  have := this (List.range n)
  rw [List.length_range] at this
  exact this
theorem cls_lot {n : Nat} {s : List Int} {m : Int} : clsL n s m ∈ lotsZ n (clsL n s m).length := mem_lotsZ.mpr ⟨rfl, by unfold clsL; exact List.pairwise_lt_range.filter _, fun v hv => List.mem_range.mp (List.mem_filter.mp hv).1⟩
theorem mem_cls {n : Nat} {s : List Int} {m : Int} {v : Nat} : v ∈ clsL n s m ↔ v < n ∧ mood s v = m := by
  unfold clsL
  simp
def turnL (n : Nat) (f : Nat → Int) : List Int := (List.range n).map f
theorem mood_turn {n : Nat} {f : Nat → Int} {v : Nat} (h : v < n) : mood (turnL n f) v = f v := by
  unfold mood turnL
  rw [List.getD_eq_getElem?_getD, List.getElem?_map, List.getElem?_range h]
  rfl
theorem turn_ok {n : Nat} {f : Nat → Int} (h : ∀ v, v < n → 0 ≤ f v ∧ f v < 3) : StOk n (turnL n f) := ⟨by unfold turnL; simp, fun x hx => by
  obtain ⟨v, hv, rfl⟩ := List.mem_map.mp hx
  exact h v (List.mem_range.mp hv)⟩
/-- two moods alone rest -/
theorem two_rest {w : Web} (hw : w.Ok) {t : List Int} (ht : StOk w.n t) {m : Int} (h0 : 0 ≤ m) (h3 : m < 3) (h : ∀ v, v < w.n → mood t v ≠ m) : htsB w t = true := by
  refine htsB_iff.mpr ⟨fun v => if mood t v = (m + 1) % 3 then 0 else 1, fun a b e => ?_⟩
  obtain ⟨ha, hb, _⟩ := Web.adj_lt hw e
  have h1 := mood_three ht a
  have h2 := mood_three ht b
  have h4 := h a ha
  have h5 := h b hb
  unfold stp
  obtain rfl | rfl | rfl : m = 0 ∨ m = 1 ∨ m = 2 := by omega
  · obtain ha1 | ha1 : mood t a = 1 ∨ mood t a = 2 := by omega
    · obtain hb1 | hb1 : mood t b = 1 ∨ mood t b = 2 := by omega
      · simp [ha1, hb1]
      · simp [ha1, hb1]
    · obtain hb1 | hb1 : mood t b = 1 ∨ mood t b = 2 := by omega
      · simp [ha1, hb1]
      · simp [ha1, hb1]
  · obtain ha1 | ha1 : mood t a = 0 ∨ mood t a = 2 := by omega
    · obtain hb1 | hb1 : mood t b = 0 ∨ mood t b = 2 := by omega
      · simp [ha1, hb1]
      · simp [ha1, hb1]
    · obtain hb1 | hb1 : mood t b = 0 ∨ mood t b = 2 := by omega
      · simp [ha1, hb1]
      · simp [ha1, hb1]
  · obtain ha1 | ha1 : mood t a = 0 ∨ mood t a = 1 := by omega
    · obtain hb1 | hb1 : mood t b = 0 ∨ mood t b = 1 := by omega
      · simp [ha1, hb1]
      · simp [ha1, hb1]
    · obtain hb1 | hb1 : mood t b = 0 ∨ mood t b = 1 := by omega
      · simp [ha1, hb1]
      · simp [ha1, hb1]
theorem good_of {w : Web} {s : List Int} (hs : StOk w.n s) {wish : Bool} {k : Nat} {lot : List Nat} (h : lot ∈ lotsZ w.n k) {t : List Int} (hp : PtO w.n s lot t) (ht : htsB w t = wish) : goodL w s wish k ≠ [] := fun e => by
  have : lot ∈ goodL w s wish k := List.mem_filter.mpr ⟨h, (tst_iff hs h).mpr ⟨t, hp, ht⟩⟩
  rw [e] at this
  cases this
theorem calm_few {w : Web} (hw : w.Ok) {s : List Int} (hs : StOk w.n s) : ∃ k, 3 * k ≤ w.n ∧ goodL w s true k ≠ [] := by
  have hsum := cls_sum hs
  obtain ⟨m, h0, h3, hm⟩ : ∃ m : Int, 0 ≤ m ∧ m < 3 ∧ 3 * (clsL w.n s m).length ≤ w.n := by
    by_cases h : 3 * (clsL w.n s 0).length ≤ w.n
    · exact ⟨0, by omega, by omega, h⟩
    · by_cases h' : 3 * (clsL w.n s 1).length ≤ w.n
      · exact ⟨1, by omega, by omega, h'⟩
      · exact ⟨2, by omega, by omega, by omega⟩
  refine ⟨_, hm, good_of hs cls_lot (t := turnL w.n fun v => if mood s v = m then (m + 1) % 3 else mood s v) ?_ ?_⟩
  · refine ⟨turn_ok fun v _ => ?_, fun v hv hn => ?_, fun v hv => ?_⟩
    · have := mood_three hs v
      split <;> omega
    · rw [mood_turn hv, if_neg (fun e => hn (mem_cls.mpr ⟨hv, e⟩))]
    · obtain ⟨h1, h2⟩ := mem_cls.mp hv
      rw [mood_turn h1, if_pos h2, h2]
      omega
  · refine two_rest hw (turn_ok fun v _ => ?_) h0 h3 fun v hv => ?_
    · have := mood_three hs v
      split <;> omega
    · rw [mood_turn hv]
      split
      · omega
      · assumption
theorem ringB_iff {w : Web} : ringB w = true ↔ ∃ a X, RingF w a X := by
  unfold ringB
  simp
theorem no_ring_rests {w : Web} (hw : w.Ok) (h : ringB w = false) (t : List Int) : htsB w t = true := by
  refine htsB_iff.mpr (ht_of_rings hw fun a X hR => ?_)
  have := ringB_iff.mpr ⟨a, X, hR⟩
  rw [h] at this
  cases this
theorem no_ring_good {w : Web} (hw : w.Ok) (h : ringB w = false) (s : List Int) (k : Nat) : goodL w s false k = [] := by
  unfold goodL
  refine List.filter_eq_nil_iff.mpr fun lot _ hz => ?_
  unfold tstB at hz
  obtain ⟨t, _, ht⟩ := List.any_eq_true.mp hz
  rw [no_ring_rests hw h t] at ht
  cases ht
theorem sumF_same {s t : List Int} : ∀ {X : List Nat} {a : Nat}, (∀ v ∈ a :: X, mood t v = mood s v) → sumF t a X = sumF s a X
  | [], _, _ => rfl
  | b :: X, a, h => by
    show stp t a b + sumF t b X = stp s a b + sumF s b X
    rw [sumF_same fun v hv => h v (List.mem_cons_of_mem _ hv)]
    unfold stp
    rw [h a (by simp), h b (by simp)]
theorem rsum_cons (t : List Int) (a q : Nat) (Y : List Nat) : rsumF t a (q :: Y) = stp t a q + sumF t q Y + stp t (endF q Y) a := by
  unfold rsumF
  show stp t a q + sumF t q (Y ++ [a]) = _
  rw [sumF_append]
  show stp t a q + (sumF t q Y + (stp t (endF q Y) a + 0)) = _
  omega
theorem one_turn {n : Nat} {s : List Int} (hs : StOk n s) {a q : Nat} {Y : List Nat} (hn : (a :: q :: Y).Nodup) (ha : a < n) (hpq : mood s (endF q Y) ≠ mood s q) (hz : rsumF s a (q :: Y) = 0) : ∃ m, 0 ≤ m ∧ m < 3 ∧ m ≠ mood s a ∧ rsumF (s.set a m) a (q :: Y) ≠ 0 := by
  have hla : a < s.length := by rw [hs.len]; exact ha
  have hnotin : a ∉ q :: Y := (List.nodup_cons.mp hn).1
  have hother : ∀ v ∈ q :: Y, ∀ m, mood (s.set a m) v = mood s v := fun v hv m => by rw [mood_set hla, if_neg (fun e => hnotin (by rw [← e]; exact hv))]
  have hself : ∀ m, mood (s.set a m) a = m := fun m => by rw [mood_set hla, if_pos rfl]
  have hsum : ∀ m, rsumF (s.set a m) a (q :: Y) = ((mood s q - m + 1) % 3 - 1) + sumF s q Y + ((m - mood s (endF q Y) + 1) % 3 - 1) := fun m => by
    rw [rsum_cons, sumF_same fun v hv => hother v hv m]
    unfold stp
    rw [hself, hother q (by simp) m, hother _ (endF_mem q Y) m]
  rw [rsum_cons] at hz
  unfold stp at hz
  have h1 := mood_three hs a
  have h2 := mood_three hs q
  have h3 := mood_three hs (endF q Y)
  by_cases hthird : mood s a ≠ mood s q ∧ mood s a ≠ mood s (endF q Y)
  · refine ⟨mood s q, h2.1, h2.2, fun e => hthird.1 e.symm, ?_⟩
    rw [hsum]
    omega
  · obtain ⟨m, m0, m3, mq, mp⟩ : ∃ m : Int, 0 ≤ m ∧ m < 3 ∧ m ≠ mood s q ∧ m ≠ mood s (endF q Y) := ⟨3 - mood s q - mood s (endF q Y), by omega, by omega, by omega, by omega⟩
    refine ⟨m, m0, m3, fun e => hthird ⟨by rw [← e]; exact mq, by rw [← e]; exact mp⟩, ?_⟩
    rw [hsum]
    omega
theorem not_hts {w : Web} {t : List Int} {a : Nat} {X : List Nat} (hR : RingF w a X) (h : rsumF t a X ≠ 0) : htsB w t = false := by
  cases hb : htsB w t with
  | false => rfl
  | true => obtain ⟨g, hg⟩ := htsB_iff.mp hb; exact absurd (hg.ring hR) h
theorem pt_none {n : Nat} {s : List Int} (hs : StOk n s) : PtO n s [] s := ⟨hs, fun _ _ _ => rfl, fun _ h => by cases h⟩
theorem pt_one {n : Nat} {s : List Int} (hs : StOk n s) {v : Nat} (hv : v < n) {m : Int} (h0 : 0 ≤ m) (h3 : m < 3) (hne : m ≠ mood s v) : PtO n s [v] (s.set v m) :=
  (pt_cons hs hv (by simp)).mpr ⟨m, h0, h3, hne, pt_none (set_ok hs h0 h3)⟩
theorem stir_few {w : Web} (hw : w.Ok) {s : List Int} (hs : StOk w.n s) (h : ringB w = true) : ∃ k, k ≤ 2 ∧ goodL w s false k ≠ [] := by
  obtain ⟨a, X, hR⟩ := ringB_iff.mp h
  have hl := hR.len
  match X, hl, hR with
  | q :: r :: Y, _, hR =>
    have ha : a < w.n := (Web.adj_lt hw hR.back).2.1
    have hq : q < w.n := hR.path.lt hw (by simp)
    have haq : a ≠ q := fun e => (List.nodup_cons.mp hR.nd).1 (by rw [e]; simp)
    have hends : endF q (r :: Y) ≠ q := fun e => by
      have h1 : endF q (r :: Y) ∈ r :: Y := endF_mem r Y
      rw [e] at h1
      exact (List.nodup_cons.mp (List.nodup_cons.mp hR.nd).2).1 h1
    have l0 : ([] : List Nat) ∈ lotsZ w.n 0 := by unfold lotsZ; simp
    have l1 : ∀ v, v < w.n → [v] ∈ lotsZ w.n 1 := fun v hv => mem_lotsZ.mpr ⟨rfl, by simp, fun u hu => by rw [List.mem_singleton.mp hu]; exact hv⟩
    by_cases hz : rsumF s a (q :: r :: Y) = 0
    · by_cases hpq : mood s (endF q (r :: Y)) = mood s q
      · -- another mood for q first
        have hm := mood_three hs q
        obtain ⟨m, m0, m3, mne⟩ : ∃ m : Int, 0 ≤ m ∧ m < 3 ∧ m ≠ mood s q := ⟨(mood s q + 1) % 3, by omega, by omega, by omega⟩
        have hs2 := set_ok hs (v := q) m0 m3
        have hlq : q < s.length := by rw [hs.len]; exact hq
        by_cases hz2 : rsumF (s.set q m) a (q :: r :: Y) = 0
        · have hpq2 : mood (s.set q m) (endF q (r :: Y)) ≠ mood (s.set q m) q := by
            rw [mood_set hlq, mood_set hlq, if_neg hends, if_pos rfl, hpq]
            exact fun e => mne e.symm
          obtain ⟨m2, k0, k3, kne, hk⟩ := one_turn hs2 hR.nd ha hpq2 hz2
          have hlot : [min a q, max a q] ∈ lotsZ w.n 2 := mem_lotsZ.mpr ⟨rfl, by simp; omega, fun u hu => by
            simp only [List.mem_cons, List.not_mem_nil, or_false] at hu
            omega⟩
          refine ⟨2, Nat.le_refl _, good_of hs hlot (t := (s.set q m).set a m2) ?_ (not_hts hR hk)⟩
          have hma : mood (s.set q m) a = mood s a := by rw [mood_set hlq, if_neg haq]
          rw [hma] at kne
          have hla : a < (s.set q m).length := by rw [List.length_set, hs.len]; exact ha
          refine ⟨set_ok hs2 k0 k3, fun v _ hv => ?_, fun v hv => ?_⟩
          · simp only [List.mem_cons, List.not_mem_nil, or_false, not_or] at hv
            rw [mood_set hla, if_neg (by omega), mood_set hlq, if_neg (by omega)]
          · simp only [List.mem_cons, List.not_mem_nil, or_false] at hv
            rw [mood_set hla]
            by_cases hva : v = a
            · rw [if_pos hva, hva]
              exact kne
            · have hvq : v = q := by omega
              rw [if_neg hva, mood_set hlq, if_pos hvq, hvq]
              exact mne
        · exact ⟨1, by omega, good_of hs (l1 q hq) (pt_one hs hq m0 m3 mne) (not_hts hR hz2)⟩
      · obtain ⟨m, m0, m3, mne, hk⟩ := one_turn hs hR.nd ha hpq hz
        exact ⟨1, by omega, good_of hs (l1 a ha) (pt_one hs ha m0 m3 mne) (not_hts hR hk)⟩
    · exact ⟨0, by omega, good_of hs l0 (pt_none hs) (not_hts hR hz)⟩
theorem least_good {w : Web} {s : List Int} {wish : Bool} : ∀ (k : Nat), goodL w s wish k ≠ [] → ∃ j, j ≤ k ∧ goodL w s wish j ≠ [] ∧ ∀ i < j, goodL w s wish i = []
  | 0, h => ⟨0, Nat.le_refl _, h, fun i hi => by omega⟩
  | k + 1, h => by
    by_cases h2 : ∃ i, i ≤ k ∧ goodL w s wish i ≠ []
    · obtain ⟨i, hi, hg⟩ := h2
      obtain ⟨j, hj, h3, h4⟩ := least_good i hg
      exact ⟨j, by omega, h3, h4⟩
    · refine ⟨k + 1, Nat.le_refl _, h, fun i hi => ?_⟩
      exact Classical.byContradiction fun hn => h2 ⟨i, by omega, hn⟩

set_option autoImplicit false
def ringEs (n : Nat) : List (Nat × Nat) := (List.range (n - 1)).map (fun k => (k, k + 1)) ++ [(0, n - 1)]
def ringW (n : Nat) : Web := ⟨n, sortN (ringEs n)⟩
theorem ring_facts : ∀ n < 11, 3 ≤ n → (ringEs n).Nodup ∧ (∀ e ∈ ringEs n, e.1 < e.2 ∧ e.2 < n) ∧ (ringEs n).length ≤ 100 := by decide +kernel
theorem ringW_mem {n : Nat} {e : Nat × Nat} : e ∈ (ringW n).es ↔ e ∈ ringEs n := (sortN_perm (ringEs n)).mem_iff
theorem ringW_ok {n : Nat} (h3 : 3 ≤ n) (h10 : n ≤ 10) : (ringW n).Ok := by
  obtain ⟨h1, h2, h4⟩ := ring_facts n (by omega) h3
  exact ⟨by show 1 ≤ n; omega, h10, by show (sortN (ringEs n)).length ≤ 100; rw [(sortN_perm _).length_eq]; exact h4, sortN_sorted h1, fun e he => h2 e (ringW_mem.mp he)⟩
def adjR (n u v : Nat) : Bool := decide ((min u v, max u v) ∈ ringEs n)
theorem adj_ring (n u v : Nat) : (ringW n).adj u v = adjR n u v := by
  unfold Web.adj adjR
  exact decide_eq_decide.mpr ringW_mem
def pathR (n : Nat) : Nat → List Nat → Bool
  | _, [] => true
  | a, b :: r => adjR n a b && pathR n b r
theorem pathR_ok {n : Nat} : ∀ {X : List Nat} {a : Nat}, pathR n a X = true → PathF (ringW n) a X
  | [], _, _ => trivial
  | b :: r, a, h => by
    unfold pathR at h
    rw [Bool.and_eq_true] at h
    exact ⟨by rw [adj_ring]; exact h.1, pathR_ok h.2⟩
theorem ring_path : ∀ n < 11, 3 ≤ n → pathR n 0 (List.range' 1 (n - 1)) = true ∧ adjR n (endF 0 (List.range' 1 (n - 1))) 0 = true ∧ (0 :: List.range' 1 (n - 1)).Nodup := by decide +kernel
theorem ring_is {n : Nat} (h3 : 3 ≤ n) (h10 : n ≤ 10) : RingF (ringW n) 0 (List.range' 1 (n - 1)) := by
  obtain ⟨h1, h2, h4⟩ := ring_path n (by omega) h3
  exact ⟨h4, by rw [List.length_range']; omega, pathR_ok h1, by rw [adj_ring]; exact h2⟩
def onesL (n : Nat) : List Int := List.replicate n 1
theorem ones_ok (n : Nat) : StOk n (onesL n) := ⟨by unfold onesL; simp, fun x hx => by rw [List.eq_of_mem_replicate hx]; omega⟩
theorem mood_ones {n v : Nat} (h : v < n) : mood (onesL n) v = 1 := by
  unfold mood onesL
  rw [List.getD_eq_getElem?_getD, List.getElem?_replicate, if_pos h]
  rfl
theorem ring_stirs : ∀ n < 11, 3 ≤ n → ∀ v < n, ∀ u < v, adjR n u v = true → rsumF (((onesL n).set u 0).set v 2) 0 (List.range' 1 (n - 1)) ≠ 0 := by decide +kernel
theorem near_one {n : Nat} (h3 : 3 ≤ n) (h10 : n ≤ 10) {t : List Int} (ht : StOk n t) (h : ∀ u v, adjR n u v = true → mood t u = 1 ∨ mood t v = 1) : htsB (ringW n) t = true := by
  refine htsB_iff.mpr ⟨fun v => mood t v - 1, fun a b e => ?_⟩
  rw [adj_ring] at e
  have h1 := mood_three ht a
  have h2 := mood_three ht b
  have := h a b e
  show mood t b - 1 - (mood t a - 1) = _
  unfold stp
  omega
def adj2 (n : Nat) : List Nat → Bool
  | [u, v] => adjR n u v
  | _ => false
theorem ring_pairs : ∀ n < 11, 3 ≤ n → ((lotsZ n 2).filter (adj2 n)).length = n := by decide +kernel
theorem lots_all2 : ∀ n < 11, ∀ k < 3, sameLL (f_lots_of_size [.fz (natD n), .fz (natD k)]) (lotsZ n k) = true := by decide +kernel
theorem tst_no {w : Web} {s : List Int} (hs : StOk w.n s) {k : Nat} {lot : List Nat} (h : lot ∈ lotsZ w.n k) (hno : ∀ t, PtO w.n s lot t → htsB w t = true) : tstB w s false lot = false := by
  cases hb : tstB w s false lot with
  | false => rfl
  | true =>
    obtain ⟨t, hp, ht⟩ := (tst_iff hs h).mp hb
    rw [hno t hp] at ht
    cases ht
theorem ring_tst {n : Nat} (h3 : 3 ≤ n) (h10 : n ≤ 10) {k : Nat} (hk : k ≤ 2) {lot : List Nat} (h : lot ∈ lotsZ n k) : tstB (ringW n) (onesL n) false lot = adj2 n lot := by
  have hs : StOk (ringW n).n (onesL n) := ones_ok n
  have hw := ringW_ok h3 h10
  obtain ⟨l1, l2, l3⟩ := mem_lotsZ.mp h
  have near : (∀ u v, adjR n u v = true → u ∉ lot ∨ v ∉ lot) → tstB (ringW n) (onesL n) false lot = false := fun hno => by
    refine tst_no hs h fun t hp => near_one h3 h10 hp.st fun u v e => ?_
    obtain ⟨hu, hv, _⟩ := Web.adj_lt hw (by rw [adj_ring]; exact e : (ringW n).adj u v = true)
    rcases hno u v e with h | h
    · left
      rw [hp.off u hu h]
      exact mood_ones hu
    · right
      rw [hp.off v hv h]
      exact mood_ones hv
  have irr : ∀ u v, adjR n u v = true → u ≠ v := fun u v e => (Web.adj_lt hw (by rw [adj_ring]; exact e : (ringW n).adj u v = true)).2.2
  match lot, l1, l2, l3, h with
  | [], _, _, _, _ =>
    rw [near (fun u v _ => .inl (by simp))]
    rfl
  | [x], _, _, _, _ =>
    rw [near (fun u v e => by
      have := irr u v e
      by_cases hu : u = x
      · right
        simp
        omega
      · left
        simpa using hu)]
    rfl
  | [x, y], _, l2, l3, h =>
    have hxy : x < y := by simpa using l2
    show _ = adjR n x y
    cases ha : adjR n x y with
    | false =>
      refine near fun u v e => ?_
      have hne := irr u v e
      by_cases hu : u ∈ [x, y]
      · right
        intro hv
        simp only [List.mem_cons, List.not_mem_nil, or_false] at hu hv
        have : adjR n x y = true := by
          rcases hu with rfl | rfl
          · rcases hv with rfl | rfl
            · exact absurd rfl hne
            · exact e
          · rcases hv with rfl | rfl
            · have e' : adjR n v u = adjR n u v := by unfold adjR; rw [Nat.min_comm, Nat.max_comm]
              rw [e']
              exact e
            · exact absurd rfl hne
        rw [ha] at this
        cases this
      · exact .inl hu
    | true =>
      have hy : y < n := l3 y (by simp)
      have hx : x < n := l3 x (by simp)
      refine (tst_iff hs h).mpr ⟨((onesL n).set x 0).set y 2, ?_, not_hts (ring_is h3 h10) (ring_stirs n (by omega) h3 y hy x hxy ha)⟩
      have h0 := ones_ok n
      have hlx : x < (onesL n).length := by rw [h0.len]; exact hx
      have s1 := set_ok h0 (v := x) (m := 0) (by omega) (by omega)
      refine (pt_cons h0 hx (by simp; omega)).mpr ⟨0, by omega, by omega, by rw [mood_ones hx]; omega, pt_one s1 hy (by omega) (by omega) ?_⟩
      rw [mood_set hlx, if_neg (by omega), mood_ones hy]
      omega
  | _ :: _ :: _ :: _, l1, _, _, _ =>
    simp at l1
    omega
theorem ring_good {n : Nat} (h3 : 3 ≤ n) (h10 : n ≤ 10) : goodL (ringW n) (onesL n) false 0 = [] ∧ goodL (ringW n) (onesL n) false 1 = [] ∧ (goodL (ringW n) (onesL n) false 2).length = n := by
  have key : ∀ k, k ≤ 2 → goodL (ringW n) (onesL n) false k = (lotsZ n k).filter (adj2 n) := fun k hk => List.filter_congr fun lot hl => ring_tst h3 h10 hk hl
  refine ⟨?_, ?_, ?_⟩
  · rw [key 0 (by omega)]
    rfl
  · rw [key 1 (by omega)]
    refine List.filter_eq_nil_iff.mpr fun lot hl => ?_
    obtain ⟨h1, _⟩ := mem_lotsZ.mp hl
    match lot, h1 with
    | [x], _ => exact Bool.false_ne_true
  · rw [key 2 (by omega)]
    exact ring_pairs n (by omega) h3
theorem ring_calm {n : Nat} (h3 : 3 ≤ n) (h10 : n ≤ 10) : goodL (ringW n) (onesL n) true 0 = [[]] := by
  have hs : StOk (ringW n).n (onesL n) := ones_ok n
  have h0 : ([] : List Nat) ∈ lotsZ (ringW n).n 0 := by unfold lotsZ; simp
  have hw := ringW_ok h3 h10
  have : tstB (ringW n) (onesL n) true [] = true := (tst_iff hs h0).mpr ⟨onesL n, pt_none hs, near_one h3 h10 (ones_ok n) fun u v e => by
    left
    exact mood_ones (Web.adj_lt hw (by rw [adj_ring]; exact e : (ringW n).adj u v = true)).1⟩
  unfold goodL
  show ([[]] : List (List Nat)).filter _ = _
  rw [List.filter_cons, this]
  rfl
theorem lots_len_small : ∀ n < 6, ∀ k < 6, (lotsZ n k).length ≤ 100 := by decide +kernel
theorem lots_len_2 : ∀ n < 11, ∀ k < 3, (lotsZ n k).length ≤ 100 := by decide +kernel
local macro_rules | `(tactic| decreasing_trivial_pre_omega) => `(tactic| first
  | with_reducible assumption)
theorem calmed_of {w : Web} (hw : w.Ok) {s : List Int} (hs : StOk w.n s) {d : D} (h : f_fewest [.fz (webD w), .fz (stD s), .fz (.bool true)] = .ok d []) : f_calmed [.fz (webD w), .fz (stD s)] = .ok d [] := by
  have h1 := need_both_ok hw hs
  refine W.fn0 rfl ?_; unfold m_calmed; simp only [Nat.reduceSub, List.replicate_succ, List.replicate_zero, List.cons_append, List.nil_append]
  exact .seq (.do' (d := .none) (ρ' := [.fz (webD w), .fz (stD s)]) (by array_get_dec) (.ret (by array_get_dec) rfl))
theorem stirring_of {w : Web} (hw : w.Ok) {s : List Int} (hs : StOk w.n s) {d : D} (hr : ringB w = true) (h : f_fewest [.fz (webD w), .fz (stD s), .fz (.bool false)] = .ok d []) : f_stirring [.fz (webD w), .fz (stD s)] = .ok d [] := by
  have h1 := need_both_ok hw hs
  have h2 := has_ring_eq hw
  rw [hr] at h2
  refine W.fn0 rfl ?_; unfold m_stirring; simp only [Nat.reduceSub, List.replicate_succ, List.replicate_zero, List.cons_append, List.nil_append]
  exact .seq (.do' (d := .none) (ρ' := [.fz (webD w), .fz (stD s)]) (by array_get_dec) (.ret (mIf_t (by array_get_dec) (by array_get_dec)) rfl))
theorem stirring_no {w : Web} (hw : w.Ok) {s : List Int} (hs : StOk w.n s) (hr : ringB w = false) : f_stirring [.fz (webD w), .fz (stD s)] = .ok (.tuple []) [] := by
  have h1 := need_both_ok hw hs
  have h2 := has_ring_eq hw
  rw [hr] at h2
  refine W.fn0 rfl ?_; unfold m_stirring; simp only [Nat.reduceSub, List.replicate_succ, List.replicate_zero, List.cons_append, List.nil_append]
  exact .seq (.do' (d := .none) (ρ' := [.fz (webD w), .fz (stD s)]) (by array_get_dec) (.ret (d := .tuple []) (mIf_f (by array_get_dec) rfl) rfl))
theorem ring_calmed {n : Nat} (h3 : 3 ≤ n) (h10 : n ≤ 10) : f_calmed [.fz (webD (ringW n)), .fz (stD (onesL n))] = .ok (.tuple [.tuple []]) [] := by
  have hw := ringW_ok h3 h10
  have := fewest_some hw (ones_ok n) (wish := true) (k := 0) (Nat.zero_le _) (fun j hj => ⟨sameLL_eq (lots_all2 n (by omega) j (by omega)), by have := lots_len_2 n (by omega) j (by omega); show (lotsZ n j).length ≤ _; omega⟩) (fun j hj => by omega) (by rw [ring_calm h3 h10]; simp)
  rw [ring_calm h3 h10] at this
  exact calmed_of hw (ones_ok n) this
theorem ring_stirring {n : Nat} (h3 : 3 ≤ n) (h10 : n ≤ 10) : ∃ l : List (List Nat), f_stirring [.fz (webD (ringW n)), .fz (stD (onesL n))] = .ok (.tuple (l.map tupN)) [] ∧ l.length = n := by
  have hw := ringW_ok h3 h10
  obtain ⟨g0, g1, g2⟩ := ring_good h3 h10
  have := fewest_some hw (ones_ok n) (wish := false) (k := 2) (by show 2 ≤ n; omega) (fun j hj => ⟨sameLL_eq (lots_all2 n (by omega) j (by omega)), by have := lots_len_2 n (by omega) j (by omega); show (lotsZ n j).length ≤ _; omega⟩) (fun j hj => by
    obtain rfl | rfl : j = 0 ∨ j = 1 := by omega
    · exact g0
    · exact g1) (fun e => by rw [e] at g2; simp at g2; omega)
  exact ⟨_, stirring_of hw (ones_ok n) (ringB_iff.mpr ⟨_, _, ring_is h3 h10⟩) this, g2⟩
theorem calm_res {w : Web} (hw : w.Ok) (h5 : w.n ≤ 5) {s : List Int} (hs : StOk w.n s) : ∃ k, 3 * k ≤ w.n ∧ goodL w s true k ≠ [] ∧ (∀ i < k, goodL w s true i = []) ∧ f_calmed [.fz (webD w), .fz (stD s)] = .ok (.tuple ((goodL w s true k).map tupN)) [] := by
  obtain ⟨k0, h1, h2⟩ := calm_few hw hs
  obtain ⟨k, hk, h3, h4⟩ := least_good k0 h2
  exact ⟨k, by omega, h3, h4, calmed_of hw hs (fewest_some hw hs (by omega) (fun j hj => ⟨lots_eq h5 (by omega), by have := lots_len_small w.n (by omega) j (by omega); omega⟩) h4 h3)⟩
theorem stir_res {w : Web} (hw : w.Ok) (h5 : w.n ≤ 5) {s : List Int} (hs : StOk w.n s) (hr : ringB w = true) : ∃ k, k ≤ 2 ∧ k ≤ w.n ∧ goodL w s false k ≠ [] ∧ (∀ i < k, goodL w s false i = []) ∧ f_stirring [.fz (webD w), .fz (stD s)] = .ok (.tuple ((goodL w s false k).map tupN)) [] := by
  obtain ⟨k0, h1, h2⟩ := stir_few hw hs hr
  obtain ⟨k, hk, h3, h4⟩ := least_good k0 h2
  have hkn : k ≤ w.n := by
    cases hg : goodL w s false k with
    | nil => exact absurd hg h3
    | cons a l =>
      have ha : a ∈ goodL w s false k := by rw [hg]; simp
      obtain ⟨l1, l2, l3⟩ := mem_lotsZ.mp (List.mem_filter.mp ha).1
      have := nodup_le w.n a (nodup_of_lt l2) l3
      omega
  exact ⟨k, by omega, hkn, h3, h4, stirring_of hw hs hr (fewest_some hw hs hkn (fun j hj => ⟨lots_eq h5 (by omega), by have := lots_len_small w.n (by omega) j (by omega); omega⟩) h4 h3)⟩
def procL (tst : List Nat → Bool) : List (List Nat) → List (List Nat) → List (List Nat)
  | [], acc => acc
  | lot :: r, acc => procL tst r (if acc = [] ∨ lot.length = (acc.headD []).length then (if tst lot = true then acc ++ [lot] else acc) else acc)
theorem proc_app (tst : List Nat → Bool) : ∀ (a b acc : List (List Nat)), procL tst (a ++ b) acc = procL tst b (procL tst a acc)
  | [], _, _ => rfl
  | x :: a, b, acc => by
    show procL tst (a ++ b) _ = procL tst b (procL tst a _)
    rw [proc_app tst a b]
theorem proc_same (tst : List Nat → Bool) {k : Nat} : ∀ (l : List (List Nat)) (x : List Nat) (acc : List (List Nat)), x.length = k → (∀ y ∈ l, y.length = k) → procL tst l (x :: acc) = x :: acc ++ l.filter tst
  | [], x, acc, _, _ => by simp [procL]
  | y :: l, x, acc, hx, hl => by
    have hy := hl y List.mem_cons_self
    unfold procL
    rw [if_pos (.inr (by show y.length = x.length; rw [hy, hx]))]
    cases ht : tst y with
    | true =>
      rw [if_pos rfl]
      show procL tst l (x :: (acc ++ [y])) = _
      rw [proc_same tst l x (acc ++ [y]) hx fun z hz => hl z (List.mem_cons_of_mem _ hz), List.filter_cons, ht]
      simp
    | false =>
      rw [if_neg Bool.false_ne_true, proc_same tst l x acc hx fun z hz => hl z (List.mem_cons_of_mem _ hz), List.filter_cons, ht]
      simp
theorem proc_none (tst : List Nat → Bool) {k : Nat} : ∀ (l : List (List Nat)), (∀ y ∈ l, y.length = k) → procL tst l [] = l.filter tst
  | [], _ => rfl
  | y :: l, hl => by
    have hy := hl y List.mem_cons_self
    unfold procL
    rw [if_pos (.inl rfl)]
    cases ht : tst y with
    | true =>
      rw [if_pos rfl]
      show procL tst l [y] = _
      rw [proc_same tst l y [] hy fun z hz => hl z (List.mem_cons_of_mem _ hz), List.filter_cons, ht]
      simp
    | false =>
      rw [if_neg Bool.false_ne_true, proc_none tst l fun z hz => hl z (List.mem_cons_of_mem _ hz), List.filter_cons, ht]
      simp
theorem proc_other (tst : List Nat → Bool) {k : Nat} : ∀ (l : List (List Nat)) (x : List Nat) (acc : List (List Nat)), x.length ≠ k → (∀ y ∈ l, y.length = k) → procL tst l (x :: acc) = x :: acc
  | [], x, acc, _, _ => rfl
  | y :: l, x, acc, hx, hl => by
    have hy := hl y List.mem_cons_self
    unfold procL
    rw [if_neg (fun h => h.elim (fun z => by cases z) fun z => hx (by rw [← hy]; exact z.symm))]
    exact proc_other tst l x acc hx fun z hz => hl z (List.mem_cons_of_mem _ hz)
theorem proc_levels {w : Web} {s : List Int} {wish : Bool} : ∀ K : Nat, ((∀ i < K, goodL w s wish i = []) → procL (tstB w s wish) ((List.range K).flatMap (lotsZ w.n)) [] = []) ∧
    (∀ k < K, goodL w s wish k ≠ [] → (∀ i < k, goodL w s wish i = []) → procL (tstB w s wish) ((List.range K).flatMap (lotsZ w.n)) [] = goodL w s wish k)
  | 0 => ⟨fun _ => rfl, fun k hk => by omega⟩
  | K + 1 => by
    obtain ⟨h1, h2⟩ := proc_levels (w := w) (s := s) (wish := wish) K
    have hlen : ∀ y ∈ lotsZ w.n K, y.length = K := fun y hy => (mem_lotsZ.mp hy).1
    have hsp : (List.range (K + 1)).flatMap (lotsZ w.n) = (List.range K).flatMap (lotsZ w.n) ++ lotsZ w.n K := by rw [List.range_succ, List.flatMap_append]; simp
    rw [hsp, proc_app]
    refine ⟨fun h => ?_, fun k hk hy hn => ?_⟩
    · rw [h1 fun i hi => h i (by omega), proc_none _ _ hlen]
      exact h K (by omega)
    · by_cases hkK : k < K
      · rw [h2 k hkK hy hn]
        cases hg : goodL w s wish k with
        | nil => exact absurd hg hy
        | cons a l =>
          have ha : a ∈ goodL w s wish k := by rw [hg]; simp
          have := (mem_lotsZ.mp (List.mem_filter.mp ha).1).1
          exact proc_other _ _ a l (by omega) hlen
      · have : k = K := by omega
        subst this
        rw [h1 hn, proc_none _ _ hlen]
        rfl
theorem lots_under : ∀ n < 6, (allLots n).filter (fun l => decide (l.length < 4)) = (List.range (min (n + 1) 4)).flatMap (lotsZ n) := by decide +kernel

set_option autoImplicit false
theorem alk_lots {l : List (List Nat)} (h : ∀ x ∈ l, x.length ≤ 1000) (hl : l.length ≤ 1000000) (k : Nat) : Alk (k + 3) (.tuple (l.map tupN)) := .tup (fun d hd => by
  obtain ⟨x, hx, rfl⟩ := List.mem_map.mp hd
  refine .tup (fun d hd => ?_) (by rw [List.length_map]; have := h x hx; omega)
  obtain ⟨v, _, rfl⟩ := List.mem_map.mp hd
  exact .int _ _) (by rw [List.length_map]; exact hl)
theorem eq_nilT (l : List (List Nat)) : dEq (.tuple (l.map tupN)) (.tuple []) = some (.bool l.isEmpty) := by
  have h : okD (.tuple (l.map tupN)) = true := (Shp.tup (f := tupN) shp_tupN l).ok (by omega)
  unfold dEq
  rw [h, show okD (.tuple []) = true from rfl]
  cases l with
  | nil => rfl
  | cons a l => rfl
theorem eq_nilL (l : List (List Nat)) : dEq (.list (l.map tupN)) (.list []) = some (.bool l.isEmpty) := by
  have h : okD (.list (l.map tupN)) = true := okTups l
  unfold dEq
  rw [h, show okD (.list []) = true from rfl]
  cases l with
  | nil => rfl
  | cons a l => rfl
theorem ne_nilLL (l : List (List Nat)) : dNe (.list (l.map tupN)) (.list []) = some (.bool (!l.isEmpty)) := by
  rw [ne_nilG (okTups l)]
  cases l <;> rfl
theorem ne_boolB (a b : Bool) : dNe (.bool a) (.bool b) = some (.bool (!decide (a = b))) := by cases a <;> cases b <;> rfl
theorem eq_unit : dEq (.tuple [.tuple []]) (.tuple [.tuple []]) = some (.bool true) := by
  have q1 : okD (.tuple [.tuple []]) = true := by decide +kernel
  have q2 : PyData.eqv (.tuple [.tuple []]) (.tuple [.tuple []]) = true := by decide +kernel
  unfold dEq
  rw [q1, q2]
  rfl
theorem mulI (a b : Nat) (h : a ≤ 1000) (h2 : b ≤ 1000) : dMul (natD a) (natD b) = some (natD (a * b)) := by
  show (if mulFits (a : Int) (b : Int) then some (PyData.int ((a : Int) * (b : Int))) else none) = _
  rw [if_pos (by simp [mulFits]; omega)]
  unfold natD
  rw [Int.natCast_mul]
theorem rings_nil {w : Web} {rs : List (List Nat)} (h : Rings w rs) : rs.isEmpty = !ringB w := by
  rw [Bool.eq_iff_iff, List.isEmpty_iff, Bool.not_eq_true', ← Bool.not_eq_true, ringB_iff]
  constructor
  · rintro rfl ⟨a, X, hR⟩
    obtain ⟨b, Y, hL, _⟩ := hR.lead (s := [])
    have := h.mem b Y hL
    cases this
  · intro hno
    cases rs with
    | nil => rfl
    | cons r l =>
      obtain ⟨a, X, _, hL⟩ := h.all r (by simp)
      exact absurd ⟨a, X, hL.ring⟩ hno
theorem pairs_cat {a b : List (Nat × Nat)} (h : a.length + b.length ≤ 1000) : dCat (.list (a.map pairN)) (.list (b.map pairN)) = some (.list ((a ++ b).map pairN)) := by
  rw [List.map_append]
  exact if_pos (by rw [List.length_map, List.length_map]; unfold sizeLine; omega)
theorem ptB_len {s : List Int} : ∀ (lot : List Nat) (f : List (List Int)), (ptB s lot f).length ≤ f.length * 3 ^ lot.length
  | [], f => by unfold ptB; simp
  | v :: lot, f => by
    unfold ptB
    refine Nat.le_trans (ptB_len lot _) ?_
    have h1 : (f.flatMap fun o => ([0, 1, 2].filter fun m : Int => !decide (m = mood s v)).map fun m => o.set v m).length ≤ f.length * 3 := by
      induction f with
      | nil => simp
      | cons o f ih =>
        rw [List.flatMap_cons, List.length_append, List.length_map, List.length_cons]
        have := List.length_filter_le (fun m : Int => !decide (m = mood s v)) [0, 1, 2]
        simp only [List.length_cons, List.length_nil] at this
        omega
    have h2 := Nat.mul_le_mul_right (3 ^ lot.length) h1
    rw [List.length_cons, Nat.pow_succ, Nat.mul_comm (3 ^ lot.length) 3, ← Nat.mul_assoc]
    exact h2
theorem proc_len (tst : List Nat → Bool) : ∀ (l acc : List (List Nat)), (procL tst l acc).length ≤ acc.length + l.length
  | [], acc => by unfold procL; simp
  | x :: l, acc => by
    unfold procL
    have h1 := proc_len tst l (if acc = [] ∨ x.length = (acc.headD []).length then (if tst x = true then acc ++ [x] else acc) else acc)
    have h2 : (if acc = [] ∨ x.length = (acc.headD []).length then (if tst x = true then acc ++ [x] else acc) else acc).length ≤ acc.length + 1 := by
      split
      · split
        · simp
        · omega
      · omega
    rw [List.length_cons]
    omega
local macro_rules | `(tactic| decreasing_trivial_pre_omega) => `(tactic| first
  | with_reducible assumption)
theorem head_len {acc : List (List Nat)} {x : List Nat} (h : acc.head? = some x) : dAt (.list (acc.map tupN)) (.int 0) = some (tupN x) := by
  cases acc with
  | nil => cases h
  | cons a l =>
    cases h
    exact (at_L _ 0).trans rfl
theorem law_true (ns : List Int) (hl : ns.length ≤ 63) (hb : ∀ z ∈ ns, Builtin.Int.intBits z ≤ 1048576) : f_law [.fz (scrD ns)] = .ok (.bool true) [] := by
  have r0 : RowOk ns (rowD ns 0 15561 0) := ⟨0, 15561, 0, rfl, by omega, by omega, by omega⟩
  obtain ⟨w, d1, e1, hw, hn5, r1⟩ := web_drawn r0 (most := 5) (by omega) (by omega)
  have hn := hw.pos
  have h5 : w.n ≤ 5 := by omega
  obtain ⟨s, d2, e2, hs, r2⟩ := state_drawn r1 hw
  have w0 := web_0 w
  refine W.fn0 rfl ?_
  unfold m_law
  refine .seq (.own (d := rowD ns 0 15561 0) (ρ' := [.fz (scrD ns), .no, .no, .no, .no, .no, .no, .no, .no, .no, .no, .no, .no, .no, .no]) rfl ?_)
  simp only [List.set_cons_zero, List.set_cons_succ]
  sizeOf_list_dec
  sizeOf_list_dec
  have hlaw := law_lots_eq h5
  refine .seq (.set' (sort_key_ok (n := w.n) h5 (ρ1 := [.fz (scrD ns), .own d2, .fz (webD w), .fz (stD s), .no, .no, .no, .no, .no, .no, .no, .no, .no, .no, .no]) (by array_get_dec)) ?_)
  simp only [List.set_cons_zero, List.set_cons_succ]
  -- what the program answers, for each wish
  obtain ⟨kc, hc3, hcy, hcn, hcal⟩ := calm_res hw h5 hs
  obtain ⟨R, hstir, hRn, hRk⟩ : ∃ R : List (List Nat), f_stirring [.fz (webD w), .fz (stD s)] = .ok (.tuple (R.map tupN)) [] ∧ (R.isEmpty = !ringB w) ∧ ((∀ i, goodL w s false i = []) ∧ R = [] ∨ ∃ k, k ≤ 2 ∧ k ≤ w.n ∧ goodL w s false k ≠ [] ∧ (∀ i < k, goodL w s false i = []) ∧ R = goodL w s false k) := by
    cases hr : ringB w with
    | false => exact ⟨[], stirring_no hw hs hr, rfl, .inl ⟨no_ring_good hw hr s, rfl⟩⟩
    | true =>
      obtain ⟨k, h1, h2, h3, h4, h6⟩ := stir_res hw h5 hs hr
      refine ⟨_, h6, ?_, .inr ⟨k, h1, h2, h3, h4, rfl⟩⟩
      cases hg : goodL w s false k with
      | nil => exact absurd hg h3
      | cons _ _ => rfl
  -- the kit of one wish
  have hres : ∀ wish : Bool, ∃ P : List (List Nat), procL (tstB w s wish) ((List.range (min (w.n + 1) 4)).flatMap (lotsZ w.n)) [] = P ∧
      (if wish = true then f_calmed [.fz (webD w), .fz (stD s)] else f_stirring [.fz (webD w), .fz (stD s)]) = .ok (.tuple (P.map tupN)) [] ∧ (wish = true → ∃ a l, P = a :: l ∧ a.length * 3 ≤ w.n) ∧ (wish = false → P ≠ [] → ∃ a l, P = a :: l ∧ a.length ≤ 2) ∧
      (∀ x ∈ P, x.length ≤ 1000) ∧ P.length ≤ 1000000 := by
    have hgl : ∀ (b : Bool) (k : Nat), k < 6 → (∀ x ∈ goodL w s b k, x.length = k) ∧ (goodL w s b k).length ≤ 100 := fun b k hk => by
      refine ⟨fun x hx => (mem_lotsZ.mp (List.mem_filter.mp hx).1).1, ?_⟩
      have h1 := List.length_filter_le (tstB w s b) (lotsZ w.n k)
      have h2 := lots_len_small w.n (by omega) k hk
      unfold goodL
      omega
    intro wish
    cases wish with
    | true =>
      have hk : kc < min (w.n + 1) 4 := by omega
      obtain ⟨g1, g2⟩ := hgl true kc (by omega)
      refine ⟨_, (proc_levels (w := w) (s := s) (wish := true) _).2 kc hk hcy hcn, hcal, fun _ => ?_, nofun, fun x hx => by rw [g1 x hx]; omega, by omega⟩
      cases hg : goodL w s true kc with
      | nil => exact absurd hg hcy
      | cons a l =>
        have := g1 a (by rw [hg]; simp)
        exact ⟨a, l, rfl, by omega⟩
    | false =>
      rcases hRk with ⟨h1, h2⟩ | ⟨k, h1, h2, h3, h4, h6⟩
      · subst h2
        exact ⟨[], (proc_levels (w := w) (s := s) (wish := false) _).1 fun i _ => h1 i, hstir, nofun, fun _ h => absurd rfl h, nofun, by simp⟩
      · obtain ⟨g1, g2⟩ := hgl false k (by omega)
        subst h6
        refine ⟨_, (proc_levels (w := w) (s := s) (wish := false) _).2 k (by omega) h3 h4, hstir, nofun, fun _ _ => ?_, fun x hx => by rw [g1 x hx]; omega, by omega⟩
        cases hg : goodL w s false k with
        | nil => exact absurd hg h3
        | cons a l =>
          have := g1 a (by rw [hg]; simp)
          exact ⟨a, l, rfl, by omega⟩
  refine .seq (.forA (f := PyData.bool) (l := [true, false]) (ρ0 := [.fz (scrD ns), .own d2, .fz (webD w), .fz (stD s), .fz (.list ((allLots w.n).map tupN)), .no, .no, .no, .no, .no, .no, .no, .no, .no, .no]) (fun _ ρ => ∃ x5 x6 x7 x8 x10, (∀ d, x7 ≠ .own d) ∧ ρ = [.fz (scrD ns), .own d2, .fz (webD w), .fz (stD s), .fz (.list ((allLots w.n).map tupN)), x5, x6, x7, x8, .no, x10, .no, .no, .no, .no]) (iSeq_L (by show _ = Rs.ok (PyData.list [.bool true, .bool false]) _; array_get_dec)) ⟨.no, .no, .no, .no, .no, nofun, rfl⟩ ?_ ?_)
  · rintro _ wish _ _ ⟨x5, x6, x7, x8, x10, hx7, rfl⟩
    obtain ⟨P, hP, hcall, hPt, hPf, hPa, hPl⟩ := hres wish
    simp only [List.set_cons_zero, List.set_cons_succ]
    refine .seq (.set' (d := .list []) (ρ' := [.fz (scrD ns), .own d2, .fz (webD w), .fz (stD s), .fz (.list ((allLots w.n).map tupN)), .fz (.bool wish), x6, x7, x8, .no, x10, .no, .no, .no, .no]) rfl ?_)
    simp only [List.set_cons_zero, List.set_cons_succ]
    -- through the lots
    have hall : (allLots w.n).length ≤ 1000000 := by
      have : ∀ n < 6, (allLots n).length ≤ 1000000 := by decide +kernel
      exact this w.n (by omega)
    have hit := mComp_of (f := tupN) (i := 7) (it := iSeq (mVar 4)) (cd := mB (mOp2 dLt (.ex (mFn dLen [.sl 7])) (.ex (mLit (.int 4))))) (elt := mVar 7) (fun l => decide (l.length < 4)) tupN (ds := allLots w.n)
      (ρ := [.fz (scrD ns), .own d2, .fz (webD w), .fz (stD s), .fz (.list ((allLots w.n).map tupN)), .fz (.bool wish), .fz (.list []), x7, x8, .no, x10, .no, .no, .no, .no]) (ρ1 := [.fz (scrD ns), .own d2, .fz (webD w), .fz (stD s), .fz (.list ((allLots w.n).map tupN)), .fz (.bool wish), .fz (.list []), x7, x8, .no, x10, .no, .no, .no, .no]) (iSeq_L (by array_get_dec)) ⟨x7, rfl, hx7⟩ (fun l _ => by
        simp only [List.set_cons_zero, List.set_cons_succ]
        have h1 : dLen [tupN l] = some (natD l.length) := len_tupN l
        have h2 : dLt (natD l.length) (.int 4) = some (.bool (decide (l.length < 4))) := lt_nat l.length 4
        array_get_dec) (fun l _ _ => by simp only [List.set_cons_zero, List.set_cons_succ]; array_get_dec) hall
    rw [lots_under w.n (by omega)] at hit
    refine .seq (.forA (f := tupN) (l := (List.range (min (w.n + 1) 4)).flatMap (lotsZ w.n)) (ρ0 := [.fz (scrD ns), .own d2, .fz (webD w), .fz (stD s), .fz (.list ((allLots w.n).map tupN)), .fz (.bool wish), .fz (.list []), x7, x8, .no, x10, .no, .no, .no, .no]) (fun i ρ => ∃ x7 x8, (∀ d, x7 ≠ .own d) ∧ ρ = [.fz (scrD ns), .own d2, .fz (webD w), .fz (stD s), .fz (.list ((allLots w.n).map tupN)), .fz (.bool wish), .fz (.list ((procL (tstB w s wish) (((List.range (min (w.n + 1) 4)).flatMap (lotsZ w.n)).take i) []).map tupN)), x7, x8, .no, x10, .no, .no, .no, .no]) (iSeq_L hit) ⟨x7, x8, hx7, rfl⟩ ?_ ?_)
    · rintro i lot _ hi ⟨x7, x8, hx7, rfl⟩
      simp only [List.set_cons_zero, List.set_cons_succ]
      have hmem := List.mem_of_getElem? hi
      obtain ⟨k, hk, hlot⟩ := List.mem_flatMap.mp hmem
      have hk := List.mem_range.mp hk
      obtain ⟨l1, l2, l3⟩ := mem_lotsZ.mp hlot
      obtain ⟨acc, hacc⟩ : ∃ acc, acc = procL (tstB w s wish) (((List.range (min (w.n + 1) 4)).flatMap (lotsZ w.n)).take i) [] := ⟨_, rfl⟩
      have hon : procL (tstB w s wish) (((List.range (min (w.n + 1) 4)).flatMap (lotsZ w.n)).take (i + 1)) [] = if acc = [] ∨ lot.length = (acc.headD []).length then (if tstB w s wish lot = true then acc ++ [lot] else acc) else acc := by
        rw [take_on hi, proc_app, ← hacc]
        rfl
      have haccl : acc.length ≤ 100000 := by
        have h1 := proc_len (tstB w s wish) (((List.range (min (w.n + 1) 4)).flatMap (lotsZ w.n)).take i) []
        rw [← hacc, List.length_take] at h1
        have h2 : ∀ n < 6, ((List.range (min (n + 1) 4)).flatMap (lotsZ n)).length ≤ 1000 := by decide +kernel
        have := h2 w.n (by omega)
        simp only [List.length_nil] at h1
        omega
      rw [← hacc]
      have hnil := eq_nilL acc
      have hlen1 : dLen [tupN lot] = some (natD lot.length) := len_tupN lot
      have hb : (bOr (mB (mOp2 dEq (.sl 6) (.ex (mLst [])))) (mB (mOp2 dEq (.ex (mFn dLen [.sl 7])) (.ex (mFn dLen [.ex (mOp2 dAt (.sl 6) (.ex (mLit (.int 0))))]))))) [.fz (scrD ns), .own d2, .fz (webD w), .fz (stD s), .fz (.list ((allLots w.n).map tupN)), .fz (.bool wish), .fz (.list (acc.map tupN)), .fz (tupN lot), x8, .no, x10, .no, .no, .no, .no] = .ok (decide (acc = [] ∨ lot.length = (acc.headD []).length)) [.fz (scrD ns), .own d2, .fz (webD w), .fz (stD s), .fz (.list ((allLots w.n).map tupN)), .fz (.bool wish), .fz (.list (acc.map tupN)), .fz (tupN lot), x8, .no, x10, .no, .no, .no, .no] := by
        have hslot : at_ [.fz (scrD ns), .own d2, .fz (webD w), .fz (stD s), .fz (.list ((allLots w.n).map tupN)), .fz (.bool wish), .fz (.list (acc.map tupN)), .fz (tupN lot), x8, .no, x10, .no, .no, .no, .no] 6 = some (.list (acc.map tupN)) := rfl
        cases acc with
        | nil => exact bOr_T (mB_ok (op2_ok (x1 := none) (x2 := some (.list [])) (ev_sl rfl) (ev_ex rfl) rfl rfl hnil))
        | cons a l =>
          have e1 : (decide (a :: l = [] ∨ lot.length = ((a :: l).headD []).length)) = decide (lot.length = a.length) := by
            simp
          rw [e1]
          have e2 : dAt (.list ((a :: l).map tupN)) (.int 0) = some (tupN a) := head_len rfl
          have e3 : dLen [tupN a] = some (natD a.length) := len_tupN a
          have e4 := eq_nat lot.length a.length
          exact bOr_F (mB_ok (op2_ok (x1 := none) (x2 := some (.list [])) (ev_sl rfl) (ev_ex rfl) rfl rfl hnil)) (by array_get_dec)
      rw [hon]
      by_cases hc : acc = [] ∨ lot.length = (acc.headD []).length
      · rw [if_pos hc]
        rw [decide_eq_true hc] at hb
        refine .ifT hb ?_
        have hpe := law_painted_eq (by omega) hs (nodup_of_lt l2) l3
        have hpl : (ptB s lot [s]).length ≤ 1000000 := by
          have h1 := ptB_len lot [s] (s := s)
          rw [l1] at h1
          have h2 : 3 ^ k ≤ 3 ^ 3 := Nat.pow_le_pow_right (by omega) (by omega)
          simp only [List.length_cons, List.length_nil] at h1
          omega
        have hq := mComp_of (f := stD) (i := 9) (it := iSeq (mCall f__law_painted [.v (mVar 3), .v (mVar 7)])) (cd := mB (mOp2 dNe (.ex (mCall f__law_winds [.v (mVar 2), .v (mVar 9)])) (.sl 5))) (elt := mVar 9) (fun t => !decide ((!htsB w t) = wish)) stD (ds := ptB s lot [s])
          (ρ := [.fz (scrD ns), .own d2, .fz (webD w), .fz (stD s), .fz (.list ((allLots w.n).map tupN)), .fz (.bool wish), .fz (.list (acc.map tupN)), .fz (tupN lot), x8, .no, x10, .no, .no, .no, .no]) (ρ1 := [.fz (scrD ns), .own d2, .fz (webD w), .fz (stD s), .fz (.list ((allLots w.n).map tupN)), .fz (.bool wish), .fz (.list (acc.map tupN)), .fz (tupN lot), x8, .no, x10, .no, .no, .no, .no]) (iSeq_L (by array_get_dec)) (.no rfl) (fun t ht => by
            simp only [List.set_cons_zero, List.set_cons_succ]
            obtain ⟨o, ho, hp⟩ := (mem_ptB (nodup_of_lt l2) l3 (fun o ho => by rw [List.mem_singleton.mp ho]; exact ⟨hs, fun _ _ => rfl⟩)).mp ht
            have h1 := law_winds_eq hw (by omega) hp.st
            have h2 := ne_boolB (!htsB w t) wish
            array_get_dec) (fun t _ _ => by simp only [List.set_cons_zero, List.set_cons_succ]; array_get_dec) hpl
        refine .seq (.own hq ?_)
        simp only [List.set_cons_zero, List.set_cons_succ]
        have hne : dNe (.list (((ptB s lot [s]).filter (fun t => !decide ((!htsB w t) = wish))).map stD)) (.list []) = some (.bool (tstB w s wish lot)) := by
          rw [ne_nilG (okSts _), List.isEmpty_map, tst_B hs hlot, Bool.not_not]
        cases ht : tstB w s wish lot with
        | true =>
          rw [ht] at hne
          rw [if_pos rfl]
          have hadd : dAdd (.list (acc.map tupN)) (.list [tupN lot]) = some (.list ((acc ++ [lot]).map tupN)) := by
            rw [List.map_append]
            exact if_pos (by rw [List.length_map]; show acc.length + 1 ≤ _; unfold sizeLine; omega)
          have hslot : at_ [.fz (scrD ns), .own d2, .fz (webD w), .fz (stD s), .fz (.list ((allLots w.n).map tupN)), .fz (.bool wish), .fz (.list (acc.map tupN)), .fz (tupN lot), .own (.list (((ptB s lot [s]).filter (fun t => !decide ((!htsB w t) = wish))).map stD)), .no, x10, .no, .no, .no, .no] 6 = some (.list (acc.map tupN)) := rfl
          refine .set' (op2_ok (x1 := none) (x2 := some (.list [tupN lot])) (ev_sl rfl) (ev_ex (mIf_t (mB_ok (op2_ok (x1 := none) (x2 := some (.list [])) (ev_sl rfl) (ev_ex rfl) rfl rfl hne)) (by array_get_dec))) rfl rfl hadd) ⟨_, _, ?_, rfl⟩
          exact fun _ z => by cases z
        | false =>
          rw [ht] at hne
          rw [if_neg Bool.false_ne_true]
          have hadd : dAdd (.list (acc.map tupN)) (.list []) = some (.list (acc.map tupN)) := by
            have : dAdd (.list (acc.map tupN)) (.list []) = some (.list (acc.map tupN ++ [])) := if_pos (by rw [List.length_map]; show acc.length + 0 ≤ _; unfold sizeLine; omega)
            rw [List.append_nil] at this
            exact this
          refine .set' (op2_ok (x1 := none) (x2 := some (.list [])) (ev_sl rfl) (ev_ex (mIf_f (mB_ok (op2_ok (x1 := none) (x2 := some (.list [])) (ev_sl rfl) (ev_ex rfl) rfl rfl hne)) rfl)) rfl rfl hadd) ⟨_, _, ?_, rfl⟩
          exact fun _ z => by cases z
      · rw [if_neg hc]
        rw [decide_eq_false hc] at hb
        exact .ifF hb (.nil ⟨_, _, (fun _ z => by cases z), rfl⟩)
    rintro _ ⟨x7, x8, hx7, rfl⟩
    rw [List.take_length, hP]
    have htold : mIf (mB (mVar 5)) (mCall f_calmed [.v (mVar 2), .v (mVar 3)]) (mCall f_stirring [.v (mVar 2), .v (mVar 3)]) [.fz (scrD ns), .own d2, .fz (webD w), .fz (stD s), .fz (.list ((allLots w.n).map tupN)), .fz (.bool wish), .fz (.list (P.map tupN)), x7, x8, .no, x10, .no, .no, .no, .no] = .ok (.tuple (P.map tupN)) [.fz (scrD ns), .own d2, .fz (webD w), .fz (stD s), .fz (.list ((allLots w.n).map tupN)), .fz (.bool wish), .fz (.list (P.map tupN)), x7, x8, .no, x10, .no, .no, .no, .no] := by
      cases wish with
      | true =>
        rw [if_pos rfl] at hcall
        exact mIf_t (by array_get_dec) (by array_get_dec)
      | false =>
        rw [if_neg Bool.false_ne_true] at hcall
        exact mIf_f (by array_get_dec) (by array_get_dec)
    refine .seq (.set' htold ?_)
    simp only [List.set_cons_zero, List.set_cons_succ]
    have hal := alike_self (alk_lots hPa hPl 47)
    refine .seq (.ifF (bNot_F (by array_get_dec)) (.nil ?_))
    have hfin : (bOr (bAnd (mB (mVar 5)) (mB (mOp2 dGt (.ex (mOp2 dMul (.ex (mFn dLen [.ex (mOp2 dAt (.sl 6) (.ex (mLit (.int 0))))])) (.ex (mLit (.int 3))))) (.ex (mOp2 dAt (.sl 2) (.ex (mLit (.int 0)))))))) (bAnd (bNot (mB (mVar 5))) (bAnd (mB (mOp2 dNe (.sl 6) (.ex (mLst [])))) (mB (mOp2 dGt (.ex (mFn dLen [.ex (mOp2 dAt (.sl 6) (.ex (mLit (.int 0))))])) (.ex (mLit (.int 2)))))))) [.fz (scrD ns), .own d2, .fz (webD w), .fz (stD s), .fz (.list ((allLots w.n).map tupN)), .fz (.bool wish), .fz (.list (P.map tupN)), x7, x8, .no, .fz (.tuple (P.map tupN)), .no, .no, .no, .no] = .ok false [.fz (scrD ns), .own d2, .fz (webD w), .fz (stD s), .fz (.list ((allLots w.n).map tupN)), .fz (.bool wish), .fz (.list (P.map tupN)), x7, x8, .no, .fz (.tuple (P.map tupN)), .no, .no, .no, .no] := by
      cases wish with
      | true =>
        obtain ⟨a, l, rfl, h3⟩ := hPt rfl
        have e1 : dAt (.list ((a :: l).map tupN)) (.int 0) = some (tupN a) := head_len rfl
        have e2 : dLen [tupN a] = some (natD a.length) := len_tupN a
        have e3 : dMul (natD a.length) (.int 3) = some (natD (a.length * 3)) := mulI a.length 3 (by omega) (by omega)
        have e4 : dGt (natD (a.length * 3)) (natD w.n) = some (.bool false) := by rw [gt_nat, decide_eq_false (by omega)]
        refine bOr_F (bAnd_T (by array_get_dec) (by array_get_dec)) (bAnd_F (bNot_F (by array_get_dec)))
      | false =>
        refine bOr_F (bAnd_F (by array_get_dec)) (bAnd_T (bNot_T (by array_get_dec)) ?_)
        have hne := ne_nilLL P
        cases P with
        | nil => exact bAnd_F (mB_ok (op2_ok (x1 := none) (x2 := some (.list [])) (ev_sl rfl) (ev_ex rfl) rfl rfl hne))
        | cons a l =>
          obtain ⟨a, l, e, h3⟩ := hPf rfl (by simp)
          cases e
          have e1 : dAt (.list ((a :: l).map tupN)) (.int 0) = some (tupN a) := head_len rfl
          have e2 : dLen [tupN a] = some (natD a.length) := len_tupN a
          have e4 : dGt (natD a.length) (.int 2) = some (.bool false) := by rw [gt_nat2, decide_eq_false (by omega)]
          exact bAnd_T (mB_ok (op2_ok (x1 := none) (x2 := some (.list [])) (ev_sl rfl) (ev_ex rfl) rfl rfl hne)) (by array_get_dec)
    exact .ifF hfin (.nil ⟨_, _, _, _, _, hx7, rfl⟩)
  rintro _ ⟨x5, x6, x7, x8, x10, hx7, rfl⟩
  obtain ⟨rs, hrs, hR⟩ := law_rings_eq hw (by omega)
  have q1 := eq_nilT R
  have q2 := eq_nilL rs
  rw [hRn] at q1
  rw [rings_nil hR] at q2
  have q3 : dNe (.bool (!ringB w)) (.bool (!ringB w)) = some (.bool false) := by rw [ne_boolB, decide_eq_true rfl]; rfl
  refine .seq (.ifF (mB_ok (op2_ok (x1 := some (.bool (!ringB w))) (x2 := some (.bool (!ringB w))) (ev_ex (op2_ok (x1 := some (.tuple (R.map tupN))) (x2 := some (.tuple [])) (ev_ex (by array_get_dec)) (ev_ex rfl) rfl rfl q1)) (ev_ex (op2_ok (x1 := some (.list (rs.map tupN))) (x2 := some (.list [])) (ev_ex (by array_get_dec)) (ev_ex rfl) rfl rfl q2)) rfl rfl q3)) (.nil ?_))
  -- a ring of its own
  obtain ⟨x, d3, e3, v0, v1, r3⟩ := taken r2 (m := 8) (by omega) (by omega)
  obtain ⟨v, rfl⟩ : ∃ i : Nat, x = i := ⟨x.toNat, by omega⟩
  have e3' : f__law_taken [.own d2, .fz (.int 8)] = .ok (natD v) [d3] := e3
  obtain ⟨N, hN⟩ : ∃ N, N = 3 + v := ⟨_, rfl⟩
  have h3 : 3 ≤ N := by omega
  have h10 : N ≤ 10 := by omega
  have a1 : dAdd (.int 3) (natD v) = some (natD N) := by rw [hN]; exact add_natN 3 v
  refine .seq (.set' (d := natD N) (ρ' := [.fz (scrD ns), .own d3, .fz (webD w), .fz (stD s), .fz (.list ((allLots w.n).map tupN)), x5, x6, x7, x8, .no, x10, .no, .no, .no, .no]) (by array_get_dec) ?_)
  simp only [List.set_cons_zero, List.set_cons_succ]
  have s1 : dSub (natD N) (.int 1) = some (natD (N - 1)) := sub_nat1 (by omega)
  have hq := comp_all (f := natD) (i := 13) (it := iRng fR1 [.ex (mOp2 dSub (.sl 11) (.ex (mLit (.int 1))))]) (elt := mTup [mVar 13, mOp2 dAdd (.sl 13) (.ex (mLit (.int 1)))]) (fun k => pairN (k, k + 1)) (ds := List.range (N - 1))
    (ρ := [.fz (scrD ns), .own d3, .fz (webD w), .fz (stD s), .fz (.list ((allLots w.n).map tupN)), x5, x6, x7, x8, .no, x10, .fz (natD N), .no, .no, .no]) (ρ1 := [.fz (scrD ns), .own d3, .fz (webD w), .fz (stD s), .fz (.list ((allLots w.n).map tupN)), x5, x6, x7, x8, .no, x10, .fz (natD N), .no, .no, .no]) (rng_nat (xs := [some (natD (N - 1))]) (evo_cons (ev_ex (by array_get_dec)) evo_nil) rfl (by omega)) (.no rfl) (fun k _ => by
      simp only [List.set_cons_zero, List.set_cons_succ]
      have g1 := add_nat1 k
      show _ = Rs.ok (PyData.tuple [natD k, natD (k + 1)]) _
      array_get_dec) (by rw [List.length_range]; omega)
  have hmap : ((List.range (N - 1)).map fun k => pairN (k, k + 1)) = ((List.range (N - 1)).map fun k => (k, k + 1)).map pairN := by rw [List.map_map]; rfl
  rw [hmap] at hq
  have hcat : dCat (.list (((List.range (N - 1)).map fun k => (k, k + 1)).map pairN)) (.list [.tuple [.int 0, natD (N - 1)]]) = some (.list ((ringEs N).map pairN)) := pairs_cat (a := (List.range (N - 1)).map fun k => (k, k + 1)) (b := [(0, N - 1)]) (by simp; omega)
  have hsort := dSort_pair (ringEs N)
  have hweb : mTup [mVar 11, mFn dTuple [.ex (mFn dSort [.ex (mOp2 dCat (.ex (mComp (iRng fR1 [.ex (mOp2 dSub (.sl 11) (.ex (mLit (.int 1))))]) (tmName 13) (bYes) (mTup [mVar 13, mOp2 dAdd (.sl 13) (.ex (mLit (.int 1)))]) [13])) (.ex (mLst [mTup [mLit (.int 0), mOp2 dSub (.sl 11) (.ex (mLit (.int 1)))]])))])]] [.fz (scrD ns), .own d3, .fz (webD w), .fz (stD s), .fz (.list ((allLots w.n).map tupN)), x5, x6, x7, x8, .no, x10, .fz (natD N), .no, .no, .no] = .ok (webD (ringW N)) [.fz (scrD ns), .own d3, .fz (webD w), .fz (stD s), .fz (.list ((allLots w.n).map tupN)), x5, x6, x7, x8, .no, x10, .fz (natD N), .no, .no, .no] := by
    have hT : mFn dTuple [.ex (mFn dSort [.ex (mOp2 dCat (.ex (mComp (iRng fR1 [.ex (mOp2 dSub (.sl 11) (.ex (mLit (.int 1))))]) (tmName 13) (bYes) (mTup [mVar 13, mOp2 dAdd (.sl 13) (.ex (mLit (.int 1)))]) [13])) (.ex (mLst [mTup [mLit (.int 0), mOp2 dSub (.sl 11) (.ex (mLit (.int 1)))]])))])] [.fz (scrD ns), .own d3, .fz (webD w), .fz (stD s), .fz (.list ((allLots w.n).map tupN)), x5, x6, x7, x8, .no, x10, .fz (natD N), .no, .no, .no] = .ok (.tuple ((sortN (ringEs N)).map pairN)) [.fz (scrD ns), .own d3, .fz (webD w), .fz (stD s), .fz (.list ((allLots w.n).map tupN)), x5, x6, x7, x8, .no, x10, .fz (natD N), .no, .no, .no] := by
      refine mFn_ok (ds := [.list ((sortN (ringEs N)).map pairN)]) (evo_cons (ev_ex (mFn_ok (ds := [.list ((ringEs N).map pairN)]) (evo_cons (ev_ex (op2_ok (x1 := some (.list (((List.range (N - 1)).map fun k => (k, k + 1)).map pairN))) (x2 := some (.list [.tuple [.int 0, natD (N - 1)]])) (ev_ex hq) (ev_ex ?_) rfl rfl hcat)) evo_nil) rfl hsort)) evo_nil) rfl rfl
      array_get_dec
    show _ = Rs.ok (PyData.tuple [natD N, .tuple ((sortN (ringEs N)).map pairN)]) _
    array_get_dec
  refine .seq (.set' hweb ?_)
  simp only [List.set_cons_zero, List.set_cons_succ]
  have hrep : dRepT (.tuple [.int 1]) (natD N) = some (stD (onesL N)) := by
    have h1 : ∀ n : Nat, n < 11 → 3 ≤ n → reps [.int 1] (n : Int) = (onesL n).map PyData.int := by
      intro n _ _
      unfold reps onesL
      rw [List.map_replicate]
      have : ∀ k : Nat, (List.replicate k [PyData.int 1]).flatten = List.replicate k (PyData.int 1) := by
        intro k
        induction k with
        | zero => rfl
        | succ k ih => rw [List.replicate_succ, List.flatten_cons, ih, List.replicate_succ]; rfl
      exact this _
    show (if _ then some (PyData.tuple (reps [.int 1] (N : Int))) else none) = _
    rw [if_pos ⟨by simp, by simp, by omega, by omega⟩, h1 N (by omega) h3]
    rfl
  obtain ⟨l, hst, hll⟩ := ring_stirring h3 h10
  have hca := ring_calmed h3 h10
  have hlen : dLen [.tuple (l.map tupN)] = some (natD N) := by
    show some (PyData.int ((l.map tupN).length : Nat)) = _
    rw [List.length_map, hll]
    rfl
  refine .seq (.set' (d := natD N) (ρ' := [.fz (scrD ns), .own d3, .fz (webD w), .fz (stD s), .fz (.list ((allLots w.n).map tupN)), x5, x6, x7, x8, .no, x10, .fz (natD N), .fz (webD (ringW N)), .no, .no]) (by array_get_dec) ?_)
  simp only [List.set_cons_zero, List.set_cons_succ]
  have hu := eq_unit
  have hnn : dEq (natD N) (natD N) = some (.bool true) := by rw [eq_nat, decide_eq_true rfl]
  refine .ret (d := .bool true) (ρ' := [.fz (scrD ns), .own d3, .fz (webD w), .fz (stD s), .fz (.list ((allLots w.n).map tupN)), x5, x6, x7, x8, .no, x10, .fz (natD N), .fz (webD (ringW N)), .no, .fz (natD N)]) ?_ rfl
  array_get_dec

end MP
set_option autoImplicit false
namespace MP
open PySem PySem.Spec PyProof.Rows L2 LamX
theorem rec__law_alike {P : Program} {w : World} {K : PySem.W.Frag} {mg : Str → Option Value} {base : Heap} {T : List (Addr × Str)} (B : Bs P w K mg) {f : Addr} {fd : FuncData} (F1 : Fun K "_law_alike" "_law_alike" (top 30) f fd) (hm : mg "_law_alike" = some (.ref f)) (hb : Binds K fd ["_law_found", "_law_due"] []) : ∀ k, Cal P w K mg base T "_law_alike" k 2 (f__law_alike k)
  | 0 => ⟨f, fd, ["_law_found", "_law_due"], cal_none rfl, hm, F1.kp, hb⟩
  | k + 1 => ok__law_alike B (rec__law_alike B F1 hm hb k) F1 hm hb
theorem law_mk {l : PySem.W.OpenLaw} {w : World} {K : PySem.W.Frag} {h : Heap} {mg : Str → Option Value} {fa : Addr} (KX : K.In h) (G : h.Ns mainGlobals mg) (hfa : mg "law" = some (.ref fa))
    {f0 f1 f2 f3 f4 f5 f6 f7 f8 f9 f10 f11 f12 f13 f14 f15 f16 f17 f18 f19 f20 f21 f22 f23 f24 f25 f26 f27 f28 f29 co fi_BadWeb ca_BadWeb cc_BadWeb NN_BadWeb e_BadWeb e_BadState tbA : Addr} {oc0 kV0 dc0 pm0 ct0 cd0 oc1 kV1 dc1 pm1 ct1 cd1 oc2 kV2 dc2 pm2 ct2 cd2 oc3 kV3 dc3 pm3 ct3 cd3 oc4 kV4 dc4 pm4 ct4 cd4 oc5 kV5 dc5 pm5 ct5 cd5 oc6 kV6 dc6 pm6 ct6 cd6 oc7 kV7 dc7 pm7 ct7 cd7 oc8 kV8 dc8 pm8 ct8 cd8 oc9 kV9 dc9 pm9 ct9 cd9 oc10 kV10 dc10 pm10 ct10 cd10 oc11 kV11 dc11 pm11 ct11 cd11 oc12 kV12 dc12 pm12 ct12 cd12 oc13 kV13 dc13 pm13 ct13 cd13 oc14 kV14 dc14 pm14 ct14 cd14 oc15 kV15 dc15 pm15 ct15 cd15 oc16 kV16 dc16 pm16 ct16 cd16 oc17 kV17 dc17 pm17 ct17 cd17 oc18 kV18 dc18 pm18 ct18 cd18 oc19 kV19 dc19 pm19 ct19 cd19 oc20 kV20 dc20 pm20 ct20 cd20 oc21 kV21 dc21 pm21 ct21 cd21 oc22 kV22 dc22 pm22 ct22 cd22 oc23 kV23 dc23 pm23 ct23 cd23 oc24 kV24 dc24 pm24 ct24 cd24 oc25 kV25 dc25 pm25 ct25 cd25 oc26 kV26 dc26 pm26 ct26 cd26 oc27 kV27 dc27 pm27 ct27 cd27 oc28 kV28 dc28 pm28 ct28 cd28 oc29 kV29 dc29 pm29 ct29 doc_BadWeb pm_BadWeb ct_BadWeb kV_BadWeb oc_BadWeb ccl_BadWeb cl_BadWeb : Value} {od0 an0 od1 an1 od2 an2 od3 an3 od4 an4 od5 an5 od6 an6 od7 an7 od8 an8 od9 an9 od10 an10 od11 an11 od12 an12 od13 an13 od14 an14 od15 an15 od16 an16 od17 an17 od18 an18 od19 an19 od20 an20 od21 an21 od22 an22 od23 an23 od24 an24 od25 an25 od26 an26 od27 an27 od28 an28 od29 an29 an_BadWeb od_BadWeb cdd_BadWeb cld_BadWeb dd_BadWeb : Option Addr} {sl0 sl1 sl2 sl3 sl4 sl5 sl6 sl7 sl8 sl9 sl10 sl11 sl12 sl13 sl14 sl15 sl16 sl17 sl18 sl19 sl20 sl21 sl22 sl23 sl24 sl25 sl26 sl27 sl28 sl29 osl_BadWeb ccs_BadWeb csl_BadWeb : Array (Option Value)} {t_MOODS t_MOST_FOLK : Tok}
    {vs_BadWeb : Array Value} {file_BadWeb nm_BadWeb q_BadWeb : Str} {tf_BadWeb : Tok} {bs_BadWeb bm_BadWeb sub_BadWeb : List Value} {sn_BadWeb : List Str} {ab_BadWeb : Bool} {col_BadWeb : Option Bool} {k0_BadWeb k1_BadWeb k2_BadWeb k3_BadWeb k5_BadWeb : Option Value}
    (n_BadWeb : PySem.W.nsIn K mainGlobals "BadWeb" = some (some (.ref e_BadWeb)))
    (n_BadState : PySem.W.nsIn K mainGlobals "BadState" = some (some (.ref e_BadState)))
    (a0 : PySem.W.nsIn K mainGlobals "is_number" = some (some (.ref f0)))
    (l0 : K.lookup f0 = some ⟨oc0, od0, .func (PySem.W.fnOf "is_number" "is_number" (defArgs (top 6)) (defBody (top 6)) (defScope (top 6)) .none kV0 dc0 pm0 an0 cd0 ct0), sl0⟩)
    (c0 : PySem.W.codeIn K cd0 "is_number" = true)
    (k0 : PySem.W.keepIn K (.ref f0) = true)
    (a1 : PySem.W.nsIn K mainGlobals "is_street" = some (some (.ref f1)))
    (l1 : K.lookup f1 = some ⟨oc1, od1, .func (PySem.W.fnOf "is_street" "is_street" (defArgs (top 7)) (defBody (top 7)) (defScope (top 7)) .none kV1 dc1 pm1 an1 cd1 ct1), sl1⟩)
    (c1 : PySem.W.codeIn K cd1 "is_street" = true)
    (k1 : PySem.W.keepIn K (.ref f1) = true)
    (a2 : PySem.W.nsIn K mainGlobals "need_web" = some (some (.ref f2)))
    (l2 : K.lookup f2 = some ⟨oc2, od2, .func (PySem.W.fnOf "need_web" "need_web" (defArgs (top 8)) (defBody (top 8)) (defScope (top 8)) .none kV2 dc2 pm2 an2 cd2 ct2), sl2⟩)
    (c2 : PySem.W.codeIn K cd2 "need_web" = true)
    (k2 : PySem.W.keepIn K (.ref f2) = true)
    (a3 : PySem.W.nsIn K mainGlobals "near_lists" = some (some (.ref f3)))
    (l3 : K.lookup f3 = some ⟨oc3, od3, .func (PySem.W.fnOf "near_lists" "near_lists" (defArgs (top 9)) (defBody (top 9)) (defScope (top 9)) .none kV3 dc3 pm3 an3 cd3 ct3), sl3⟩)
    (c3 : PySem.W.codeIn K cd3 "near_lists" = true)
    (k3 : PySem.W.keepIn K (.ref f3) = true)
    (a4 : PySem.W.nsIn K mainGlobals "ways_from" = some (some (.ref f4)))
    (l4 : K.lookup f4 = some ⟨oc4, od4, .func (PySem.W.fnOf "ways_from" "ways_from" (defArgs (top 10)) (defBody (top 10)) (defScope (top 10)) .none kV4 dc4 pm4 an4 cd4 ct4), sl4⟩)
    (c4 : PySem.W.codeIn K cd4 "ways_from" = true)
    (k4 : PySem.W.keepIn K (.ref f4) = true)
    (a5 : PySem.W.nsIn K mainGlobals "parts_of" = some (some (.ref f5)))
    (l5 : K.lookup f5 = some ⟨oc5, od5, .func (PySem.W.fnOf "parts_of" "parts_of" (defArgs (top 11)) (defBody (top 11)) (defScope (top 11)) .none kV5 dc5 pm5 an5 cd5 ct5), sl5⟩)
    (c5 : PySem.W.codeIn K cd5 "parts_of" = true)
    (k5 : PySem.W.keepIn K (.ref f5) = true)
    (a6 : PySem.W.nsIn K mainGlobals "has_ring" = some (some (.ref f6)))
    (l6 : K.lookup f6 = some ⟨oc6, od6, .func (PySem.W.fnOf "has_ring" "has_ring" (defArgs (top 12)) (defBody (top 12)) (defScope (top 12)) .none kV6 dc6 pm6 an6 cd6 ct6), sl6⟩)
    (c6 : PySem.W.codeIn K cd6 "has_ring" = true)
    (k6 : PySem.W.keepIn K (.ref f6) = true)
    (a7 : PySem.W.nsIn K mainGlobals "are_moods" = some (some (.ref f7)))
    (l7 : K.lookup f7 = some ⟨oc7, od7, .func (PySem.W.fnOf "are_moods" "are_moods" (defArgs (top 15)) (defBody (top 15)) (defScope (top 15)) .none kV7 dc7 pm7 an7 cd7 ct7), sl7⟩)
    (c7 : PySem.W.codeIn K cd7 "are_moods" = true)
    (k7 : PySem.W.keepIn K (.ref f7) = true)
    (a8 : PySem.W.nsIn K mainGlobals "need_both" = some (some (.ref f8)))
    (l8 : K.lookup f8 = some ⟨oc8, od8, .func (PySem.W.fnOf "need_both" "need_both" (defArgs (top 16)) (defBody (top 16)) (defScope (top 16)) .none kV8 dc8 pm8 an8 cd8 ct8), sl8⟩)
    (c8 : PySem.W.codeIn K cd8 "need_both" = true)
    (k8 : PySem.W.keepIn K (.ref f8) = true)
    (a9 : PySem.W.nsIn K mainGlobals "step" = some (some (.ref f9)))
    (l9 : K.lookup f9 = some ⟨oc9, od9, .func (PySem.W.fnOf "step" "step" (defArgs (top 17)) (defBody (top 17)) (defScope (top 17)) .none kV9 dc9 pm9 an9 cd9 ct9), sl9⟩)
    (c9 : PySem.W.codeIn K cd9 "step" = true)
    (k9 : PySem.W.keepIn K (.ref f9) = true)
    (a10 : PySem.W.nsIn K mainGlobals "heights_from" = some (some (.ref f10)))
    (l10 : K.lookup f10 = some ⟨oc10, od10, .func (PySem.W.fnOf "heights_from" "heights_from" (defArgs (top 19)) (defBody (top 19)) (defScope (top 19)) .none kV10 dc10 pm10 an10 cd10 ct10), sl10⟩)
    (c10 : PySem.W.codeIn K cd10 "heights_from" = true)
    (k10 : PySem.W.keepIn K (.ref f10) = true)
    (a11 : PySem.W.nsIn K mainGlobals "heights_in" = some (some (.ref f11)))
    (l11 : K.lookup f11 = some ⟨oc11, od11, .func (PySem.W.fnOf "heights_in" "heights_in" (defArgs (top 20)) (defBody (top 20)) (defScope (top 20)) .none kV11 dc11 pm11 an11 cd11 ct11), sl11⟩)
    (c11 : PySem.W.codeIn K cd11 "heights_in" = true)
    (k11 : PySem.W.keepIn K (.ref f11) = true)
    (a12 : PySem.W.nsIn K mainGlobals "lots_of_size" = some (some (.ref f12)))
    (l12 : K.lookup f12 = some ⟨oc12, od12, .func (PySem.W.fnOf "lots_of_size" "lots_of_size" (defArgs (top 22)) (defBody (top 22)) (defScope (top 22)) .none kV12 dc12 pm12 an12 cd12 ct12), sl12⟩)
    (c12 : PySem.W.codeIn K cd12 "lots_of_size" = true)
    (k12 : PySem.W.keepIn K (.ref f12) = true)
    (a13 : PySem.W.nsIn K mainGlobals "painted" = some (some (.ref f13)))
    (l13 : K.lookup f13 = some ⟨oc13, od13, .func (PySem.W.fnOf "painted" "painted" (defArgs (top 23)) (defBody (top 23)) (defScope (top 23)) .none kV13 dc13 pm13 an13 cd13 ct13), sl13⟩)
    (c13 : PySem.W.codeIn K cd13 "painted" = true)
    (k13 : PySem.W.keepIn K (.ref f13) = true)
    (a14 : PySem.W.nsIn K mainGlobals "lots_that" = some (some (.ref f14)))
    (l14 : K.lookup f14 = some ⟨oc14, od14, .func (PySem.W.fnOf "lots_that" "lots_that" (defArgs (top 24)) (defBody (top 24)) (defScope (top 24)) .none kV14 dc14 pm14 an14 cd14 ct14), sl14⟩)
    (c14 : PySem.W.codeIn K cd14 "lots_that" = true)
    (k14 : PySem.W.keepIn K (.ref f14) = true)
    (a15 : PySem.W.nsIn K mainGlobals "fewest" = some (some (.ref f15)))
    (l15 : K.lookup f15 = some ⟨oc15, od15, .func (PySem.W.fnOf "fewest" "fewest" (defArgs (top 25)) (defBody (top 25)) (defScope (top 25)) .none kV15 dc15 pm15 an15 cd15 ct15), sl15⟩)
    (c15 : PySem.W.codeIn K cd15 "fewest" = true)
    (k15 : PySem.W.keepIn K (.ref f15) = true)
    (a16 : PySem.W.nsIn K mainGlobals "calmed" = some (some (.ref f16)))
    (l16 : K.lookup f16 = some ⟨oc16, od16, .func (PySem.W.fnOf "calmed" "calmed" (defArgs (top 26)) (defBody (top 26)) (defScope (top 26)) .none kV16 dc16 pm16 an16 cd16 ct16), sl16⟩)
    (c16 : PySem.W.codeIn K cd16 "calmed" = true)
    (k16 : PySem.W.keepIn K (.ref f16) = true)
    (a17 : PySem.W.nsIn K mainGlobals "stirring" = some (some (.ref f17)))
    (l17 : K.lookup f17 = some ⟨oc17, od17, .func (PySem.W.fnOf "stirring" "stirring" (defArgs (top 27)) (defBody (top 27)) (defScope (top 27)) .none kV17 dc17 pm17 an17 cd17 ct17), sl17⟩)
    (c17 : PySem.W.codeIn K cd17 "stirring" = true)
    (k17 : PySem.W.keepIn K (.ref f17) = true)
    (a18 : PySem.W.nsIn K mainGlobals "_law_taken" = some (some (.ref f18)))
    (l18 : K.lookup f18 = some ⟨oc18, od18, .func (PySem.W.fnOf "_law_taken" "_law_taken" (defArgs (top 29)) (defBody (top 29)) (defScope (top 29)) .none kV18 dc18 pm18 an18 cd18 ct18), sl18⟩)
    (c18 : PySem.W.codeIn K cd18 "_law_taken" = true)
    (k18 : PySem.W.keepIn K (.ref f18) = true)
    (a19 : PySem.W.nsIn K mainGlobals "_law_alike" = some (some (.ref f19)))
    (l19 : K.lookup f19 = some ⟨oc19, od19, .func (PySem.W.fnOf "_law_alike" "_law_alike" (defArgs (top 30)) (defBody (top 30)) (defScope (top 30)) .none kV19 dc19 pm19 an19 cd19 ct19), sl19⟩)
    (c19 : PySem.W.codeIn K cd19 "_law_alike" = true)
    (k19 : PySem.W.keepIn K (.ref f19) = true)
    (a20 : PySem.W.nsIn K mainGlobals "_law_web" = some (some (.ref f20)))
    (l20 : K.lookup f20 = some ⟨oc20, od20, .func (PySem.W.fnOf "_law_web" "_law_web" (defArgs (top 31)) (defBody (top 31)) (defScope (top 31)) .none kV20 dc20 pm20 an20 cd20 ct20), sl20⟩)
    (c20 : PySem.W.codeIn K cd20 "_law_web" = true)
    (k20 : PySem.W.keepIn K (.ref f20) = true)
    (a21 : PySem.W.nsIn K mainGlobals "_law_state" = some (some (.ref f21)))
    (l21 : K.lookup f21 = some ⟨oc21, od21, .func (PySem.W.fnOf "_law_state" "_law_state" (defArgs (top 32)) (defBody (top 32)) (defScope (top 32)) .none kV21 dc21 pm21 an21 cd21 ct21), sl21⟩)
    (c21 : PySem.W.codeIn K cd21 "_law_state" = true)
    (k21 : PySem.W.keepIn K (.ref f21) = true)
    (a22 : PySem.W.nsIn K mainGlobals "_law_near" = some (some (.ref f22)))
    (l22 : K.lookup f22 = some ⟨oc22, od22, .func (PySem.W.fnOf "_law_near" "_law_near" (defArgs (top 33)) (defBody (top 33)) (defScope (top 33)) .none kV22 dc22 pm22 an22 cd22 ct22), sl22⟩)
    (c22 : PySem.W.codeIn K cd22 "_law_near" = true)
    (k22 : PySem.W.keepIn K (.ref f22) = true)
    (a23 : PySem.W.nsIn K mainGlobals "_law_step" = some (some (.ref f23)))
    (l23 : K.lookup f23 = some ⟨oc23, od23, .func (PySem.W.fnOf "_law_step" "_law_step" (defArgs (top 34)) (defBody (top 34)) (defScope (top 34)) .none kV23 dc23 pm23 an23 cd23 ct23), sl23⟩)
    (c23 : PySem.W.codeIn K cd23 "_law_step" = true)
    (k23 : PySem.W.keepIn K (.ref f23) = true)
    (a24 : PySem.W.nsIn K mainGlobals "_law_rings" = some (some (.ref f24)))
    (l24 : K.lookup f24 = some ⟨oc24, od24, .func (PySem.W.fnOf "_law_rings" "_law_rings" (defArgs (top 35)) (defBody (top 35)) (defScope (top 35)) .none kV24 dc24 pm24 an24 cd24 ct24), sl24⟩)
    (c24 : PySem.W.codeIn K cd24 "_law_rings" = true)
    (k24 : PySem.W.keepIn K (.ref f24) = true)
    (a25 : PySem.W.nsIn K mainGlobals "_law_round" = some (some (.ref f25)))
    (l25 : K.lookup f25 = some ⟨oc25, od25, .func (PySem.W.fnOf "_law_round" "_law_round" (defArgs (top 36)) (defBody (top 36)) (defScope (top 36)) .none kV25 dc25 pm25 an25 cd25 ct25), sl25⟩)
    (c25 : PySem.W.codeIn K cd25 "_law_round" = true)
    (k25 : PySem.W.keepIn K (.ref f25) = true)
    (a26 : PySem.W.nsIn K mainGlobals "_law_winds" = some (some (.ref f26)))
    (l26 : K.lookup f26 = some ⟨oc26, od26, .func (PySem.W.fnOf "_law_winds" "_law_winds" (defArgs (top 37)) (defBody (top 37)) (defScope (top 37)) .none kV26 dc26 pm26 an26 cd26 ct26), sl26⟩)
    (c26 : PySem.W.codeIn K cd26 "_law_winds" = true)
    (k26 : PySem.W.keepIn K (.ref f26) = true)
    (a27 : PySem.W.nsIn K mainGlobals "_law_lots" = some (some (.ref f27)))
    (l27 : K.lookup f27 = some ⟨oc27, od27, .func (PySem.W.fnOf "_law_lots" "_law_lots" (defArgs (top 38)) (defBody (top 38)) (defScope (top 38)) .none kV27 dc27 pm27 an27 cd27 ct27), sl27⟩)
    (c27 : PySem.W.codeIn K cd27 "_law_lots" = true)
    (k27 : PySem.W.keepIn K (.ref f27) = true)
    (a28 : PySem.W.nsIn K mainGlobals "_law_painted" = some (some (.ref f28)))
    (l28 : K.lookup f28 = some ⟨oc28, od28, .func (PySem.W.fnOf "_law_painted" "_law_painted" (defArgs (top 39)) (defBody (top 39)) (defScope (top 39)) .none kV28 dc28 pm28 an28 cd28 ct28), sl28⟩)
    (c28 : PySem.W.codeIn K cd28 "_law_painted" = true)
    (k28 : PySem.W.keepIn K (.ref f28) = true)
    (a29 : PySem.W.nsIn K mainGlobals "law" = some (some (.ref f29)))
    (l29 : K.lookup f29 = some ⟨oc29, od29, .func (PySem.W.fnOf "law" "law" (defArgs (top 40)) (defBody (top 40)) (defScope (top 40)) .none kV29 dc29 pm29 an29 (.ref co) ct29), sl29⟩)
    (c29 : PySem.W.codeIn K (.ref co) "law" = true)
    (k29 : PySem.W.keepIn K (.ref f29) = true)
    (x_BadState : PySem.W.excIn K e_BadState vbm "ValueError.__new__" = true)
    (y_BadState : PySem.W.keepIn K (.ref e_BadState) = true)
    (b_BadState : PySem.W.subIn K (.ref e_BadState) (.type "BaseException") = some true)
    (t_BadState : PySem.W.typeIn K (.ref e_BadState) = some (.type "type"))
    (v_MOODS : PySem.W.nsIn K mainGlobals "MOODS" = some (some (.int 3 t_MOODS)))
    (v_MOST_FOLK : PySem.W.nsIn K mainGlobals "MOST_FOLK" = some (some (.int 10 t_MOST_FOLK)))
    (z_all : PySem.W.nsIn K mainGlobals "all" = some none)
    (z_any : PySem.W.nsIn K mainGlobals "any" = some none)
    (z_bool : PySem.W.nsIn K mainGlobals "bool" = some none)
    (z_int : PySem.W.nsIn K mainGlobals "int" = some none)
    (z_isinstance : PySem.W.nsIn K mainGlobals "isinstance" = some none)
    (z_len : PySem.W.nsIn K mainGlobals "len" = some none)
    (z_list : PySem.W.nsIn K mainGlobals "list" = some none)
    (z_max : PySem.W.nsIn K mainGlobals "max" = some none)
    (z_min : PySem.W.nsIn K mainGlobals "min" = some none)
    (z_range : PySem.W.nsIn K mainGlobals "range" = some none)
    (z_sorted : PySem.W.nsIn K mainGlobals "sorted" = some none)
    (z_str : PySem.W.nsIn K mainGlobals "str" = some none)
    (z_sum : PySem.W.nsIn K mainGlobals "sum" = some none)
    (z_tuple : PySem.W.nsIn K mainGlobals "tuple" = some none)
    (hC_BadWeb : K.lookup e_BadWeb = some (excClassObj nm_BadWeb q_BadWeb e_BadWeb NN_BadWeb bs_BadWeb bm_BadWeb true sn_BadWeb sub_BadWeb ab_BadWeb col_BadWeb dd_BadWeb k0_BadWeb k1_BadWeb k2_BadWeb k3_BadWeb k5_BadWeb "ValueError.__new__"))
    (bm1_BadWeb : PySem.HandSPX.refsVE bm_BadWeb = true)
    (sa_BadWeb : PySem.W.findIn K (.ref e_BadWeb) "__setattr__" = some (some (.builtin "object.__setattr__")))
    (b_BadWeb : PySem.W.subIn K (.ref e_BadWeb) (.type "BaseException") = some true)
    (t_BadWeb : PySem.W.typeIn K (.ref e_BadWeb) = some (.type "type"))
    (y_BadWeb : PySem.W.keepIn K (.ref e_BadWeb) = true)
    (iC_BadWeb : PySem.W.findIn K (.ref e_BadWeb) "__init__" = some (some (.ref fi_BadWeb)))
    (tI_BadWeb : PySem.W.typeIn K (.ref fi_BadWeb) = some (.type "function"))
    (lf_BadWeb : K.lookup fi_BadWeb = some ⟨oc_BadWeb, od_BadWeb, .func (PySem.W.fnX "__init__" "BadWeb.__init__" (defArgs (initOf (top 2))) (defBody (initOf (top 2))) (defScope (initOf (top 2))) [("__class__", cc_BadWeb)] .none kV_BadWeb doc_BadWeb pm_BadWeb an_BadWeb (.ref ca_BadWeb) ct_BadWeb), osl_BadWeb⟩)
    (cd_BadWeb : PySem.W.codeIn K (.ref ca_BadWeb) "BadWeb.__init__" = true)
    (lc_BadWeb : K.lookup ca_BadWeb = some ⟨ccl_BadWeb, cdd_BadWeb, .fields vs_BadWeb, ccs_BadWeb⟩)
    (hv_BadWeb : vs_BadWeb[2]? = some (.str file_BadWeb tf_BadWeb))
    (hf_BadWeb : ((l.prog.main.file : Str) == file_BadWeb) = true)
    (ht_BadWeb : (l.prog.main.scope.names.lookup ("super" : Str)).isSome = false)
    (ce_BadWeb : K.lookup cc_BadWeb = some ⟨cl_BadWeb, cld_BadWeb, .cell (some (.ref e_BadWeb)), csl_BadWeb⟩)
    (su_BadWeb : PySem.W.nsIn K mainGlobals "super" = some none)
    (op_BadWeb : PySem.W.nsIn K cStatics "thirdparty.any" = some none)
    (ms_BadWeb : PySem.W.mroIn K e_BadWeb (.ref e_BadWeb) = some true)
    (mv_BadWeb : PySem.W.mroIn K e_BadWeb (.type "ValueError") = some true)
    (ki_BadWeb : PySem.W.ks_superIn K e_BadWeb e_BadWeb "__init__" = some (some (.builtin "ValueError.__init__")))
    (no_BadWeb : PySem.W.findIn K (.ref e_BadWeb) "index" = some none)
    (nP : K.lookup tbA = none)
    (cP : PySem.W.codeHdIn K co tbA = true)
    (hP : h.get? tbA = some { cls := .none, data := .fields #[] })
    : LawAtS l w K (L2.CX l.prog w) 64 63 "_law_script" mg fa h := by
  have e0 := hfa.symm.trans (PySem.W.mg_of KX G a29)
  cases e0
  have B : Bs l.prog w K mg := ⟨⟨e_BadState, PySem.W.mg_of KX G n_BadState, x_BadState, y_BadState, b_BadState, t_BadState⟩, ⟨_, PySem.W.mg_of KX G v_MOODS⟩, ⟨_, PySem.W.mg_of KX G v_MOST_FOLK⟩, PySem.W.mg_none_of KX G z_all, PySem.W.mg_none_of KX G z_any, PySem.W.mg_none_of KX G z_bool, PySem.W.mg_none_of KX G z_int, PySem.W.mg_none_of KX G z_isinstance, PySem.W.mg_none_of KX G z_len, PySem.W.mg_none_of KX G z_list, PySem.W.mg_none_of KX G z_max, PySem.W.mg_none_of KX G z_min, PySem.W.mg_none_of KX G z_range, PySem.W.mg_none_of KX G z_sorted, PySem.W.mg_none_of KX G z_str, PySem.W.mg_none_of KX G z_sum, PySem.W.mg_none_of KX G z_tuple, erf_of (fld := "index") (x := "index") (PySem.W.mg_of KX G n_BadWeb) hC_BadWeb bm1_BadWeb sa_BadWeb b_BadWeb t_BadWeb y_BadWeb iC_BadWeb tI_BadWeb lf_BadWeb cd_BadWeb lc_BadWeb hv_BadWeb hf_BadWeb ht_BadWeb ce_BadWeb (PySem.W.mg_none_of KX G su_BadWeb) op_BadWeb ms_BadWeb mv_BadWeb ki_BadWeb no_BadWeb⟩
  have F0 := fun_mk (st := top 6) l0 c0 k0
  have B0 := F0.binds (ps := ["value", "low", "high"]) fun _ _ _ _ _ _ us hl => match us, hl with | [_, _, _], _ => rfl
  have F1 := fun_mk (st := top 7) l1 c1 k1
  have B1 := F1.binds (ps := ["folk", "value"]) fun _ _ _ _ _ _ us hl => match us, hl with | [_, _], _ => rfl
  have F2 := fun_mk (st := top 8) l2 c2 k2
  have B2 := F2.binds (ps := ["value"]) fun _ _ _ _ _ _ us hl => match us, hl with | [_], _ => rfl
  have F3 := fun_mk (st := top 9) l3 c3 k3
  have B3 := F3.binds (ps := ["web"]) fun _ _ _ _ _ _ us hl => match us, hl with | [_], _ => rfl
  have F4 := fun_mk (st := top 10) l4 c4 k4
  have B4 := F4.binds (ps := ["near", "one"]) fun _ _ _ _ _ _ us hl => match us, hl with | [_, _], _ => rfl
  have F5 := fun_mk (st := top 11) l5 c5 k5
  have B5 := F5.binds (ps := ["web"]) fun _ _ _ _ _ _ us hl => match us, hl with | [_], _ => rfl
  have F6 := fun_mk (st := top 12) l6 c6 k6
  have B6 := F6.binds (ps := ["web"]) fun _ _ _ _ _ _ us hl => match us, hl with | [_], _ => rfl
  have F7 := fun_mk (st := top 15) l7 c7 k7
  have B7 := F7.binds (ps := ["value", "many"]) fun _ _ _ _ _ _ us hl => match us, hl with | [_, _], _ => rfl
  have F8 := fun_mk (st := top 16) l8 c8 k8
  have B8 := F8.binds (ps := ["web", "state"]) fun _ _ _ _ _ _ us hl => match us, hl with | [_, _], _ => rfl
  have F9 := fun_mk (st := top 17) l9 c9 k9
  have B9 := F9.binds (ps := ["state", "one", "other"]) fun _ _ _ _ _ _ us hl => match us, hl with | [_, _, _], _ => rfl
  have F10 := fun_mk (st := top 19) l10 c10 k10
  have B10 := F10.binds (ps := ["near", "state", "one", "found"]) fun _ _ _ _ _ _ us hl => match us, hl with | [_, _, _, _], _ => rfl
  have F11 := fun_mk (st := top 20) l11 c11 k11
  have B11 := F11.binds (ps := ["web", "state"]) fun _ _ _ _ _ _ us hl => match us, hl with | [_, _], _ => rfl
  have F12 := fun_mk (st := top 22) l12 c12 k12
  have B12 := F12.binds (ps := ["many", "size"]) fun _ _ _ _ _ _ us hl => match us, hl with | [_, _], _ => rfl
  have F13 := fun_mk (st := top 23) l13 c13 k13
  have B13 := F13.binds (ps := ["state", "lot"]) fun _ _ _ _ _ _ us hl => match us, hl with | [_, _], _ => rfl
  have F14 := fun_mk (st := top 24) l14 c14 k14
  have B14 := F14.binds (ps := ["web", "state", "size", "is_calm"]) fun _ _ _ _ _ _ us hl => match us, hl with | [_, _, _, _], _ => rfl
  have F15 := fun_mk (st := top 25) l15 c15 k15
  have B15 := F15.binds (ps := ["web", "state", "is_calm"]) fun _ _ _ _ _ _ us hl => match us, hl with | [_, _, _], _ => rfl
  have F16 := fun_mk (st := top 26) l16 c16 k16
  have B16 := F16.binds (ps := ["web", "state"]) fun _ _ _ _ _ _ us hl => match us, hl with | [_, _], _ => rfl
  have F17 := fun_mk (st := top 27) l17 c17 k17
  have B17 := F17.binds (ps := ["web", "state"]) fun _ _ _ _ _ _ us hl => match us, hl with | [_, _], _ => rfl
  have F18 := fun_mk (st := top 29) l18 c18 k18
  have B18 := F18.binds (ps := ["_law_row", "_law_many"]) fun _ _ _ _ _ _ us hl => match us, hl with | [_, _], _ => rfl
  have F19 := fun_mk (st := top 30) l19 c19 k19
  have B19 := F19.binds (ps := ["_law_found", "_law_due"]) fun _ _ _ _ _ _ us hl => match us, hl with | [_, _], _ => rfl
  have F20 := fun_mk (st := top 31) l20 c20 k20
  have B20 := F20.binds (ps := ["_law_row", "_law_most"]) fun _ _ _ _ _ _ us hl => match us, hl with | [_, _], _ => rfl
  have F21 := fun_mk (st := top 32) l21 c21 k21
  have B21 := F21.binds (ps := ["_law_row", "_law_web_here"]) fun _ _ _ _ _ _ us hl => match us, hl with | [_, _], _ => rfl
  have F22 := fun_mk (st := top 33) l22 c22 k22
  have B22 := F22.binds (ps := ["_law_web_here"]) fun _ _ _ _ _ _ us hl => match us, hl with | [_], _ => rfl
  have F23 := fun_mk (st := top 34) l23 c23 k23
  have B23 := F23.binds (ps := ["_law_state_here", "_law_one", "_law_other"]) fun _ _ _ _ _ _ us hl => match us, hl with | [_, _, _], _ => rfl
  have F24 := fun_mk (st := top 35) l24 c24 k24
  have B24 := F24.binds (ps := ["_law_web_here"]) fun _ _ _ _ _ _ us hl => match us, hl with | [_], _ => rfl
  have F25 := fun_mk (st := top 36) l25 c25 k25
  have B25 := F25.binds (ps := ["_law_state_here", "_law_ring"]) fun _ _ _ _ _ _ us hl => match us, hl with | [_, _], _ => rfl
  have F26 := fun_mk (st := top 37) l26 c26 k26
  have B26 := F26.binds (ps := ["_law_web_here", "_law_state_here"]) fun _ _ _ _ _ _ us hl => match us, hl with | [_, _], _ => rfl
  have F27 := fun_mk (st := top 38) l27 c27 k27
  have B27 := F27.binds (ps := ["_law_many"]) fun _ _ _ _ _ _ us hl => match us, hl with | [_], _ => rfl
  have F28 := fun_mk (st := top 39) l28 c28 k28
  have B28 := F28.binds (ps := ["_law_state_here", "_law_lot"]) fun _ _ _ _ _ _ us hl => match us, hl with | [_, _], _ => rfl
  refine ⟨PySem.W.fnOf "law" "law" (defArgs (top 40)) (defBody (top 40)) (defScope (top 40)) .none kV29 dc29 pm29 an29 (.ref co) ct29, [(co, tbA)], spM K [(tbA, (("law" : Str) ++ ".<locals>.") ++ "<lambda>")] mg 1 f_law, ?_, ?_, ?_, fun s v => .of_eq rfl, fun H a ns hl hb hT hS => law_sp ?_ hS (law_true ns hl hb), fun base KB GB TB => ?_⟩
  · intro p hp; rw [List.mem_singleton.mp hp]; exact hP
  · intro p hp; rw [List.mem_singleton.mp hp]; exact nP
  · intro p hp; rw [List.mem_singleton.mp hp]; exact PySem.W.codeHd_of_K KX cP
  · intro t ht; rw [List.mem_singleton.mp ht]; exact hT (co, tbA) List.mem_cons_self
  · have C0 := ok_is_number (P := l.prog) (w := w) (base := base) (T := [(tbA, (("law" : Str) ++ ".<locals>.") ++ "<lambda>")]) B  F0 (PySem.W.mg_of KX G a0) B0
    have C1 := ok_is_street (P := l.prog) (w := w) (base := base) (T := [(tbA, (("law" : Str) ++ ".<locals>.") ++ "<lambda>")]) B C0 F1 (PySem.W.mg_of KX G a1) B1
    have C2 := ok_need_web (P := l.prog) (w := w) (base := base) (T := [(tbA, (("law" : Str) ++ ".<locals>.") ++ "<lambda>")]) B C0 C1 F2 (PySem.W.mg_of KX G a2) B2
    have C3 := ok_near_lists (P := l.prog) (w := w) (base := base) (T := [(tbA, (("law" : Str) ++ ".<locals>.") ++ "<lambda>")]) B  F3 (PySem.W.mg_of KX G a3) B3
    have C4 := ok_ways_from (P := l.prog) (w := w) (base := base) (T := [(tbA, (("law" : Str) ++ ".<locals>.") ++ "<lambda>")]) B  F4 (PySem.W.mg_of KX G a4) B4
    have C5 := ok_parts_of (P := l.prog) (w := w) (base := base) (T := [(tbA, (("law" : Str) ++ ".<locals>.") ++ "<lambda>")]) B C3 C4 F5 (PySem.W.mg_of KX G a5) B5
    have C6 := ok_has_ring (P := l.prog) (w := w) (base := base) (T := [(tbA, (("law" : Str) ++ ".<locals>.") ++ "<lambda>")]) B C5 F6 (PySem.W.mg_of KX G a6) B6
    have C7 := ok_are_moods (P := l.prog) (w := w) (base := base) (T := [(tbA, (("law" : Str) ++ ".<locals>.") ++ "<lambda>")]) B C0 F7 (PySem.W.mg_of KX G a7) B7
    have C8 := ok_need_both (P := l.prog) (w := w) (base := base) (T := [(tbA, (("law" : Str) ++ ".<locals>.") ++ "<lambda>")]) B C2 C7 F8 (PySem.W.mg_of KX G a8) B8
    have C9 := ok_step (P := l.prog) (w := w) (base := base) (T := [(tbA, (("law" : Str) ++ ".<locals>.") ++ "<lambda>")]) B  F9 (PySem.W.mg_of KX G a9) B9
    have C10 := ok_heights_from (P := l.prog) (w := w) (base := base) (T := [(tbA, (("law" : Str) ++ ".<locals>.") ++ "<lambda>")]) B C9 F10 (PySem.W.mg_of KX G a10) B10
    have C11 := ok_heights_in (P := l.prog) (w := w) (base := base) (T := [(tbA, (("law" : Str) ++ ".<locals>.") ++ "<lambda>")]) B C3 C5 C10 F11 (PySem.W.mg_of KX G a11) B11
    have C12 := ok_lots_of_size (P := l.prog) (w := w) (base := base) (T := [(tbA, (("law" : Str) ++ ".<locals>.") ++ "<lambda>")]) B  F12 (PySem.W.mg_of KX G a12) B12
    have C13 := ok_painted (P := l.prog) (w := w) (base := base) (T := [(tbA, (("law" : Str) ++ ".<locals>.") ++ "<lambda>")]) B  F13 (PySem.W.mg_of KX G a13) B13
    have C14 := ok_lots_that (P := l.prog) (w := w) (base := base) (T := [(tbA, (("law" : Str) ++ ".<locals>.") ++ "<lambda>")]) B C11 C12 C13 F14 (PySem.W.mg_of KX G a14) B14
    have C15 := ok_fewest (P := l.prog) (w := w) (base := base) (T := [(tbA, (("law" : Str) ++ ".<locals>.") ++ "<lambda>")]) B C14 F15 (PySem.W.mg_of KX G a15) B15
    have C16 := ok_calmed (P := l.prog) (w := w) (base := base) (T := [(tbA, (("law" : Str) ++ ".<locals>.") ++ "<lambda>")]) B C8 C15 F16 (PySem.W.mg_of KX G a16) B16
    have C17 := ok_stirring (P := l.prog) (w := w) (base := base) (T := [(tbA, (("law" : Str) ++ ".<locals>.") ++ "<lambda>")]) B C6 C8 C15 F17 (PySem.W.mg_of KX G a17) B17
    have C18 := ok__law_taken (P := l.prog) (w := w) (base := base) (T := [(tbA, (("law" : Str) ++ ".<locals>.") ++ "<lambda>")]) B  F18 (PySem.W.mg_of KX G a18) B18
    have C19 := (rec__law_alike (P := l.prog) (w := w) (base := base) (T := [(tbA, (("law" : Str) ++ ".<locals>.") ++ "<lambda>")]) B F19 (PySem.W.mg_of KX G a19) B19 50).mono (j := 61) (by decide)
    have C20 := ok__law_web (P := l.prog) (w := w) (base := base) (T := [(tbA, (("law" : Str) ++ ".<locals>.") ++ "<lambda>")]) B C18 F20 (PySem.W.mg_of KX G a20) B20
    have C21 := ok__law_state (P := l.prog) (w := w) (base := base) (T := [(tbA, (("law" : Str) ++ ".<locals>.") ++ "<lambda>")]) B C18 F21 (PySem.W.mg_of KX G a21) B21
    have C22 := ok__law_near (P := l.prog) (w := w) (base := base) (T := [(tbA, (("law" : Str) ++ ".<locals>.") ++ "<lambda>")]) B  F22 (PySem.W.mg_of KX G a22) B22
    have C23 := ok__law_step (P := l.prog) (w := w) (base := base) (T := [(tbA, (("law" : Str) ++ ".<locals>.") ++ "<lambda>")]) B  F23 (PySem.W.mg_of KX G a23) B23
    have C24 := ok__law_rings (P := l.prog) (w := w) (base := base) (T := [(tbA, (("law" : Str) ++ ".<locals>.") ++ "<lambda>")]) B C22 F24 (PySem.W.mg_of KX G a24) B24
    have C25 := ok__law_round (P := l.prog) (w := w) (base := base) (T := [(tbA, (("law" : Str) ++ ".<locals>.") ++ "<lambda>")]) B C23 F25 (PySem.W.mg_of KX G a25) B25
    have C26 := ok__law_winds (P := l.prog) (w := w) (base := base) (T := [(tbA, (("law" : Str) ++ ".<locals>.") ++ "<lambda>")]) B C24 C25 F26 (PySem.W.mg_of KX G a26) B26
    have C27 := ok__law_lots (P := l.prog) (w := w) (base := base) (T := [(tbA, (("law" : Str) ++ ".<locals>.") ++ "<lambda>")]) B  F27 (PySem.W.mg_of KX G a27) B27
    have C28 := ok__law_painted (P := l.prog) (w := w) (base := base) (T := [(tbA, (("law" : Str) ++ ".<locals>.") ++ "<lambda>")]) B  F28 (PySem.W.mg_of KX G a28) B28
    exact ok_law B C16 C17 C18 C19 C20 C21 C24 C26 C27 C28 (TB (co, tbA) List.mem_cons_self) l29 c29 k29
end MP
open PySem PySem.W PyProof.Rows
set_option maxHeartbeats 0 in
theorem PySem.Challenge.cw_threemoods_k15_whole_few_folk_holds : PySem.Challenge.rw_threemoods_k15_whole_few_folk.Holds := by
  w_on; o_law; k_head; (case hw => w_witness2)
  k_fill
  refine LamX.walk_ofTs (l := PySem.Challenge.rw_threemoods_k15_whole_few_folk) (n := 63) (k := 64) (x := "_law_script") (CX := fun w => L2.CX PySem.Challenge.rw_threemoods_k15_whole_few_folk.prog w) rfl (by decide) rfl ⟨rfl, by decide, by decide⟩ (fun w h Y => PySem.W.km_in_of Y) ?F (fun _ _ _ _ _ h => MP.cx_no h)
  case F =>
    intro w mg fa h Y KX G hmg
    refine' MP.law_mk KX G hmg ?n_BadWeb ?n_BadState ?a0 ?l0 ?c0 ?k0 ?a1 ?l1 ?c1 ?k1 ?a2 ?l2 ?c2 ?k2 ?a3 ?l3 ?c3 ?k3 ?a4 ?l4 ?c4 ?k4 ?a5 ?l5 ?c5 ?k5 ?a6 ?l6 ?c6 ?k6 ?a7 ?l7 ?c7 ?k7 ?a8 ?l8 ?c8 ?k8 ?a9 ?l9 ?c9 ?k9 ?a10 ?l10 ?c10 ?k10 ?a11 ?l11 ?c11 ?k11 ?a12 ?l12 ?c12 ?k12 ?a13 ?l13 ?c13 ?k13 ?a14 ?l14 ?c14 ?k14 ?a15 ?l15 ?c15 ?k15 ?a16 ?l16 ?c16 ?k16 ?a17 ?l17 ?c17 ?k17 ?a18 ?l18 ?c18 ?k18 ?a19 ?l19 ?c19 ?k19 ?a20 ?l20 ?c20 ?k20 ?a21 ?l21 ?c21 ?k21 ?a22 ?l22 ?c22 ?k22 ?a23 ?l23 ?c23 ?k23 ?a24 ?l24 ?c24 ?k24 ?a25 ?l25 ?c25 ?k25 ?a26 ?l26 ?c26 ?k26 ?a27 ?l27 ?c27 ?k27 ?a28 ?l28 ?c28 ?k28 ?a29 ?l29 ?c29 ?k29 ?x_BadState ?y_BadState ?b_BadState ?t_BadState ?v_MOODS ?v_MOST_FOLK ?z_all ?z_any ?z_bool ?z_int ?z_isinstance ?z_len ?z_list ?z_max ?z_min ?z_range ?z_sorted ?z_str ?z_sum ?z_tuple ?hC_BadWeb ?bm1_BadWeb ?sa_BadWeb ?b_BadWeb ?t_BadWeb ?y_BadWeb ?iC_BadWeb ?tI_BadWeb ?lf_BadWeb ?cd_BadWeb ?lc_BadWeb ?hv_BadWeb ?hf_BadWeb ?ht_BadWeb ?ce_BadWeb ?su_BadWeb ?op_BadWeb ?ms_BadWeb ?mv_BadWeb ?ki_BadWeb ?no_BadWeb ?nP ?cP ?hP
    (case hP => exact PySem.W.km_tabs_of Y _ List.mem_cons_self)
    (case n_BadWeb => k_is)
    (case n_BadState => k_is)
    (case a0 => k_is)
    (case l0 => k_is)
    (case c0 => k_is)
    (case k0 => k_is)
    (case a1 => k_is)
    (case l1 => k_is)
    (case c1 => k_is)
    (case k1 => k_is)
    (case a2 => k_is)
    (case l2 => k_is)
    (case c2 => k_is)
    (case k2 => k_is)
    (case a3 => k_is)
    (case l3 => k_is)
    (case c3 => k_is)
    (case k3 => k_is)
    (case a4 => k_is)
    (case l4 => k_is)
    (case c4 => k_is)
    (case k4 => k_is)
    (case a5 => k_is)
    (case l5 => k_is)
    (case c5 => k_is)
    (case k5 => k_is)
    (case a6 => k_is)
    (case l6 => k_is)
    (case c6 => k_is)
    (case k6 => k_is)
    (case a7 => k_is)
    (case l7 => k_is)
    (case c7 => k_is)
    (case k7 => k_is)
    (case a8 => k_is)
    (case l8 => k_is)
    (case c8 => k_is)
    (case k8 => k_is)
    (case a9 => k_is)
    (case l9 => k_is)
    (case c9 => k_is)
    (case k9 => k_is)
    (case a10 => k_is)
    (case l10 => k_is)
    (case c10 => k_is)
    (case k10 => k_is)
    (case a11 => k_is)
    (case l11 => k_is)
    (case c11 => k_is)
    (case k11 => k_is)
    (case a12 => k_is)
    (case l12 => k_is)
    (case c12 => k_is)
    (case k12 => k_is)
    (case a13 => k_is)
    (case l13 => k_is)
    (case c13 => k_is)
    (case k13 => k_is)
    (case a14 => k_is)
    (case l14 => k_is)
    (case c14 => k_is)
    (case k14 => k_is)
    (case a15 => k_is)
    (case l15 => k_is)
    (case c15 => k_is)
    (case k15 => k_is)
    (case a16 => k_is)
    (case l16 => k_is)
    (case c16 => k_is)
    (case k16 => k_is)
    (case a17 => k_is)
    (case l17 => k_is)
    (case c17 => k_is)
    (case k17 => k_is)
    (case a18 => k_is)
    (case l18 => k_is)
    (case c18 => k_is)
    (case k18 => k_is)
    (case a19 => k_is)
    (case l19 => k_is)
    (case c19 => k_is)
    (case k19 => k_is)
    (case a20 => k_is)
    (case l20 => k_is)
    (case c20 => k_is)
    (case k20 => k_is)
    (case a21 => k_is)
    (case l21 => k_is)
    (case c21 => k_is)
    (case k21 => k_is)
    (case a22 => k_is)
    (case l22 => k_is)
    (case c22 => k_is)
    (case k22 => k_is)
    (case a23 => k_is)
    (case l23 => k_is)
    (case c23 => k_is)
    (case k23 => k_is)
    (case a24 => k_is)
    (case l24 => k_is)
    (case c24 => k_is)
    (case k24 => k_is)
    (case a25 => k_is)
    (case l25 => k_is)
    (case c25 => k_is)
    (case k25 => k_is)
    (case a26 => k_is)
    (case l26 => k_is)
    (case c26 => k_is)
    (case k26 => k_is)
    (case a27 => k_is)
    (case l27 => k_is)
    (case c27 => k_is)
    (case k27 => k_is)
    (case a28 => k_is)
    (case l28 => k_is)
    (case c28 => k_is)
    (case k28 => k_is)
    (case a29 => k_is)
    (case l29 => k_is)
    (case c29 => k_is)
    (case k29 => k_is)
    (case x_BadState => k_exc)
    (case y_BadState => k_is)
    (case b_BadState => k_is)
    (case t_BadState => k_is)
    (case v_MOODS => k_is)
    (case v_MOST_FOLK => k_is)
    (case z_all => k_is)
    (case z_any => k_is)
    (case z_bool => k_is)
    (case z_int => k_is)
    (case z_isinstance => k_is)
    (case z_len => k_is)
    (case z_list => k_is)
    (case z_max => k_is)
    (case z_min => k_is)
    (case z_range => k_is)
    (case z_sorted => k_is)
    (case z_str => k_is)
    (case z_sum => k_is)
    (case z_tuple => k_is)
    (case hC_BadWeb => k_is)
    (case bm1_BadWeb => kernel_rfl)
    (case sa_BadWeb => k_is)
    (case b_BadWeb => k_is)
    (case t_BadWeb => k_is)
    (case y_BadWeb => k_is)
    (case iC_BadWeb => k_is)
    (case tI_BadWeb => k_is)
    (case lf_BadWeb => k_is)
    (case cd_BadWeb => k_is)
    (case lc_BadWeb => k_is)
    (case hv_BadWeb => rfl)
    (case hf_BadWeb => kernel_rfl)
    (case ht_BadWeb => kernel_rfl)
    (case ce_BadWeb => k_is)
    (case su_BadWeb => k_is)
    (case op_BadWeb => k_is)
    (case ms_BadWeb => k_is)
    (case mv_BadWeb => k_is)
    (case ki_BadWeb => kernel_rfl)
    (case no_BadWeb => k_is)
    (case nP => kernel_rfl)
    (case cP => kernel_rfl)
#print axioms PySem.Challenge.cw_threemoods_k15_whole_few_folk_holds
