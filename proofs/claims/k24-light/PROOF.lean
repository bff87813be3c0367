import PyProof.Rows.All
import Wide.All
import OpenK.AllK
import Wide.FinOn
import HandS.EndTab
import HandS.ForMost
import HandS.ForExc
import HandS.Wide
import HandS.IsInst
import HandS.Deep
import HandS.SortInts
import HandS.TupAny
import HandS.Lambda
import HandS.Small
import HandS.Style
import HandS.ExcIs
import HandS.TupLe
import HandS.TupMul
import HandS.Conv
import HandS.SortRule
import HandS.ExcField
import HandS.SetFor
import KE.GoesEnum
import KE.KDflt
import KE.KDictDisplayH
import HandS.TupSets
import KE.SortData
import HandS.ExcInit
import HandS.Nested
import KE.KExcSuper
import HandS.Strs
import HandS.Iter
import HandS.Text
import HandS.DictComp
import PySem.Challenge.RW_threemoods_k24_across_light
set_option Elab.async false
set_option linter.all false
set_option maxHeartbeats 4000000
set_option maxRecDepth 100000
set_option autoImplicit true
namespace MP
open PySem PySem.Spec PyProof.Rows L2
abbrev D := PyData
def keyD : Key → D
  | .inl i => .int i
  | .inr x => .str x
mutual
def Rp (K : PySem.W.Frag) (G : Hp) : D → V → Prop
  | .none, v => v = .non
  | .bool b, v => v = .bl b
  | .int i, v => v = .int i
  | .str x, v => v = .str x
  | .list ds, v => ∃ a xs, v = .ref a ∧ G a = some (.lst xs) ∧ RpL K G ds xs
  | .tuple ds, v => ∃ a xs, v = .ref a ∧ G a = some (.tup xs) ∧ RpL K G ds xs
  | .dict kvs, v => ∃ a, v = .ref a ∧ ((∃ es, G a = some (.dK es) ∧ RpK K G kvs es) ∨ (∃ es, G a = some (.dT es) ∧ RpT K G kvs es) ∨ ∃ ns : List Int, kvs = [(.none, .list (ns.map PyData.int))] ∧ SqL K G a (ns.map V.int))
def RpL (K : PySem.W.Frag) (G : Hp) : List D → List V → Prop
  | [], vs => vs = []
  | d :: ds, vs => ∃ v r, vs = v :: r ∧ Rp K G d v ∧ RpL K G ds r
def RpK (K : PySem.W.Frag) (G : Hp) : List (D × D) → List (Key × V) → Prop
  | [], es => es = []
  | (k, d) :: ds, es => ∃ x v r, es = (x, v) :: r ∧ k = keyD x ∧ Rp K G d v ∧ RpK K G ds r
def RpT (K : PySem.W.Frag) (G : Hp) : List (D × D) → List (List Key × V) → Prop
  | [], es => es = []
  | (k, d) :: ds, es => ∃ xs v r, es = (xs, v) :: r ∧ k = .tuple (xs.map keyD) ∧ Rp K G d v ∧ RpT K G ds r
end
def isD : HO → Bool
  | .dK es => !es.isEmpty
  | .dT es => !es.isEmpty
  | _ => false
/-- what G tells, H tells; a dict may be locked -/
def Sub (G H : Hp) : Prop := (∀ a u, G a = some u → H a = some u ∨ (isD u = true ∧ ∃ o, H a = some (.frz o u))) ∧ ∀ a ps, G a ≠ some (.tbl ps)
theorem NoT.upd {G : Hp} {p : Addr} {o : HO} (n : ∀ a ps, G a ≠ some (.tbl ps)) (h : ∀ ps, o ≠ .tbl ps) : ∀ a ps, L2.upd G p o a ≠ some (.tbl ps) := fun a ps e => by
  by_cases z : a = p
  · rw [z, upd_same] at e
    exact h ps (Option.some.inj e)
  · rw [upd_ne z] at e
    exact n a ps e
def GLe (G G' : Hp) : Prop := ∀ a u, G a = some u → G' a = some u
theorem GLe.refl (G : Hp) : GLe G G := fun _ _ h => h
theorem GLe.trans {G H J : Hp} (a : GLe G H) (b : GLe H J) : GLe G J := fun x u h => b x u (a x u h)
theorem Sub.rd {G H : Hp} (s : Sub G H) {a : Addr} {u : HO} (h : G a = some u) : Rd H a u := by
  rcases s.1 a u h with h | ⟨_, o, h⟩
  · exact .inl h
  · exact .inr ⟨o, h⟩
theorem Sub.lst {G H : Hp} (s : Sub G H) {a : Addr} {xs : List V} (h : G a = some (.lst xs)) : H a = some (.lst xs) := by
  rcases s.1 a _ h with h | ⟨z, _⟩
  · exact h
  · cases z
theorem Sub.tup {G H : Hp} (s : Sub G H) {a : Addr} {xs : List V} (h : G a = some (.tup xs)) : H a = some (.tup xs) := by
  rcases s.1 a _ h with h | ⟨z, _⟩
  · exact h
  · cases z
theorem Sub.frz {G H : Hp} (s : Sub G H) {a : Addr} {o : Obj} {u : HO} (h : G a = some (.frz o u)) : H a = some (.frz o u) := by
  rcases s.1 a _ h with h | ⟨z, _⟩
  · exact h
  · cases z
theorem GLe.upd {G : Hp} {p : Addr} {o : HO} (h : G p = none) : GLe G (upd G p o) := fun a u e => by
  rw [upd_ne (ne_of_none e h)]
  exact e
theorem Sub.sqL {K : PySem.W.Frag} {G H : Hp} {a : Addr} {xs : List V} (s : Sub G H) (h : SqL K G a xs) : SqL K H a xs := by
  rcases h with (h | ⟨o, h⟩) | h
  · exact .inl (.inl (s.lst h))
  · exact .inl (.inr ⟨o, s.frz h⟩)
  · exact .inr h
theorem GLe.sqL {K : PySem.W.Frag} {G H : Hp} {a : Addr} {xs : List V} (s : GLe G H) (h : SqL K G a xs) : SqL K H a xs := by
  rcases h with (h | ⟨o, h⟩) | h
  · exact .inl (.inl (s _ _ h))
  · exact .inl (.inr ⟨o, s _ _ h⟩)
  · exact .inr h
mutual
theorem Rp.mono {K : PySem.W.Frag} {G H : Hp} (s : GLe G H) : ∀ (d : D) (v : V), Rp K G d v → Rp K H d v
  | .none, _, h => h
  | .bool _, _, h => h
  | .int _, _, h => h
  | .str _, _, h => h
  | .list ds, v, h => by
    obtain ⟨a, xs, e, q, r⟩ := h
    exact ⟨a, xs, e, s _ _ q, RpL.mono s ds xs r⟩
  | .tuple ds, v, h => by
    obtain ⟨a, xs, e, q, r⟩ := h
    exact ⟨a, xs, e, s _ _ q, RpL.mono s ds xs r⟩
  | .dict kvs, v, h => by
    obtain ⟨a, e, ⟨es, q, r⟩ | ⟨es, q, r⟩ | ⟨ns, q, r⟩⟩ := h
    · exact ⟨a, e, .inl ⟨es, s _ _ q, RpK.mono s kvs es r⟩⟩
    · exact ⟨a, e, .inr (.inl ⟨es, s _ _ q, RpT.mono s kvs es r⟩)⟩
    · exact ⟨a, e, .inr (.inr ⟨ns, q, s.sqL r⟩)⟩
theorem RpL.mono {K : PySem.W.Frag} {G H : Hp} (s : GLe G H) : ∀ (ds : List D) (vs : List V), RpL K G ds vs → RpL K H ds vs
  | [], _, h => h
  | d :: ds, _, ⟨v, r, e, h, t⟩ => ⟨v, r, e, Rp.mono s d v h, RpL.mono s ds r t⟩
theorem RpK.mono {K : PySem.W.Frag} {G H : Hp} (s : GLe G H) : ∀ (ds : List (D × D)) (vs : List (Key × V)), RpK K G ds vs → RpK K H ds vs
  | [], _, h => h
  | (_, d) :: ds, _, ⟨x, v, r, e, k, h, t⟩ => ⟨x, v, r, e, k, Rp.mono s d v h, RpK.mono s ds r t⟩
theorem RpT.mono {K : PySem.W.Frag} {G H : Hp} (s : GLe G H) : ∀ (ds : List (D × D)) (vs : List (List Key × V)), RpT K G ds vs → RpT K H ds vs
  | [], _, h => h
  | (_, d) :: ds, _, ⟨x, v, r, e, k, h, t⟩ => ⟨x, v, r, e, k, Rp.mono s d v h, RpT.mono s ds r t⟩
end
section
variable {K : PySem.W.Frag} {G H : Hp}
theorem RpL.length : ∀ {ds : List D} {vs : List V}, RpL K G ds vs → vs.length = ds.length
  | [], _, h => by cases h; rfl
  | d :: ds, _, ⟨v, r, e, _, t⟩ => by rw [e, List.length_cons, List.length_cons, RpL.length t]
theorem RpL.get : ∀ {ds : List D} {vs : List V} {i : Nat} {d : D}, RpL K G ds vs → ds[i]? = some d → ∃ v, vs[i]? = some v ∧ Rp K G d v
  | [], _, _, _, _, e => by simp at e
  | x :: ds, _, 0, d, ⟨v, r, e, h, _⟩, q => by
    have q' : x = d := Option.some.inj q
    exact ⟨v, by rw [e]; rfl, by rw [← q']; exact h⟩
  | x :: ds, _, i + 1, d, ⟨v, r, e, _, t⟩, q => by
    obtain ⟨u, h1, h2⟩ := RpL.get t (i := i) q
    exact ⟨u, by rw [e]; exact h1, h2⟩
theorem RpL.append : ∀ {ds es : List D} {vs us : List V}, RpL K G ds vs → RpL K G es us → RpL K G (ds ++ es) (vs ++ us)
  | [], _, _, _, h, h' => by cases h; exact h'
  | d :: ds, es, _, us, ⟨v, r, e, h, t⟩, h' => ⟨v, r ++ us, by rw [e]; rfl, h, RpL.append t h'⟩
theorem RpL.one {d : D} {v : V} (h : Rp K G d v) : RpL K G [d] [v] := ⟨v, [], rfl, h, rfl⟩
theorem RpL.take : ∀ {ds : List D} {vs : List V} (n : Nat), RpL K G ds vs → RpL K G (ds.take n) (vs.take n)
  | _, _, 0, _ => by rw [List.take_zero, List.take_zero]; rfl
  | [], _, n + 1, h => by cases h; rfl
  | d :: ds, _, n + 1, ⟨v, r, e, h, t⟩ => ⟨v, r.take n, by rw [e]; rfl, h, RpL.take n t⟩
theorem RpL.drop : ∀ {ds : List D} {vs : List V} (n : Nat), RpL K G ds vs → RpL K G (ds.drop n) (vs.drop n)
  | _, _, 0, h => h
  | [], _, n + 1, h => by cases h; rfl
  | d :: ds, _, n + 1, ⟨v, r, e, h, t⟩ => by rw [e]; exact RpL.drop n t
theorem RpL.set : ∀ {ds : List D} {vs : List V} {d : D} {v : V} (n : Nat), RpL K G ds vs → Rp K G d v → RpL K G (ds.set n d) (vs.set n v)
  | [], _, _, _, _, h, _ => by cases h; rfl
  | x :: ds, _, d, v, 0, ⟨u, r, e, _, t⟩, q => by rw [e]; exact ⟨v, r, rfl, q, t⟩
  | x :: ds, _, d, v, n + 1, ⟨u, r, e, h, t⟩, q => by rw [e]; exact ⟨u, r.set n v, rfl, h, RpL.set n t q⟩
theorem RpL.ints : ∀ {is : List Int} {vs : List V}, RpL K G (is.map PyData.int) vs → vs = is.map V.int
  | [], _, h => h
  | i :: is, _, ⟨v, r, e, h, t⟩ => by
    have h' : v = .int i := h
    rw [e, h', RpL.ints t]; rfl
theorem RpL.of_ints : ∀ (is : List Int), RpL K G (is.map PyData.int) (is.map V.int)
  | [] => rfl
  | i :: is => ⟨.int i, is.map V.int, rfl, rfl, RpL.of_ints is⟩
theorem RpL.strs : ∀ {is : List Str} {vs : List V}, RpL K G (is.map PyData.str) vs → vs = is.map V.str
  | [], _, h => h
  | i :: is, _, ⟨v, r, e, h, t⟩ => by
    have h' : v = .str i := h
    rw [e, h', RpL.strs t]; rfl
end

set_option autoImplicit true
open PySem PySem.Spec PyProof.Rows L2 LamX
inductive Sl where
  | no | fz (d : D) | own (d : D)
abbrev Env := List Sl
def Sl.val : Sl → Option D
  | .no => none
  | .fz d => some d
  | .own d => some d
def at_ (ρ : Env) (i : Nat) : Option D := (ρ[i]?).bind Sl.val
/-- a container's object, its parts frozen in G -/
inductive ObjD (K : PySem.W.Frag) (G : Hp) : D → HO → Prop
  | lst {ds : List D} {xs : List V} : RpL K G ds xs → ObjD K G (.list ds) (.lst xs)
  | tup {ds : List D} {xs : List V} : RpL K G ds xs → ObjD K G (.tuple ds) (.tup xs)
  | dK {kvs : List (D × D)} {es : List (Key × V)} : RpK K G kvs es → ObjD K G (.dict kvs) (.dK es)
  | dT {kvs : List (D × D)} {es : List (List Key × V)} : RpT K G kvs es → ObjD K G (.dict kvs) (.dT es)
def Own (K : PySem.W.Frag) (G H : Hp) (d : D) (p : Addr) : Prop := G p = none ∧ ∃ o, H p = some o ∧ ObjD K G d o ∧ Mut (some o)
/-- read only: frozen, or owned -/
def Vw (K : PySem.W.Frag) (G H : Hp) (d : D) (v : V) : Prop := Rp K G d v ∨ ∃ p, v = .ref p ∧ Own K G H d p
theorem ObjD.mono {K : PySem.W.Frag} {G G' : Hp} (s : GLe G G') {d : D} {o : HO} (h : ObjD K G d o) : ObjD K G' d o := by
  cases h with
  | lst h => exact .lst (RpL.mono s _ _ h)
  | tup h => exact .tup (RpL.mono s _ _ h)
  | dK h => exact .dK (RpK.mono s _ _ h)
  | dT h => exact .dT (RpT.mono s _ _ h)
/-- an object that stands is its value -/
theorem ObjD.rp {K : PySem.W.Frag} {G : Hp} {p : Addr} {d : D} {o : HO} (h : ObjD K G d o) (e : G p = some o) : Rp K G d (.ref p) := by
  cases h with
  | lst h => exact ⟨p, _, rfl, e, h⟩
  | tup h => exact ⟨p, _, rfl, e, h⟩
  | dK h => exact ⟨p, rfl, .inl ⟨_, e, h⟩⟩
  | dT h => exact ⟨p, rfl, .inr (.inl ⟨_, e, h⟩)⟩
theorem ObjD.notTbl {K : PySem.W.Frag} {G : Hp} {d : D} {o : HO} (h : ObjD K G d o) : (∀ ps, o ≠ .tbl ps) ∧ ∀ q u, o ≠ .frz q u := by
  cases h <;> exact ⟨fun _ e => (nomatch e), fun _ _ e => (nomatch e)⟩
/-- the frame's ghost: what is foreign, what stood at the entry, the slots whose objects go back -/
structure Fr where
  fg : Hp
  dom : Addr → Prop
  io : List (Nat × Addr)
def SlOk (K : PySem.W.Frag) (G H : Hp) (F : Fr) (σ : L2.St) (i : Nat) : Sl → Prop
  | .no => True
  | .fz d => ∃ v, σ[i]? = some (some v) ∧ Rp K G d v
  | .own d => ∃ p, σ[i]? = some (some (.ref p)) ∧ Own K G H d p ∧ (¬ F.dom p ∨ (i, p) ∈ F.io)
/-- what is fixed for a def's body: the written part, the tables, the names, what is wanted of an exception, the slots that go back -/
structure Ct where
  K : PySem.W.Frag
  T : List (Addr × Str)
  mg : Str → Option Value
  W : WX
  ios : List Nat
/-- something stands there, no table -/
def Dm (H : Hp) (a : Addr) : Prop := ∃ u, H a = some u ∧ ∀ ps, u ≠ .tbl ps
/-- foreign: not frozen by us, or locked -/
def FgG (G : Hp) (a : Addr) (u : HO) : Prop := G a = none ∨ ∃ o w, u = .frz o w
theorem FgG.upd {G : Hp} {a p : Addr} {u o : HO} (h : FgG G a u) (ne : a ≠ p) : FgG (upd G p o) a u := h.imp (fun h => by rw [upd_ne ne]; exact h) id
theorem FgG.none {G : Hp} {a : Addr} {u : HO} (h : FgG G a u) (hn : ∀ q w, u ≠ .frz q w) : G a = none := h.resolve_right fun ⟨q, w, e⟩ => hn q w e
structure State (c : Ct) (F : Fr) (ρ : Env) (σ : L2.St) (G H : Hp) : Prop where
  sub : Sub G H
  fg : ∀ a u, F.fg a = some u → H a = some u ∧ FgG G a u
  wf : ∀ a u, F.fg a = some u → F.dom a ∧ (∀ i, (i, a) ∉ F.io) ∧ ∀ ps, u ≠ .tbl ps
  dom : ∀ a, F.dom a → Dm H a
  tab : Tabs c.T H
  tabG : ∀ p ∈ c.T, G p.1 = none
  len : ρ.length = σ.length
  sl : ∀ (i : Nat) (s : Sl), ρ[i]? = some s → SlOk c.K G H F σ i s
  apart : ∀ (i j : Nat) (p : Addr) (d e : D), ρ[i]? = some (.own d) → ρ[j]? = some (.own e) → σ[i]? = some (some (.ref p)) → σ[j]? = some (some (.ref p)) → i = j
  io : ∀ q ∈ F.io, σ[q.1]? = some (some (.ref q.2))
  ios : F.io.map (·.1) = c.ios
  ioD : ∀ q ∈ F.io, F.dom q.2
  tupG : ∀ (q : Addr) (ks : List Key), H q = some (.tup (ks.map kV)) → G q = some (.tup (ks.map kV))
section
variable {c : Ct} {F : Fr} {ρ : Env} {σ : L2.St} {G H : Hp}
theorem State.gnone (S : State c F ρ σ G H) {p : Addr} (h : H p = none) : G p = none := by
  cases e : G p with
  | none => rfl
  | some u =>
    rcases S.sub.1 p u e with q | ⟨_, o, q⟩ <;> (rw [h] at q; cases q)
theorem SlOk.mono {K : PySem.W.Frag} {G G' H H' : Hp} (s : GLe G G') {i : Nat} {sl : Sl} (hk : ∀ p d, sl = .own d → σ[i]? = some (some (.ref p)) → Own K G H d p → G' p = none ∧ H' p = H p) (h : SlOk K G H F σ i sl) : SlOk K G' H' F σ i sl := by
  cases sl with
  | no => trivial
  | fz d =>
    obtain ⟨v, e, r⟩ := h
    exact ⟨v, e, Rp.mono s d v r⟩
  | own d =>
    obtain ⟨p, e, ow, q⟩ := h
    obtain ⟨h1, h2⟩ := hk p d rfl e ow
    obtain ⟨_, o, ho, hd, hm⟩ := ow
    exact ⟨p, e, ⟨h1, o, by rw [h2]; exact ho, hd.mono s, hm⟩, q⟩
/-- a new object -/
theorem State.alloc0 (S : State c F ρ σ G H) {p : Addr} {o : HO} (h : H p = none) (tg : ∀ (q : Addr) (ks : List Key), upd H p o q = some (.tup (ks.map kV)) → G q = some (.tup (ks.map kV)) ∨ q = p) :
    Sub G (upd H p o) ∧ (∀ a u, F.fg a = some u → upd H p o a = some u ∧ FgG G a u) ∧ (∀ a, F.dom a → Dm (upd H p o) a) ∧ Tabs c.T (upd H p o) ∧ (∀ (i : Nat) (s : Sl), ρ[i]? = some s → SlOk c.K G (upd H p o) F σ i s) := by
  refine ⟨⟨fun a u r => ?_, S.sub.2⟩, fun a u e => ?_, fun a e => ?_, ?_, fun i s e => ?_⟩
  · have ne : a ≠ p := by
      rcases S.sub.1 a u r with q | ⟨_, _, q⟩
      · exact ne_of_none q h
      · exact ne_of_none q h
    rcases S.sub.1 a u r with q | ⟨id, ob, q⟩
    · exact .inl (by rw [upd_ne ne]; exact q)
    · exact .inr ⟨id, ob, by rw [upd_ne ne]; exact q⟩
  · exact ⟨by rw [upd_ne (ne_of_none (S.fg a u e).1 h)]; exact (S.fg a u e).1, (S.fg a u e).2⟩
  · obtain ⟨u, hu, hn⟩ := S.dom a e
    exact ⟨u, by rw [upd_ne (ne_of_none hu h)]; exact hu, hn⟩
  · exact S.tab.ext fun b u e => by rw [upd_ne (ne_of_none e h)]; exact e
  · refine (S.sl i s e).mono (GLe.refl G) fun q d _ _ ow => ⟨ow.1, ?_⟩
    obtain ⟨_, ob, ho, _⟩ := ow
    exact upd_ne (ne_of_none ho h)
theorem State.alloc (S : State c F ρ σ G H) {p : Addr} {o : HO} (h : H p = none) (hm : Mut (some o)) : State c F ρ σ G (upd H p o) := by
  have tg : ∀ (q : Addr) (ks : List Key), upd H p o q = some (.tup (ks.map kV)) → G q = some (.tup (ks.map kV)) := fun q ks e => by
    by_cases z : q = p
    · rw [z, upd_same] at e
      cases e
      exact hm.elim
    · rw [upd_ne z] at e
      exact S.tupG q ks e
  obtain ⟨h1, h2, h3, h4, h5⟩ := S.alloc0 (o := o) h fun q ks e => .inl (tg q ks e)
  exact ⟨h1, h2, S.wf, h3, h4, S.tabG, S.len, h5, S.apart, S.io, S.ios, S.ioD, tg⟩
theorem tab_none {T : List (Addr × Str)} {H : Hp} (t : Tabs T H) {p : Addr × Str} (hp : p ∈ T) : ∃ ps, H p.1 = some (.tbl ps) := by
  obtain ⟨ps, e, _⟩ := t p hp
  exact ⟨ps, e⟩
/-- a new object, frozen -/
theorem State.add (S : State c F ρ σ G H) {p : Addr} {o : HO} (h : H p = none) (hnt : ∀ ps, o ≠ .tbl ps := by exact fun _ z => nomatch z) : State c F ρ σ (upd G p o) (upd H p o) := by
  have gn := S.gnone h
  have tg : ∀ (q : Addr) (ks : List Key), upd H p o q = some (.tup (ks.map kV)) → G q = some (.tup (ks.map kV)) ∨ q = p := fun q ks e => by
    by_cases z : q = p
    · exact .inr z
    · rw [upd_ne z] at e
      exact .inl (S.tupG q ks e)
  obtain ⟨h1, h2, h3, h4, h5⟩ := S.alloc0 (o := o) h tg
  refine ⟨⟨fun a u r => ?_, NoT.upd S.sub.2 hnt⟩, fun a u e => ?_, S.wf, h3, h4, fun q hq => ?_, S.len, fun i s e => ?_, S.apart, S.io, S.ios, S.ioD, fun q ks e => ?_⟩
  · by_cases q : a = p
    · subst q
      exact .inl (by rw [upd_same] at r ⊢; exact r)
    · exact h1.1 a u (by rw [upd_ne q] at r; exact r)
  · obtain ⟨e1, e2⟩ := S.fg a u e
    have ne := ne_of_none e1 h
    exact ⟨(h2 a u e).1, e2.upd ne⟩
  · obtain ⟨ps, e⟩ := tab_none S.tab hq
    rw [upd_ne (ne_of_none e h)]
    exact S.tabG q hq
  · refine (S.sl i s e).mono (GLe.upd gn) fun q d _ _ ow => ?_
    obtain ⟨hg, ob, ho, _⟩ := ow
    have ne := ne_of_none ho h
    exact ⟨by rw [upd_ne ne]; exact hg, upd_ne ne⟩
  · by_cases z : q = p
    · rw [z, upd_same] at e ⊢
      exact e
    · rw [upd_ne z]
      exact (tg q ks e).resolve_right z
theorem State.own_at (S : State c F ρ σ G H) {i : Nat} {d : D} (e : ρ[i]? = some (.own d)) : ∃ p, σ[i]? = some (some (.ref p)) ∧ Own c.K G H d p ∧ (¬ F.dom p ∨ (i, p) ∈ F.io) := S.sl i _ e
theorem State.own_fg (S : State c F ρ σ G H) {i : Nat} {p : Addr} (q : ¬ F.dom p ∨ (i, p) ∈ F.io) : F.fg p = none := by
  cases e : F.fg p with
  | none => rfl
  | some u =>
    obtain ⟨h1, h2, _⟩ := S.wf p u e
    rcases q with q | q
    · exact (q h1).elim
    · exact (h2 i q).elim
theorem State.own_tab (S : State c F ρ σ G H) {d : D} {p : Addr} (ow : Own c.K G H d p) : ∀ q ∈ c.T, q.1 ≠ p := fun q hq z => by
  obtain ⟨ps, e⟩ := tab_none S.tab hq
  obtain ⟨_, o, ho, hd, _⟩ := ow
  rw [z, ho] at e
  exact hd.notTbl.1 ps (Option.some.inj e)
theorem get_set {α : Type} {l : List α} {i j : Nat} {a b : α} (h : (l.set i a)[j]? = some b) : (i = j ∧ a = b) ∨ (i ≠ j ∧ l[j]? = some b) := by
  by_cases e : i = j
  · subst e
    by_cases hi : i < l.length
    · rw [List.getElem?_set_self hi] at h
      exact .inl ⟨rfl, Option.some.inj h⟩
    · rw [List.getElem?_eq_none (by rw [List.length_set]; omega)] at h
      cases h
  · rw [List.getElem?_set_ne e] at h
    exact .inr ⟨e, h⟩
/-- an owned slot is frozen -/
theorem State.freeze (S : State c F ρ σ G H) {i : Nat} {d : D} {p : Addr} (e : ρ[i]? = some (.own d)) (es : σ[i]? = some (some (.ref p))) :
    ∃ G', State c F (ρ.set i (.fz d)) σ G' H ∧ GLe G G' ∧ Rp c.K G' d (.ref p) := by
  obtain ⟨p', e1, ow, q⟩ := S.own_at e
  rw [es] at e1
  cases e1
  obtain ⟨hg, o, ho, hd, hm⟩ := id ow
  have gl : GLe G (upd G p o) := GLe.upd hg
  have rp : Rp c.K (upd G p o) d (.ref p) := (hd.mono gl).rp upd_same
  refine ⟨upd G p o, ⟨⟨fun a u r => ?_, NoT.upd S.sub.2 hd.notTbl.1⟩, fun a u ea => ?_, S.wf, S.dom, S.tab, fun t ht => ?_, by rw [List.length_set]; exact S.len, fun j s ej => ?_, fun j k a x y h1 h2 h3 h4 => ?_, S.io, S.ios, S.ioD, fun q ks e => gl _ _ (S.tupG q ks e)⟩, gl, rp⟩
  · by_cases z : a = p
    · subst z
      rw [upd_same] at r
      exact .inl (by rw [ho]; exact r)
    · exact S.sub.1 a u (by rw [upd_ne z] at r; exact r)
  · obtain ⟨e1, e2⟩ := S.fg a u ea
    refine ⟨e1, ?_⟩
    have ne : a ≠ p := fun z => by
      rw [z, S.own_fg q] at ea
      cases ea
    exact e2.upd ne
  · rw [upd_ne (S.own_tab ow t ht)]
    exact S.tabG t ht
  · rcases get_set ej with ⟨rfl, rfl⟩ | ⟨ne, ej⟩
    · exact ⟨.ref p, es, rp⟩
    · refine (S.sl j s ej).mono gl fun b x ex eb owb => ?_
      have nb : b ≠ p := fun z => by
        rw [z] at eb
        exact ne (S.apart i j p d x e (by rw [ej, ex]) es eb)
      exact ⟨by rw [upd_ne nb]; exact owb.1, rfl⟩
  · rcases get_set h1 with ⟨_, z⟩ | ⟨_, h1⟩
    · cases z
    · rcases get_set h2 with ⟨_, z⟩ | ⟨_, h2⟩
      · cases z
      · exact S.apart j k a x y h1 h2 h3 h4
end

set_option autoImplicit true
structure Exn where
  cls : Str
  arg : Option (Str × D)
inductive Rs (α : Type) where
  | ok (a : α) (ρ : Env) | ex (e : Exn) (ρ : Env) | stuck
abbrev ME := Env → Rs D
abbrev MB := Env → Rs Bool
def Rs.then {α β : Type} : Rs α → (α → Env → Rs β) → Rs β
  | .ok a ρ, f => f a ρ
  | .ex e ρ, _ => .ex e ρ
  | .stuck, _ => .stuck
/-- an exception as it flies -/
def ExOk (c : Ct) (G : Hp) (e : Exn) (cls : Value) (dx : Option Addr) (H : Hp) : Prop :=
  ∃ C : Addr, c.mg e.cls = some (.ref C) ∧ cls = .ref C ∧
    match e.arg with
    | none => dx = none
    | some (f, d) => ∃ dd v, dx = some dd ∧ H dd = some (.xd [(f, v)]) ∧ Rp c.K G d v
/-- what is asked so that M-function's outcome is handed on -/
def Ask (c : Ct) (F : Fr) (σ : L2.St) (G : Hp) {α : Type} (k : α → Env → Prop) : Rs α → Prop
  | .ok a ρ => k a ρ
  | .ex e ρ => ∀ cls dx H' G', State c F ρ σ G' H' → GLe G G' → ExOk c G' e cls dx H' → c.W cls dx σ H'
  | .stuck => False
theorem Ask.imp {c : Ct} {F : Fr} {σ : L2.St} {G G1 : Hp} {α : Type} {k k' : α → Env → Prop} {r : Rs α} (h : Ask c F σ G k r) (g : GLe G G1) (hk : ∀ a ρ, k a ρ → k' a ρ) : Ask c F σ G1 k' r := by
  cases r with
  | ok a ρ => exact hk a ρ h
  | ex e ρ => exact fun cls dx H' G' S gl x => h cls dx H' G' S (g.trans gl) x
  | stuck => exact h
theorem Ask.then {c : Ct} {F : Fr} {σ : L2.St} {G : Hp} {α β : Type} {k : β → Env → Prop} {r : Rs α} {f : α → Env → Rs β} (h : Ask c F σ G k (r.then f)) : Ask c F σ G (fun a ρ => Ask c F σ G k (f a ρ)) r := by
  cases r with
  | ok a ρ => exact h
  | ex e ρ => exact h
  | stuck => exact h
/-- a value's reading -/
def tE (c : Ct) (m : ME) : TE := fun σ H Q => ∃ F ρ G, State c F ρ σ G H ∧ Ask c F σ G (fun d ρ' => ∀ v H' G', State c F ρ' σ G' H' → GLe G G' → Rp c.K G' d v → Q v H') (m ρ)
/-- a new container's -/
def NewAt (c : Ct) (F : Fr) (ρ : Env) (σ : L2.St) (G H : Hp) (d : D) (p : Addr) : Prop := Own c.K G H d p ∧ ¬ F.dom p ∧ ∀ (i : Nat) (e : D), ρ[i]? = some (.own e) → σ[i]? ≠ some (some (V.ref p))
def tF (c : Ct) (m : ME) : TE := fun σ H Q => ∃ F ρ G, State c F ρ σ G H ∧ Ask c F σ G (fun d ρ' => ∀ p H' G', State c F ρ' σ G' H' → GLe G G' → NewAt c F ρ' σ G' H' d p → Q (.ref p) H') (m ρ)
def tT (c : Ct) (m : MB) : TT := fun σ H Q => ∃ F ρ G, State c F ρ σ G H ∧ Ask c F σ G (fun b ρ' => ∀ H' G', State c F ρ' σ G' H' → GLe G G' → Q b H') (m ρ)
section
variable {X : Cx} {c : Ct} {F : Fr} {ρ : Env} {σ : L2.St} {G H : Hp} {e : Expr} {t t' : TE}
theorem pe_conseq (h : PE X e t) (hi : ∀ σ H Q, t' σ H Q → t σ H Q) : PE X e t' := ⟨fun pins s σ H Q I q => h.run pins s σ H Q I (hi _ _ _ q)⟩
theorem pt_conseq {t t' : TT} (h : PT X e t) (hi : ∀ σ H Q, t' σ H Q → t σ H Q) : PT X e t' := ⟨fun pins s σ H Q I q => h.run pins s σ H Q I (hi _ _ _ q)⟩
/-- a new container is frozen -/
theorem NewAt.freezeAt {d : D} {p : Addr} {o : HO} (S : State c F ρ σ G H) (n : NewAt c F ρ σ G H d p) (hq : H p = some o) : State c F ρ σ (upd G p o) H ∧ GLe G (upd G p o) ∧ Rp c.K (upd G p o) d (.ref p) := by
  obtain ⟨ow, nd, na⟩ := n
  obtain ⟨hg, o', ho, hd, hm⟩ := id ow
  rw [hq] at ho
  cases ho
  have ho := hq
  have gl : GLe G (upd G p o) := GLe.upd hg
  have rp : Rp c.K (upd G p o) d (.ref p) := (hd.mono gl).rp upd_same
  refine ⟨⟨⟨fun a u r => ?_, NoT.upd S.sub.2 hd.notTbl.1⟩, fun a u ea => ?_, S.wf, S.dom, S.tab, fun t ht => ?_, S.len, fun j s ej => ?_, S.apart, S.io, S.ios, S.ioD, fun q ks e => gl _ _ (S.tupG q ks e)⟩, gl, rp⟩
  · by_cases z : a = p
    · subst z
      rw [upd_same] at r
      exact .inl (by rw [ho]; exact r)
    · exact S.sub.1 a u (by rw [upd_ne z] at r; exact r)
  · obtain ⟨e1, e2⟩ := S.fg a u ea
    have ne : a ≠ p := fun z => nd (by rw [← z]; exact (S.wf a u ea).1)
    exact ⟨e1, e2.upd ne⟩
  · rw [upd_ne (S.own_tab ow t ht)]
    exact S.tabG t ht
  · refine (S.sl j s ej).mono gl fun b x ex eb owb => ?_
    have nb : b ≠ p := fun z => by
      rw [z] at eb
      exact na j x (by rw [ej, ex]) eb
    exact ⟨by rw [upd_ne nb]; exact owb.1, rfl⟩
theorem NewAt.freeze {d : D} {p : Addr} (S : State c F ρ σ G H) (n : NewAt c F ρ σ G H d p) : ∃ G', State c F ρ σ G' H ∧ GLe G G' ∧ Rp c.K G' d (.ref p) := by
  obtain ⟨_, o, ho, _, _⟩ := id n.1
  exact ⟨_, n.freezeAt S ho⟩
theorem NewAt.of (S : State c F ρ σ G H) {d : D} {p : Addr} {o : HO} (h : H p = none) (hd : ObjD c.K G d o) (hm : Mut (some o)) : NewAt c F ρ σ G (upd H p o) d p :=
  ⟨⟨S.gnone h, o, upd_same, hd, hm⟩, (fun q => by obtain ⟨u, hu, _⟩ := S.dom p q; rw [h] at hu; cases hu), fun i x e es => by
    obtain ⟨p', e1, ow, _⟩ := S.own_at e
    rw [es] at e1
    cases e1
    obtain ⟨_, ob, ho, _⟩ := ow
    rw [h] at ho
    cases ho⟩
/-- a new container as a value -/
theorem me_of {m : ME} (h : PE X e (tF c m)) : PE X e (tE c m) := pe_conseq h fun σ H Q ⟨F, ρ, G, S, a⟩ => ⟨F, ρ, G, S, a.imp (GLe.refl G) fun d ρ' k p H' G' S' gl n => by
  obtain ⟨G2, S2, gl2, r⟩ := n.freeze S'
  exact k _ _ _ S2 (gl.trans gl2) r⟩
def mLit (d : D) : ME := fun ρ => .ok d ρ
theorem tE_lit {d : D} {v : V} {Q : VK} (hr : ∀ G, Rp c.K G d v) (h : tE c (mLit d) σ H Q) : Q v H := by
  obtain ⟨F, ρ, G, S, a⟩ := h
  exact a v H G S (GLe.refl G) (hr G)
theorem me_int {i : Int} {j : Nat} {pos : Pos} : PE X (.Constant (.int i) j pos) (tE c (mLit (.int i))) := pe_conseq pe_int fun _ _ _ h => tE_lit (d := .int i) (fun _ => rfl) h
theorem me_bl {b : Bool} {j : Nat} {pos : Pos} : PE X (.Constant (.bool b) j pos) (tE c (mLit (.bool b))) := pe_conseq pe_bl fun _ _ _ h => tE_lit (d := .bool b) (fun _ => rfl) h
theorem me_non {j : Nat} {pos : Pos} : PE X (.Constant .none j pos) (tE c (mLit .none)) := pe_conseq pe_non fun _ _ _ h => tE_lit (d := .none) (fun _ => rfl) h
theorem me_str {x : Str} {j : Nat} {pos : Pos} : PE X (.Constant (.str x) j pos) (tE c (mLit (.str x))) := pe_conseq pe_str fun _ _ _ h => tE_lit (d := .str x) (fun _ => rfl) h
theorem me_gint {x : Str} {i : Int} {pos : Pos} (hg : Gl X x) (hm : ∃ t, X.mg x = some (.int i t)) (hd : (x == ("__debug__" : Str)) = false := by decide) : PE X (.Name x pos) (tE c (mLit (.int i))) := by
  obtain ⟨t, hm⟩ := hm
  exact pe_conseq (pe_glob (v := .int i) hg hm ⟨t, rfl⟩ hd) fun _ _ _ h => tE_lit (d := .int i) (fun _ => rfl) h
def mVar (i : Nat) : ME := fun ρ => match ρ[i]? with
  | some (.fz d) => .ok d ρ
  | some (.own d) => .ok d (ρ.set i (.fz d))
  | _ => .stuck
theorem me_var {i : Nat} (h : PE X e (tVar i)) : PE X e (tE c (mVar i)) := pe_conseq h fun σ H Q ⟨F, ρ, G, S, a⟩ => by
  unfold mVar at a
  split at a
  · rename_i d e
    obtain ⟨v, e1, r⟩ := S.sl i _ e
    exact ⟨v, e1, a v H G S (GLe.refl G) r⟩
  · rename_i d e
    obtain ⟨p, e1, ow, q⟩ := S.own_at e
    obtain ⟨G', S', gl, r⟩ := S.freeze e e1
    exact ⟨_, e1, a _ H G' S' gl r⟩
  · exact a.elim
inductive Opd where
  | sl (i : Nat) | ex (m : ME)
def Opd.ev : Opd → Env → Rs (Option D)
  | .sl i, ρ => match at_ ρ i with
    | some _ => .ok none ρ
    | none => .stuck
  | .ex m, ρ => (m ρ).then fun d ρ' => .ok (some d) ρ'
def Opd.fin : Opd → Option D → Env → Option D
  | .sl i, _, ρ => at_ ρ i
  | .ex _, x, _ => x
def tO (c : Ct) : Opd → TE
  | .sl i => tVar i
  | .ex m => tE c m
/-- what an operand's value is, behind its evaluation -/
def OpV (c : Ct) (σ : L2.St) (G : Hp) : Opd → Option D → V → Prop
  | .sl i, _, v => σ[i]? = some (some v)
  | .ex _, x, v => ∃ d, x = some d ∧ Rp c.K G d v
theorem OpV.mono {o : Opd} {x : Option D} {v : V} {G G' : Hp} (g : GLe G G') (h : OpV c σ G o x v) : OpV c σ G' o x v := by
  cases o with
  | sl i => exact h
  | ex m =>
    obtain ⟨d, e, r⟩ := h
    exact ⟨d, e, Rp.mono g d v r⟩
theorem at_some {i : Nat} {d : D} (h : at_ ρ i = some d) : ρ[i]? = some (.fz d) ∨ ρ[i]? = some (.own d) := by
  unfold at_ at h
  cases e : ρ[i]? with
  | none => rw [e] at h; cases h
  | some s =>
    rw [e] at h
    cases s with
    | no => cases h
    | fz x => cases h; exact .inl rfl
    | own x => cases h; exact .inr rfl
theorem State.vw (S : State c F ρ σ G H) {i : Nat} {d : D} (h : at_ ρ i = some d) : ∃ v, σ[i]? = some (some v) ∧ Vw c.K G H d v := by
  rcases at_some h with e | e
  · obtain ⟨v, e1, r⟩ := S.sl i _ e
    exact ⟨v, e1, .inl r⟩
  · obtain ⟨p, e1, ow, _⟩ := S.own_at e
    exact ⟨_, e1, .inr ⟨p, rfl, ow⟩⟩
theorem OpV.vw {o : Opd} {x : Option D} {v : V} {d : D} (S : State c F ρ σ G H) (h : OpV c σ G o x v) (hf : o.fin x ρ = some d) : Vw c.K G H d v := by
  cases o with
  | sl i =>
    obtain ⟨u, e, w⟩ := S.vw hf
    rw [h] at e
    cases e
    exact w
  | ex m =>
    obtain ⟨y, e, r⟩ := h
    have hf' : x = some d := hf
    rw [e] at hf'
    cases hf'
    exact .inl r
/-- the evaluation of one operand -/
theorem tO_ev {o : Opd} {R : V → Hp → Prop} (S : State c F ρ σ G H)
    (a : Ask c F σ G (fun x ρ' => ∀ v H' G', State c F ρ' σ G' H' → GLe G G' → OpV c σ G' o x v → R v H') (o.ev ρ)) : tO c o σ H R := by
  cases o with
  | sl i =>
    simp only [Opd.ev] at a
    cases e : at_ ρ i with
    | none =>
      rw [e] at a
      exact False.elim a
    | some d =>
      rw [e] at a
      obtain ⟨v, e1, _⟩ := S.vw e
      exact ⟨v, e1, a v H G S (GLe.refl G) e1⟩
  | ex m =>
    refine ⟨F, ρ, G, S, (Ask.then a).imp (GLe.refl G) fun d ρ' k v H' G' S' gl r => ?_⟩
    exact k v H' G' S' gl ⟨d, rfl, r⟩
/-- a primitive's outcome: a value that stands, or a new object -/
def POut (K : PySem.W.Frag) (G H : Hp) (d : D) (v : V) (H' : Hp) : Prop := (H' = H ∧ Rp K G d v) ∨ ∃ p o, v = .ref p ∧ H p = none ∧ H' = upd H p o ∧ ObjD K G d o
def PNew (K : PySem.W.Frag) (G H : Hp) (d : D) (v : V) (H' : Hp) : Prop := ∃ p o, v = .ref p ∧ H p = none ∧ H' = upd H p o ∧ ObjD K G d o ∧ Mut (some o)
theorem PNew.out {K : PySem.W.Frag} {d : D} {v : V} {H' : Hp} (h : PNew K G H d v H') : POut K G H d v H' := let ⟨p, o, e, n, q, x, _⟩ := h; .inr ⟨p, o, e, n, q, x⟩
theorem POut.state {d : D} {v : V} {H' : Hp} (S : State c F ρ σ G H) (h : POut c.K G H d v H') : ∃ G', State c F ρ σ G' H' ∧ GLe G G' ∧ Rp c.K G' d v := by
  rcases h with ⟨rfl, r⟩ | ⟨p, o, rfl, n, rfl, x⟩
  · exact ⟨G, S, GLe.refl G, r⟩
  · have gl : GLe G (upd G p o) := GLe.upd (S.gnone n)
    exact ⟨upd G p o, S.add n x.notTbl.1, gl, (x.mono gl).rp upd_same⟩
/-- a reading of an operator does what g says -/
def Prim2 (K : PySem.W.Frag) (g : D → D → Option D) (r : R2) : Prop := ∀ (G H : Hp) (x y : V) (d1 d2 d : D) (Q : VK), Sub G H → Vw K G H d1 x → Vw K G H d2 y → g d1 d2 = some d → (∀ v H', POut K G H d v H' → Q v H') → r x y H Q
def PrimN2 (K : PySem.W.Frag) (g : D → D → Option D) (r : R2) : Prop := ∀ (G H : Hp) (x y : V) (d1 d2 d : D) (Q : VK), Sub G H → Vw K G H d1 x → Vw K G H d2 y → g d1 d2 = some d → (∀ v H', PNew K G H d v H' → Q v H') → r x y H Q
def mOp2 (g : D → D → Option D) (o1 o2 : Opd) : ME := fun ρ => (o1.ev ρ).then fun x1 ρ1 => (o2.ev ρ1).then fun x2 ρ2 =>
  match o1.fin x1 ρ2, o2.fin x2 ρ2 with
  | some d1, some d2 => (match g d1 d2 with
    | some d => .ok d ρ2
    | none => .stuck)
  | _, _ => .stuck
/-- two operands and what is done with them -/
theorem tO2 {o1 o2 : Opd} {g : D → D → Option D} {R : V → V → Hp → Prop} {k : D → Env → Prop} (S : State c F ρ σ G H) (a : Ask c F σ G k (mOp2 g o1 o2 ρ))
    (hR : ∀ (ρ2 : Env) (G2 H2 : Hp) (x y : V) (d1 d2 d : D), State c F ρ2 σ G2 H2 → GLe G G2 → Vw c.K G2 H2 d1 x → Vw c.K G2 H2 d2 y → g d1 d2 = some d → k d ρ2 → R x y H2) :
    tO c o1 σ H fun x H1 => tO c o2 σ H1 fun y H2 => R x y H2 := by
  refine tO_ev S ((Ask.then a).imp (GLe.refl G) fun x1 ρ1 a1 v H1 G1 S1 g1 p1 => ?_)
  refine tO_ev S1 ((Ask.then a1).imp g1 fun x2 ρ2 a2 u H2 G2 S2 g2 p2 => ?_)
  cases e1 : o1.fin x1 ρ2 with
  | none => rw [e1] at a2; exact a2.elim
  | some d1 =>
    rw [e1] at a2
    cases e2 : o2.fin x2 ρ2 with
    | none => rw [e2] at a2; exact a2.elim
    | some d2 =>
      rw [e2] at a2
      cases e3 : g d1 d2 with
      | none => simp only [e3] at a2; exact a2.elim
      | some d =>
        simp only [e3] at a2
        exact hR ρ2 G2 H2 v u d1 d2 d S2 (g1.trans g2) ((p1.mono g2).vw S2 e1) (p2.vw S2 e2) e3 a2
theorem tOp_e {o1 o2 : Opd} {g : D → D → Option D} {r : R2} (hp : Prim2 c.K g r) {Q : VK} (h : tE c (mOp2 g o1 o2) σ H Q) : tOp r (tO c o1) (tO c o2) σ H Q := by
  obtain ⟨F, ρ, G, S, a⟩ := h
  refine tO2 S a fun ρ2 G2 H2 x y d1 d2 d S2 gl v1 v2 e k => ?_
  refine hp G2 H2 x y d1 d2 d Q S2.sub v1 v2 e fun v H' po => ?_
  obtain ⟨G', S', gl', r⟩ := po.state S2
  exact k v H' G' S' (gl.trans gl') r
theorem tOp_f {o1 o2 : Opd} {g : D → D → Option D} {r : R2} (hp : PrimN2 c.K g r) {Q : VK} (h : tF c (mOp2 g o1 o2) σ H Q) : tOp r (tO c o1) (tO c o2) σ H Q := by
  obtain ⟨F, ρ, G, S, a⟩ := h
  refine tO2 S a fun ρ2 G2 H2 x y d1 d2 d S2 gl v1 v2 e k => ?_
  refine hp G2 H2 x y d1 d2 d Q S2.sub v1 v2 e fun v H' ⟨p, o, ev, n, eH, x, hm⟩ => ?_
  rw [ev, eH]
  exact k p _ G2 (S2.alloc n hm) gl (NewAt.of S2 n x hm)
variable {a b : Expr} {pos : Pos} {o1 o2 : Opd} {g : D → D → Option D} {r : R2}
theorem me_op {op : Operator} (ho : OpR X (binaryOp op) r) (hp : Prim2 c.K g r) (ha : PE X a (tO c o1)) (hb : PE X b (tO c o2)) : PE X (.BinOp a op b pos) (tE c (mOp2 g o1 o2)) :=
  pe_conseq (pe_op ho ha hb) fun _ _ _ h => tOp_e hp h
theorem fe_op {op : Operator} (ho : OpR X (binaryOp op) r) (hp : PrimN2 c.K g r) (ha : PE X a (tO c o1)) (hb : PE X b (tO c o2)) : PE X (.BinOp a op b pos) (tF c (mOp2 g o1 o2)) :=
  pe_conseq (pe_op ho ha hb) fun _ _ _ h => tOp_f hp h
theorem me_cmp {op : CmpOp} (ho : OpR X (compareOp op) r) (hp : Prim2 c.K g r) (ha : PE X a (tO c o1)) (hb : PE X b (tO c o2)) (hm : behindInMarks op b = false) : PE X (.Compare a [op] [b] pos) (tE c (mOp2 g o1 o2)) :=
  pe_conseq (pe_cmpR ho ha hb hm) fun _ _ _ h => tOp_e hp h
/-- a bool as a test -/
def mB (m : ME) : MB := fun ρ => (m ρ).then fun d ρ' => match d with
  | .bool b => .ok b ρ'
  | _ => .stuck
theorem tB_e {m : ME} {Q : Bool → Hp → Prop} (h : tT c (mB m) σ H Q) : tE c m σ H (fun x H' => ∃ k, x = .bl k ∧ Q k H') := by
  obtain ⟨F, ρ, G, S, a⟩ := h
  refine ⟨F, ρ, G, S, (Ask.then a).imp (GLe.refl G) fun d ρ' a1 v H' G' S' gl r => ?_⟩
  split at a1
  · rename_i b
    exact ⟨b, r, a1 H' G' S' gl⟩
  · exact a1.elim
theorem mt_cmp {op : CmpOp} (ho : OpR X (compareOp op) r) (hp : Prim2 c.K g r) (ha : PE X a (tO c o1)) (hb : PE X b (tO c o2)) (hm : behindInMarks op b = false) : PT X (.Compare a [op] [b] pos) (tT c (mB (mOp2 g o1 o2))) :=
  pt_conseq (pt_cmpR ho ha hb hm) fun _ _ _ h => tOp_e hp (tB_e h)
theorem mt_val {m : ME} (h : PE X e (tE c m)) (he : ∀ whole, isTrue e X.env whole = (do let v ← whole; standAt e.pos; holding [v] (truthy v)) := by intro _; rfl) : PT X e (tT c (mB m)) :=
  pt_conseq (pt_val h he) fun _ _ _ h => tB_e h
end

set_option autoImplicit true
def mAnd (m n : ME) : ME := fun ρ => (m ρ).then fun d ρ' => match d with
  | .bool b => if b = true then n ρ' else .ok (.bool false) ρ'
  | _ => .stuck
def mOr (m n : ME) : ME := fun ρ => (m ρ).then fun d ρ' => match d with
  | .bool b => if b = true then .ok (.bool true) ρ' else n ρ'
  | _ => .stuck
def mNot (m : ME) : ME := fun ρ => (m ρ).then fun d ρ' => match d with
  | .bool b => .ok (.bool (!b)) ρ'
  | _ => .stuck
def bAnd (m n : MB) : MB := fun ρ => (m ρ).then fun b ρ' => if b = true then n ρ' else .ok false ρ'
def bOr (m n : MB) : MB := fun ρ => (m ρ).then fun b ρ' => if b = true then .ok true ρ' else n ρ'
def bNot (m : MB) : MB := fun ρ => (m ρ).then fun b ρ' => .ok (!b) ρ'
def mIf (t : MB) (m n : ME) : ME := fun ρ => (t ρ).then fun b ρ' => if b = true then m ρ' else n ρ'
section
variable {X : Cx} {c : Ct} {F : Fr} {ρ : Env} {σ : L2.St} {G H : Hp} {a b e : Expr} {rest : List Expr} {pos : Pos} {m n : ME} {s t : MB}
theorem me_and (ha : PE X a (tE c m)) (hb : PE X (.BoolOp .And (b :: rest) pos) (tE c n)) : PE X (.BoolOp .And (a :: b :: rest) pos) (tE c (mAnd m n)) := pe_conseq (pe_and ha hb) fun σ H Q ⟨F, ρ, G, S, q⟩ =>
  ⟨F, ρ, G, S, (Ask.then q).imp (GLe.refl G) fun d ρ' k v H' G' S' gl r => by
    cases d <;> first | exact False.elim k | skip
    rename_i x
    refine ⟨x, r, ?_⟩
    cases x with
    | true => exact ⟨F, ρ', G', S', Ask.imp k gl fun d ρ2 k2 u H2 G2 S2 gl2 r2 => k2 u H2 G2 S2 (gl.trans gl2) r2⟩
    | false => exact k _ H' G' S' gl rfl⟩
theorem me_one {op : BoolOp} (h : PE X a (tE c m)) : PE X (.BoolOp op [a] pos) (tE c m) := pe_one h
theorem me_not (ha : PE X a (tE c m)) : PE X (.UnaryOp .Not a pos) (tE c (mNot m)) := pe_conseq (pe_not ha) fun σ H Q ⟨F, ρ, G, S, q⟩ =>
  ⟨F, ρ, G, S, (Ask.then q).imp (GLe.refl G) fun d ρ' k v H' G' S' gl r => by
    cases d <;> first | exact False.elim k | skip
    rename_i x
    exact ⟨x, r, k _ H' G' S' gl rfl⟩⟩
theorem me_if {ct : Expr} (ht : PT X ct (tT c t)) (ha : PE X a (tE c m)) (hb : PE X b (tE c n)) : PE X (.IfExp ct a b pos) (tE c (mIf t m n)) := pe_conseq (pe_ifExp ht ha hb) fun σ H Q ⟨F, ρ, G, S, q⟩ =>
  ⟨F, ρ, G, S, (Ask.then q).imp (GLe.refl G) fun x ρ' k H' G' S' gl => by
    have k' : tE c (if x = true then m else n) σ H' Q := by
      cases x <;> exact ⟨F, ρ', G', S', Ask.imp k gl fun d ρ2 k2 u H2 G2 S2 gl2 r2 => k2 u H2 G2 S2 (gl.trans gl2) r2⟩
    cases x <;> exact k'⟩
/-- .. as tests -/
theorem mw_and1 (ha : PT X a (tT c t)) : PW X (.BoolOp .And [a] pos) (tT c t) := pw_and1 ha
theorem mw_or1 (ha : PT X a (tT c t)) : PW X (.BoolOp .Or [a] pos) (tT c t) := pw_or1 ha
theorem pw_conseq {t t' : TT} (h : PW X e t) (hi : ∀ σ H Q, t' σ H Q → t σ H Q) : PW X e t' := ⟨fun w pins s σ H Q I q => h.run w pins s σ H Q I (hi _ _ _ q)⟩
theorem mw_and (ha : PT X a (tT c s)) (hb : PW X (.BoolOp .And (b :: rest) pos) (tT c t)) : PW X (.BoolOp .And (a :: b :: rest) pos) (tT c (bAnd s t)) := pw_conseq (pw_and ha hb) fun σ H Q ⟨F, ρ, G, S, q⟩ =>
  ⟨F, ρ, G, S, (Ask.then q).imp (GLe.refl G) fun x ρ' k H' G' S' gl => by
    cases x with
    | true => exact ⟨F, ρ', G', S', Ask.imp k gl fun d ρ2 k2 H2 G2 S2 gl2 => k2 H2 G2 S2 (gl.trans gl2)⟩
    | false => exact k H' G' S' gl⟩
theorem mw_or (ha : PT X a (tT c s)) (hb : PW X (.BoolOp .Or (b :: rest) pos) (tT c t)) : PW X (.BoolOp .Or (a :: b :: rest) pos) (tT c (bOr s t)) := pw_conseq (pw_or ha hb) fun σ H Q ⟨F, ρ, G, S, q⟩ =>
  ⟨F, ρ, G, S, (Ask.then q).imp (GLe.refl G) fun x ρ' k H' G' S' gl => by
    cases x with
    | false => exact ⟨F, ρ', G', S', Ask.imp k gl fun d ρ2 k2 H2 G2 S2 gl2 => k2 H2 G2 S2 (gl.trans gl2)⟩
    | true => exact k H' G' S' gl⟩
theorem mt_bool (h : PW X e (tT c t)) : PT X e (tT c t) := h.pt
theorem mt_not (ha : PT X a (tT c t)) : PT X (.UnaryOp .Not a pos) (tT c (bNot t)) := pt_conseq (pt_not ha) fun σ H Q ⟨F, ρ, G, S, q⟩ =>
  ⟨F, ρ, G, S, (Ask.then q).imp (GLe.refl G) fun x ρ' k H' G' S' gl => k H' G' S' gl⟩
end
def evm : List ME → Env → Rs (List D)
  | [], ρ => .ok [] ρ
  | m :: ms, ρ => (m ρ).then fun d ρ1 => (evm ms ρ1).then fun ds ρ2 => .ok (d :: ds) ρ2
def tMs (c : Ct) : List ME → TA
  | [] => tNil
  | m :: ms => tCons (tE c m) (tMs c ms)
def evo : List Opd → Env → Rs (List (Option D))
  | [], ρ => .ok [] ρ
  | o :: os, ρ => (o.ev ρ).then fun x ρ1 => (evo os ρ1).then fun xs ρ2 => .ok (x :: xs) ρ2
def fino : List Opd → List (Option D) → Env → Option (List D)
  | [], [], _ => some []
  | o :: os, x :: xs, ρ => (o.fin x ρ).bind fun d => (fino os xs ρ).map fun ds => d :: ds
  | _, _, _ => none
def tOs (c : Ct) : List Opd → TA
  | [] => tNil
  | o :: os => tCons (tO c o) (tOs c os)
def OpVs (c : Ct) (σ : L2.St) (G : Hp) : List Opd → List (Option D) → List V → Prop
  | [], [], [] => True
  | o :: os, x :: xs, v :: vs => OpV c σ G o x v ∧ OpVs c σ G os xs vs
  | _, _, _ => False
def VwL (K : PySem.W.Frag) (G H : Hp) : List D → List V → Prop
  | [], [] => True
  | d :: ds, v :: vs => Vw K G H d v ∧ VwL K G H ds vs
  | _, _ => False
section
variable {X : Cx} {c : Ct} {F : Fr} {ρ : Env} {σ : L2.St} {G H : Hp} {e : Expr} {es : List Expr} {pos : Pos}
theorem ms_nil : PA X [] (tMs c []) := pa_nil
theorem ms_cons {m : ME} {ms : List ME} (h : PE X e (tE c m)) (hr : PA X es (tMs c ms)) (hs : starEach (e :: es) X.env = (false, eval e X.env) :: starEach es X.env := by rfl) : PA X (e :: es) (tMs c (m :: ms)) := pa_cons h hr hs
theorem mo_nil : PA X [] (tOs c []) := pa_nil
theorem mo_cons {o : Opd} {os : List Opd} (h : PE X e (tO c o)) (hr : PA X es (tOs c os)) (hs : starEach (e :: es) X.env = (false, eval e X.env) :: starEach es X.env := by rfl) : PA X (e :: es) (tOs c (o :: os)) := pa_cons h hr hs
theorem tMs_ev : ∀ {ms : List ME} {ρ : Env} {G H : Hp} {R : List V → Hp → Prop}, State c F ρ σ G H →
    Ask c F σ G (fun ds ρ' => ∀ vs H' G', State c F ρ' σ G' H' → GLe G G' → RpL c.K G' ds vs → vs.length = ms.length → R vs H') (evm ms ρ) → tMs c ms σ H R
  | [], ρ, G, H, R, S, a => a [] H G S (GLe.refl G) rfl rfl
  | m :: ms, ρ, G, H, R, S, a => by
    refine ⟨F, ρ, G, S, (Ask.then a).imp (GLe.refl G) fun d ρ1 a1 v H1 G1 S1 g1 r1 => ?_⟩
    refine tMs_ev S1 ((Ask.then a1).imp g1 fun ds ρ2 k vs H2 G2 S2 g2 r2 hl => ?_)
    exact k (v :: vs) H2 G2 S2 (g1.trans g2) ⟨v, vs, rfl, Rp.mono g2 d v r1, r2⟩ (by rw [List.length_cons, List.length_cons, hl])
theorem OpVs.vw (S : State c F ρ σ G H) : ∀ {os : List Opd} {xs : List (Option D)} {vs : List V} {ds : List D}, OpVs c σ G os xs vs → fino os xs ρ = some ds → VwL c.K G H ds vs
  | [], [], [], ds, _, h => by
    cases h
    trivial
  | o :: os, x :: xs, v :: vs, ds, hv, h => by
    unfold fino at h
    cases e1 : o.fin x ρ with
    | none => rw [e1] at h; cases h
    | some d =>
      rw [e1] at h
      cases e2 : fino os xs ρ with
      | none => rw [e2] at h; cases h
      | some r =>
        rw [e2] at h
        cases h
        exact ⟨hv.1.vw S e1, OpVs.vw S hv.2 e2⟩
theorem tOs_ev : ∀ {os : List Opd} {ρ : Env} {G H : Hp} {R : List V → Hp → Prop}, State c F ρ σ G H →
    Ask c F σ G (fun xs ρ' => ∀ vs H' G', State c F ρ' σ G' H' → GLe G G' → OpVs c σ G' os xs vs → R vs H') (evo os ρ) → tOs c os σ H R
  | [], ρ, G, H, R, S, a => a [] H G S (GLe.refl G) trivial
  | o :: os, ρ, G, H, R, S, a => by
    refine tO_ev (R := fun v H1 => tOs c os σ H1 fun vs H2 => R (v :: vs) H2) S ((Ask.then a).imp (GLe.refl G) fun x ρ1 a1 v H1 G1 S1 g1 r1 => ?_)
    refine tOs_ev S1 ((Ask.then a1).imp g1 fun xs ρ2 k vs H2 G2 S2 g2 r2 => ?_)
    exact k (v :: vs) H2 G2 S2 (g1.trans g2) ⟨r1.mono g2, r2⟩
def mTup (ms : List ME) : ME := fun ρ => (evm ms ρ).then fun ds ρ' => .ok (.tuple ds) ρ'
def mLst (ms : List ME) : ME := fun ρ => (evm ms ρ).then fun ds ρ' => .ok (.list ds) ρ'
theorem me_tup {ms : List ME} {x1 : Nat} (h : PA X es (tMs c ms)) (hz : ms.length ≤ sizeLine := by decide) : PE X (.Tuple es x1 pos) (tE c (mTup ms)) := pe_conseq (pe_tup h) fun σ H Q ⟨F, ρ, G, S, a⟩ => by
  refine tMs_ev S ((Ask.then a).imp (GLe.refl G) fun ds ρ' k vs H' G' S' gl r hl => ⟨by rw [hl]; exact hz, fun p hp => ?_⟩)
  have gl2 : GLe G' (upd G' p (.tup vs)) := GLe.upd (S'.gnone hp)
  exact k _ _ _ (S'.add hp) (gl.trans gl2) ((ObjD.tup (RpL.mono gl2 _ _ r)).rp upd_same)
theorem fe_lst {ms : List ME} (h : PA X es (tMs c ms)) (hz : ms.length ≤ sizeLine := by decide) : PE X (.List es pos) (tF c (mLst ms)) := pe_conseq (pe_lst h) fun σ H Q ⟨F, ρ, G, S, a⟩ => by
  refine tMs_ev S ((Ask.then a).imp (GLe.refl G) fun ds ρ' k vs H' G' S' gl r hl => ⟨by rw [hl]; exact hz, fun p hp => ?_⟩)
  exact k p _ G' (S'.alloc hp trivial) gl (NewAt.of S' hp (.lst r) trivial)
def PrimL (K : PySem.W.Frag) (g : List D → Option D) (r : List V → Hp → VK → Prop) : Prop := ∀ (G H : Hp) (xs : List V) (ds : List D) (d : D) (Q : VK), Sub G H → VwL K G H ds xs → g ds = some d → (∀ v H', POut K G H d v H' → Q v H') → r xs H Q
def PrimNL (K : PySem.W.Frag) (g : List D → Option D) (r : List V → Hp → VK → Prop) : Prop := ∀ (G H : Hp) (xs : List V) (ds : List D) (d : D) (Q : VK), Sub G H → VwL K G H ds xs → g ds = some d → (∀ v H', PNew K G H d v H' → Q v H') → r xs H Q
def mFn (g : List D → Option D) (os : List Opd) : ME := fun ρ => (evo os ρ).then fun xs ρ' => match fino os xs ρ' with
  | some ds => (match g ds with
    | some d => .ok d ρ'
    | none => .stuck)
  | none => .stuck
theorem tOs_fn {os : List Opd} {g : List D → Option D} {R : List V → Hp → Prop} {k : D → Env → Prop} (S : State c F ρ σ G H) (a : Ask c F σ G k (mFn g os ρ))
    (hR : ∀ (ρ2 : Env) (G2 H2 : Hp) (xs : List V) (ds : List D) (d : D), State c F ρ2 σ G2 H2 → GLe G G2 → VwL c.K G2 H2 ds xs → g ds = some d → k d ρ2 → R xs H2) : tOs c os σ H R := by
  refine tOs_ev S ((Ask.then a).imp (GLe.refl G) fun xs ρ2 a1 vs H2 G2 S2 g2 r2 => ?_)
  cases e1 : fino os xs ρ2 with
  | none => rw [e1] at a1; exact a1.elim
  | some ds =>
    rw [e1] at a1
    cases e2 : g ds with
    | none => simp only [e2] at a1; exact a1.elim
    | some d =>
      simp only [e2] at a1
      exact hR ρ2 G2 H2 vs ds d S2 g2 (r2.vw S2 e1) e2 a1
theorem tCB_e {os : List Opd} {g : List D → Option D} {r : List V → Hp → VK → Prop} (hp : PrimL c.K g r) {Q : VK} (h : tE c (mFn g os) σ H Q) : tCB r (tOs c os) σ H Q := by
  obtain ⟨F, ρ, G, S, a⟩ := h
  refine tOs_fn S a fun ρ2 G2 H2 xs ds d S2 gl v e k => ?_
  refine hp G2 H2 xs ds d Q S2.sub v e fun v H' po => ?_
  obtain ⟨G', S', gl', r⟩ := po.state S2
  exact k v H' G' S' (gl.trans gl') r
theorem tCB_f {os : List Opd} {g : List D → Option D} {r : List V → Hp → VK → Prop} (hp : PrimNL c.K g r) {Q : VK} (h : tF c (mFn g os) σ H Q) : tCB r (tOs c os) σ H Q := by
  obtain ⟨F, ρ, G, S, a⟩ := h
  refine tOs_fn S a fun ρ2 G2 H2 xs ds d S2 gl v e k => ?_
  refine hp G2 H2 xs ds d Q S2.sub v e fun v H' ⟨p, o, ev, n, eH, x, hm⟩ => ?_
  rw [ev, eH]
  exact k p _ G2 (S2.alloc n hm) gl (NewAt.of S2 n x hm)
end

set_option autoImplicit true
inductive FR where
  | ok (d : D) (back : List D) | ex (e : Exn) | stuck
abbrev FM := List Sl → FR
/-- the arguments as they lie -/
def ArgsOk (K : PySem.W.Frag) (G H : Hp) : List Sl → List V → Prop
  | [], [] => True
  | .fz d :: ss, v :: vs => Rp K G d v ∧ ArgsOk K G H ss vs
  | .own d :: ss, v :: vs => (∃ p, v = .ref p ∧ Own K G H d p) ∧ ArgsOk K G H ss vs
  | _, _ => False
/-- the owned arguments' objects -/
def owns : List Sl → List V → List Addr
  | .own _ :: ss, .ref p :: vs => p :: owns ss vs
  | _ :: ss, _ :: vs => owns ss vs
  | _, _ => []
def BackOk (K : PySem.W.Frag) (G H : Hp) : List D → List Addr → Prop
  | [], [] => True
  | d :: ds, p :: ps => Own K G H d p ∧ BackOk K G H ds ps
  | _, _ => False
/-- what a call leaves: all but the owned arguments (and the tables) stands -/
structure Post (T : List (Addr × Str)) (G H G' H' : Hp) (os : List Addr) : Prop where
  gl : GLe G G'
  sub : Sub G' H'
  tab : Tabs T H'
  tabG : ∀ p ∈ T, G' p.1 = none
  fg : ∀ a u, H a = some u → FgG G a u → a ∉ os → (∀ ps, u ≠ .tbl ps) → H' a = some u ∧ FgG G' a u
  dom : ∀ a, Dm H a → Dm H' a
  tupG : ∀ (q : Addr) (ks : List Key), H' q = some (.tup (ks.map kV)) → G' q = some (.tup (ks.map kV))
def spM (K : PySem.W.Frag) (T : List (Addr × Str)) (mg : Str → Option Value) (n : Nat) (f : FM) : Sp := fun vs H Q E => vs.length = n ∧ ∃ (G : Hp) (ss : List Sl), Sub G H ∧ Tabs T H ∧ (∀ p ∈ T, G p.1 = none) ∧ (∀ (q : Addr) (ks : List Key), H q = some (.tup (ks.map kV)) → G q = some (.tup (ks.map kV))) ∧ ArgsOk K G H ss vs ∧ (owns ss vs).Nodup ∧
  match f ss with
  | .ok d back => ∀ v H' G', Post T G H G' H' (owns ss vs) → Rp K G' d v → BackOk K G' H' back (owns ss vs) → Q v H'
  | .ex e => ∀ cls dx H' G', Post T G H G' H' (owns ss vs) → ExOk ⟨K, T, mg, fun _ _ _ _ => False, []⟩ G' e cls dx H' → E cls dx H'
  | .stuck => False
inductive Arg where
  | v (m : ME) | io (i : Nat)
def Arg.opd : Arg → Opd
  | .v m => .ex m
  | .io i => .sl i
def eva : List Arg → Env → Rs (List (Option D))
  | [], ρ => .ok [] ρ
  | a :: as, ρ => (a.opd.ev ρ).then fun x ρ1 => (eva as ρ1).then fun xs ρ2 => .ok (x :: xs) ρ2
/-- the slots that are handed over -/
def sls : List Arg → List (Option D) → Env → Option (List Sl)
  | [], [], _ => some []
  | .v _ :: as, some d :: xs, ρ => (sls as xs ρ).map fun r => .fz d :: r
  | .io i :: as, _ :: xs, ρ => match ρ[i]? with
    | some (.own d) => (sls as xs ρ).map fun r => .own d :: r
    | _ => none
  | _, _, _ => none
def ioIx : List Arg → List Nat
  | [] => []
  | .v _ :: as => ioIx as
  | .io i :: as => i :: ioIx as
def putBack : List Nat → List D → Env → Env
  | i :: is, d :: ds, ρ => putBack is ds (ρ.set i (.own d))
  | _, _, ρ => ρ
def mCall (f : FM) (as : List Arg) : ME := fun ρ => (eva as ρ).then fun xs ρ' => match sls as xs ρ' with
  | some ss => (match f ss with
    | .ok d back => .ok d (putBack (ioIx as) back ρ')
    | .ex e => if ioIx as = [] then .ex e ρ' else .stuck
    | .stuck => .stuck)
  | none => .stuck
def tAs (c : Ct) : List Arg → TA
  | [] => tNil
  | a :: as => tCons (tO c a.opd) (tAs c as)
section
variable {X : Cx} {c : Ct} {F : Fr} {ρ : Env} {σ : L2.St} {G H : Hp} {e : Expr} {es : List Expr} {pos : Pos}
theorem ma_nil : PA X [] (tAs c []) := pa_nil
theorem ma_v {m : ME} {as : List Arg} (h : PE X e (tE c m)) (hr : PA X es (tAs c as)) (hs : starEach (e :: es) X.env = (false, eval e X.env) :: starEach es X.env := by rfl) : PA X (e :: es) (tAs c (.v m :: as)) := pa_cons h hr hs
theorem ma_io {i : Nat} {as : List Arg} (h : PE X e (tVar i)) (hr : PA X es (tAs c as)) (hs : starEach (e :: es) X.env = (false, eval e X.env) :: starEach es X.env := by rfl) : PA X (e :: es) (tAs c (.io i :: as)) := pa_cons h hr hs
theorem tAs_eq : ∀ as : List Arg, tAs c as = tOs c (as.map Arg.opd)
  | [] => rfl
  | a :: as => by show tCons _ _ = tCons _ _; rw [tAs_eq as]
theorem eva_eq : ∀ (as : List Arg) (ρ : Env), eva as ρ = evo (as.map Arg.opd) ρ
  | [], _ => rfl
  | a :: as, ρ => by
    show Rs.then _ _ = Rs.then _ _
    congr 1
    funext x ρ1
    rw [eva_eq as ρ1]
theorem sls_args (S : State c F ρ σ G H) : ∀ {as : List Arg} {xs : List (Option D)} {vs : List V} {ss : List Sl}, OpVs c σ G (as.map Arg.opd) xs vs → sls as xs ρ = some ss →
    ArgsOk c.K G H ss vs ∧ vs.length = as.length ∧ (∃ qs : List (Nat × Addr), qs.map (·.1) = ioIx as ∧ qs.map (·.2) = owns ss vs ∧ ∀ q ∈ qs, σ[q.1]? = some (some (V.ref q.2)) ∧ ∃ d, ρ[q.1]? = some (.own d))
  | [], [], [], ss, _, h => by
    cases h
    exact ⟨trivial, rfl, [], rfl, rfl, fun _ z => (nomatch z)⟩
  | .v m :: as, x :: xs, v :: vs, ss, hv, h => by
    obtain ⟨⟨d, e, r⟩, hr⟩ := hv
    subst e
    simp only [sls] at h
    cases e2 : sls as xs ρ with
    | none => rw [e2] at h; cases h
    | some r2 =>
      rw [e2] at h
      cases h
      obtain ⟨h1, h2, qs, h3, h4, h5⟩ := sls_args S hr e2
      refine ⟨⟨r, h1⟩, by rw [List.length_cons, List.length_cons, h2], qs, h3, ?_, h5⟩
      rw [h4]
      cases v <;> rfl
  | .io i :: as, x :: xs, v :: vs, ss, hv, h => by
    obtain ⟨hv1, hr⟩ := hv
    have hv1 : σ[i]? = some (some v) := hv1
    simp only [sls] at h
    split at h
    · rename_i d e1
      cases e2 : sls as xs ρ with
      | none => rw [e2] at h; cases h
      | some r2 =>
        rw [e2] at h
        cases h
        obtain ⟨h1, h2, qs, h3, h4, h5⟩ := sls_args S hr e2
        obtain ⟨p, ep, ow, _⟩ := S.own_at e1
        rw [hv1] at ep
        cases ep
        refine ⟨⟨⟨p, rfl, ow⟩, h1⟩, by rw [List.length_cons, List.length_cons, h2], (i, p) :: qs, ?_, ?_, fun q hq => ?_⟩
        · rw [List.map_cons, h3]; rfl
        · rw [List.map_cons, h4]; rfl
        · rcases List.mem_cons.mp hq with e | e
          · subst e
            exact ⟨hv1, d, e1⟩
          · exact h5 q e
    · cases h
theorem nodup_of {qs : List (Nat × Addr)} (hn : (qs.map (·.1)).Nodup) (S : State c F ρ σ G H) (hq : ∀ q ∈ qs, σ[q.1]? = some (some (V.ref q.2)) ∧ ∃ d, ρ[q.1]? = some (.own d)) : (qs.map (·.2)).Nodup := by
  induction qs with
  | nil => exact List.nodup_nil
  | cons q r ih =>
    rw [List.map_cons, List.nodup_cons] at hn ⊢
    refine ⟨fun hm => ?_, ih hn.2 fun z hz => hq z (List.mem_cons_of_mem _ hz)⟩
    obtain ⟨z, hz, e⟩ := List.mem_map.mp hm
    obtain ⟨a1, d1, a2⟩ := hq q List.mem_cons_self
    obtain ⟨b1, d2, b2⟩ := hq z (List.mem_cons_of_mem _ hz)
    rw [e] at b1
    have := S.apart _ _ _ _ _ a2 b2 a1 b1
    exact hn.1 (by rw [this]; exact List.mem_map.mpr ⟨z, hz, rfl⟩)
/-- behind the callee, ahead of its own slots' being put back: the owned slots of the call are empty -/
theorem State.back (S : State c F ρ σ G H) {G' H' : Hp} {os : List Addr} (P : Post c.T G H G' H' os) : ∀ (qs : List (Nat × Addr)) (ds : List D), (qs.map (·.1)).Nodup → (∀ q ∈ qs, σ[q.1]? = some (some (V.ref q.2)) ∧ ∃ d, ρ[q.1]? = some (.own d)) →
    qs.map (·.2) = os → BackOk c.K G' H' ds os → State c F (putBack (qs.map (·.1)) ds ρ) σ G' H' := by
  intro qs ds hn hq ho hb
  have key : ∀ (qs : List (Nat × Addr)) (ds : List D) (ρ1 : Env), (qs.map (·.1)).Nodup → (∀ q ∈ qs, σ[q.1]? = some (some (V.ref q.2)) ∧ (∃ d, ρ1[q.1]? = some (.own d)) ∧ (¬ F.dom q.2 ∨ (q.1, q.2) ∈ F.io)) → BackOk c.K G' H' ds (qs.map (·.2)) →
      ρ1.length = σ.length → (∀ (i j : Nat) (p : Addr) (d e : D), ρ1[i]? = some (.own d) → ρ1[j]? = some (.own e) → σ[i]? = some (some (.ref p)) → σ[j]? = some (some (.ref p)) → i = j) →
      (∀ (i : Nat) (s : Sl), ρ1[i]? = some s → i ∉ qs.map (·.1) → SlOk c.K G' H' F σ i s) → State c F (putBack (qs.map (·.1)) ds ρ1) σ G' H' := by
    intro qs
    induction qs with
    | nil =>
      intro ds ρ1 _ _ _ hl ha hs
      have e : putBack (([] : List (Nat × Addr)).map (·.1)) ds ρ1 = ρ1 := by cases ds <;> rfl
      rw [e]
      refine ⟨P.sub, fun a u ea => ?_, S.wf, fun a ea => P.dom a (S.dom a ea), P.tab, P.tabG, hl, fun i s ei => hs i s ei (by simp), ha, S.io, S.ios, S.ioD, P.tupG⟩
      obtain ⟨e1, e2⟩ := S.fg a u ea
      refine P.fg a u e1 e2 (fun hm => ?_) (fun ps z => ?_)
      · rw [← ho] at hm
        obtain ⟨q, hqm, eq⟩ := List.mem_map.mp hm
        obtain ⟨s1, d, s2⟩ := hq q hqm
        obtain ⟨p, e3, _, e4⟩ := S.own_at s2
        rw [s1] at e3
        cases e3
        have := S.own_fg e4
        rw [eq] at this
        rw [this] at ea
        cases ea
      · exact (S.wf a u ea).2.2 ps z
    | cons q r ih =>
      intro ds ρ1 hn hq hb hl ha hs
      cases ds with
      | nil => exact (show False from hb).elim
      | cons d ds =>
        obtain ⟨hb1, hb2⟩ := hb
        rw [List.map_cons, List.nodup_cons] at hn
        obtain ⟨h1, ⟨d0, h2⟩, h3⟩ := hq q List.mem_cons_self
        show State c F (putBack (r.map (·.1)) ds (ρ1.set q.1 (.own d))) σ G' H'
        refine ih ds (ρ1.set q.1 (.own d)) hn.2 (fun z hz => ?_) hb2 (by rw [List.length_set]; exact hl) (fun i j p x y e1 e2 e3 e4 => ?_) (fun i s ei hi => ?_)
        · obtain ⟨z1, ⟨dz, z2⟩, z3⟩ := hq z (List.mem_cons_of_mem _ hz)
          have ne : q.1 ≠ z.1 := fun e => hn.1 (by rw [e]; exact List.mem_map.mpr ⟨z, hz, rfl⟩)
          exact ⟨z1, ⟨dz, by rw [List.getElem?_set_ne ne]; exact z2⟩, z3⟩
        · have ex : ∀ (k : Nat) (w : D), (ρ1.set q.1 (.own d))[k]? = some (.own w) → ∃ w', ρ1[k]? = some (.own w') := fun k w ek => by
            rcases get_set ek with ⟨rfl, _⟩ | ⟨_, ek⟩
            · exact ⟨d0, h2⟩
            · exact ⟨w, ek⟩
          obtain ⟨x', ex1⟩ := ex i x e1
          obtain ⟨y', ey1⟩ := ex j y e2
          exact ha i j p x' y' ex1 ey1 e3 e4
        · rcases get_set ei with ⟨rfl, rfl⟩ | ⟨ne, ei⟩
          · exact ⟨q.2, h1, hb1, h3⟩
          · exact hs i s ei (by rw [List.map_cons, List.mem_cons, not_or]; exact ⟨fun e => ne e.symm, hi⟩)
  refine key qs ds ρ hn (fun q hqm => ?_) (by rw [ho]; exact hb) S.len S.apart (fun i s ei hi => ?_)
  · obtain ⟨s1, d, s2⟩ := hq q hqm
    obtain ⟨p, e3, _, e4⟩ := S.own_at s2
    rw [s1] at e3
    cases e3
    exact ⟨s1, ⟨d, s2⟩, e4⟩
  · refine (S.sl i s ei).mono P.gl fun p d es ep ow => ?_
    obtain ⟨hg, o, hoo, hd, _⟩ := ow
    have hno : p ∉ os := fun hm => by
      rw [← ho] at hm
      obtain ⟨q, hqm, eq⟩ := List.mem_map.mp hm
      obtain ⟨s1, d', s2⟩ := hq q hqm
      rw [eq] at s1
      have := S.apart i q.1 p d d' (by rw [ei, es]) s2 ep s1
      exact hi (by rw [this]; exact List.mem_map.mpr ⟨q, hqm, rfl⟩)
    obtain ⟨z1, z2⟩ := P.fg p o hoo (.inl hg) hno hd.notTbl.1
    exact ⟨z2.none hd.notTbl.2, by rw [z1, hoo]⟩
theorem me_call {k : Nat} {f : Addr} {fd : FuncData} {ps : List Str} {x : Str} {p : Pos} {n : Nat} {m : FM} {as : List Arg} (Fn : FnOk X.prog X.w X.K X.mg X.base (L2.CX X.prog X.w) k f fd ps (spM c.K c.T c.mg n m)) (hr : Room k X.A) (tk : Takes X c.W)
    (hg : Gl X x) (hm : X.mg x = some (.ref f)) (hk : PySem.W.keepIn X.K (.ref f) = true) (hb : Binds X.K fd ps []) (ha : PA X (e :: es) (tAs c as)) (hl : as.length = n := by rfl) (hnd : (ioIx as).Nodup := by decide)
    (hdb : (x == ("__debug__" : Str)) = false := by decide) (he : starEach (e :: es) X.env = (false, eval e X.env) :: starEach es X.env := by rfl) (hpl : (backTo pos (starEach es X.env)).any (·.1) = false := by rfl) :
    PE X (.Call (.Name x p) (e :: es) [] pos) (tE c (mCall m as)) := pe_conseq (pe_callS Fn hr hg hm hk hb (fun σ => passAt tk σ) ha hdb he hpl) fun σ H Q ⟨F, ρ, G, S, a⟩ => by
  show tAs c as σ H fun vs H1 => spM c.K c.T c.mg n m vs H1 Q (WE c.W σ)
  rw [tAs_eq]
  refine tOs_ev S ?_
  rw [← eva_eq]
  refine (Ask.then a).imp (GLe.refl G) fun xs ρ1 a1 vs H1 G1 S1 g1 hv => ?_
  cases es : sls as xs ρ1 with
  | none => rw [es] at a1; exact a1.elim
  | some ss =>
    rw [es] at a1
    simp only at a1
    obtain ⟨h1, h2, qs, h3, h4, h5⟩ := sls_args S1 hv es
    have hn : (qs.map (·.1)).Nodup := by rw [h3]; exact hnd
    refine ⟨by rw [h2, hl], G1, ss, S1.sub, S1.tab, S1.tabG, S1.tupG, h1, by rw [← h4]; exact nodup_of hn S1 h5, ?_⟩
    cases em : m ss with
    | ok d back =>
      rw [em] at a1
      simp only at a1 ⊢
      intro v H' G' P r hbk
      have S' := S1.back P qs back hn h5 h4 hbk
      rw [h3] at S'
      exact a1 v H' G' S' (g1.trans P.gl) r
    | ex e =>
      rw [em] at a1
      simp only at a1 ⊢
      by_cases e0 : ioIx as = []
      · rw [if_pos e0] at a1
        intro cls dx H' G' P x
        have q0 : qs = [] := by
          rw [e0] at h3
          exact List.map_eq_nil_iff.mp h3
        have o0 : owns ss vs = [] := by rw [← h4, q0]; rfl
        rw [o0] at P
        have S' := S1.back P [] [] List.nodup_nil (fun _ z => (nomatch z)) rfl trivial
        exact a1 cls dx H' G' S' (g1.trans P.gl) x
      · rw [if_neg e0] at a1
        exact a1.elim
    | stuck => rw [em] at a1; exact False.elim a1
end

set_option autoImplicit true
def Fr.plus (F : Fr) (p : Addr) (o : HO) : Fr := ⟨upd F.fg p o, fun a => F.dom a ∨ a = p, F.io⟩
section
variable {c : Ct} {F : Fr} {ρ : Env} {σ : L2.St} {G H : Hp}
theorem State.plus (S : State c F ρ σ G H) {d : D} {p : Addr} {o : HO} (n : NewAt c F ρ σ G H d p) (ho : H p = some o) : State c (F.plus p o) ρ σ G H := by
  obtain ⟨ow, nd, na⟩ := n
  obtain ⟨hg, o', ho', hd, hm⟩ := id ow
  rw [ho] at ho'
  cases ho'
  refine ⟨S.sub, fun a u e => ?_, fun a u e => ?_, fun a e => ?_, S.tab, S.tabG, S.len, fun i s e => ?_, S.apart, S.io, S.ios, fun q hq => .inl (S.ioD q hq), S.tupG⟩
  · by_cases z : a = p
    · subst z
      have e' : upd F.fg a o a = some u := e
      rw [upd_same] at e'
      cases e'
      exact ⟨ho, .inl hg⟩
    · have e' : upd F.fg p o a = some u := e
      rw [upd_ne z] at e'
      exact S.fg a u e'
  · by_cases z : a = p
    · subst z
      have e' : upd F.fg a o a = some u := e
      rw [upd_same] at e'
      cases e'
      exact ⟨.inr rfl, fun i hi => nd (S.ioD _ hi), hd.notTbl.1⟩
    · have e' : upd F.fg p o a = some u := e
      rw [upd_ne z] at e'
      obtain ⟨h1, h2, h3⟩ := S.wf a u e'
      exact ⟨.inl h1, h2, h3⟩
  · rcases e with e | e
    · exact S.dom a e
    · subst e
      exact ⟨o, ho, hd.notTbl.1⟩
  · cases s with
    | no => trivial
    | fz d => exact S.sl i _ e
    | own d =>
      obtain ⟨q, e1, e2, e3⟩ := S.own_at e
      refine ⟨q, e1, e2, ?_⟩
      rcases e3 with e3 | e3
      · refine .inl fun z => z.elim e3 fun z => ?_
        rw [z] at e1
        exact na i d e e1
      · exact .inr e3
/-- .. and may be let go -/
theorem State.minus {p : Addr} {o : HO} (nd : ¬ F.dom p) (hf : F.fg p = none) (S : State c (F.plus p o) ρ σ G H) : State c F ρ σ G H where
  sub := S.sub
  fg := fun a u e => S.fg a u (by show upd F.fg p o a = some u; rw [upd_ne (ne_of_none e hf)]; exact e)
  wf := fun a u e => by
    obtain ⟨h1, h2, h3⟩ := S.wf a u (by show upd F.fg p o a = some u; rw [upd_ne (ne_of_none e hf)]; exact e)
    refine ⟨h1.elim id fun z => ?_, h2, h3⟩
    rw [z, hf] at e
    cases e
  dom := fun a e => S.dom a (.inl e)
  tab := S.tab
  tabG := S.tabG
  len := S.len
  sl := fun i s e => by
    cases s with
    | no => trivial
    | fz d => exact S.sl i _ e
    | own d =>
      obtain ⟨q, e1, e2, e3⟩ := S.own_at e
      exact ⟨q, e1, e2, e3.imp (fun z y => z (.inl y)) id⟩
  apart := S.apart
  io := S.io
  ios := S.ios
  ioD := fun q hq => (S.ioD q hq).elim id fun z => by
    -- p itself is none of them
    exfalso
    have : (q.1, q.2) ∈ (F.plus p o).io := hq
    have h2 := (S.wf p o (by show upd F.fg p o p = some o; exact upd_same)).2.1 q.1
    rw [← z] at h2
    exact h2 hq
  tupG := S.tupG
/-- what stood beside is a new container still -/
theorem NewAt.still {d : D} {p : Addr} {o : HO} (nd : ¬ F.dom p) (hd : ObjD c.K G d o) (hm : Mut (some o)) (S : State c (F.plus p o) ρ σ G H) : NewAt c F ρ σ G H d p := by
  obtain ⟨h1, h2⟩ := S.fg p o (by show upd F.fg p o p = some o; exact upd_same)
  refine ⟨⟨h2.none hd.notTbl.2, o, h1, hd, hm⟩, nd, fun i e ei es => ?_⟩
  obtain ⟨q, e1, _, e3⟩ := S.own_at ei
  rw [es] at e1
  cases e1
  rcases e3 with e3 | e3
  · exact e3 (.inr rfl)
  · exact (S.wf p o (by show upd F.fg p o p = some o; exact upd_same)).2.1 i e3
theorem NewAt.fgn {d : D} {p : Addr} (S : State c F ρ σ G H) (n : NewAt c F ρ σ G H d p) : F.fg p = none := by
  cases e : F.fg p with
  | none => rfl
  | some u => exact (n.2.1 (S.wf p u e).1).elim
theorem Ask.minus {p : Addr} {o : HO} {α : Type} {k : α → Env → Prop} {r : Rs α} (nd : ¬ F.dom p) (hf : F.fg p = none) (h : Ask c F σ G k r) : Ask c (F.plus p o) σ G k r := by
  cases r with
  | ok a ρ => exact h
  | ex e ρ => exact fun cls dx H' G' S gl x => h cls dx H' G' (S.minus nd hf) gl x
  | stuck => exact h
theorem mem_ios {i : Nat} (S : State c F ρ σ G H) (hi : i ∉ c.ios) : ∀ q ∈ F.io, q.1 ≠ i := fun q hq e => hi (by rw [← S.ios, ← e]; exact List.mem_map.mpr ⟨q, hq, rfl⟩)
theorem State.setFz (S : State c F ρ σ G H) {i : Nat} {d : D} {v : V} (r : Rp c.K G d v) (hi : i ∉ c.ios) : State c F (ρ.set i (.fz d)) (σ.set i (some v)) G H := by
  refine ⟨S.sub, S.fg, S.wf, S.dom, S.tab, S.tabG, by rw [List.length_set, List.length_set]; exact S.len, fun j s e => ?_, fun j k p x y h1 h2 h3 h4 => ?_, fun q hq => ?_, S.ios, S.ioD, S.tupG⟩
  · rcases get_set e with ⟨rfl, rfl⟩ | ⟨ne, e⟩
    · have hl : i < σ.length := by
        have h1 := (List.getElem?_eq_some_iff.mp e).1
        rw [List.length_set, S.len] at h1
        exact h1
      exact ⟨v, by rw [List.getElem?_set_self hl], r⟩
    · have q := S.sl j s e
      cases s with
      | no => trivial
      | fz x =>
        obtain ⟨u, e1, e2⟩ := q
        exact ⟨u, by rw [List.getElem?_set_ne ne]; exact e1, e2⟩
      | own x =>
        obtain ⟨p, e1, e2⟩ := q
        exact ⟨p, by rw [List.getElem?_set_ne ne]; exact e1, e2⟩
  · rcases get_set h1 with ⟨_, z⟩ | ⟨n1, h1⟩
    · cases z
    · rcases get_set h2 with ⟨_, z⟩ | ⟨n2, h2⟩
      · cases z
      · rw [List.getElem?_set_ne n1] at h3
        rw [List.getElem?_set_ne n2] at h4
        exact S.apart j k p x y h1 h2 h3 h4
  · rw [List.getElem?_set_ne (fun e => mem_ios S hi q hq e.symm)]
    exact S.io q hq
theorem State.setOwn (S : State c F ρ σ G H) {i : Nat} {d : D} {p : Addr} (n : NewAt c F ρ σ G H d p) (hi : i ∉ c.ios) : State c F (ρ.set i (.own d)) (σ.set i (some (.ref p))) G H := by
  obtain ⟨ow, nd, na⟩ := n
  refine ⟨S.sub, S.fg, S.wf, S.dom, S.tab, S.tabG, by rw [List.length_set, List.length_set]; exact S.len, fun j s e => ?_, fun j k q x y h1 h2 h3 h4 => ?_, fun q hq => ?_, S.ios, S.ioD, S.tupG⟩
  · rcases get_set e with ⟨rfl, rfl⟩ | ⟨ne, e⟩
    · have hl : i < σ.length := by
        have h1 := (List.getElem?_eq_some_iff.mp e).1
        rw [List.length_set, S.len] at h1
        exact h1
      exact ⟨p, by rw [List.getElem?_set_self hl], ow, .inl nd⟩
    · have q := S.sl j s e
      cases s with
      | no => trivial
      | fz x =>
        obtain ⟨u, e1, e2⟩ := q
        exact ⟨u, by rw [List.getElem?_set_ne ne]; exact e1, e2⟩
      | own x =>
        obtain ⟨p, e1, e2⟩ := q
        exact ⟨p, by rw [List.getElem?_set_ne ne]; exact e1, e2⟩
  · rcases get_set h1 with ⟨rfl, _⟩ | ⟨n1, h1⟩
    · rcases get_set h2 with ⟨rfl, _⟩ | ⟨n2, h2⟩
      · rfl
      · rw [List.getElem?_set_ne n2] at h4
        have hl : i < σ.length := by
          by_cases hl : i < σ.length
          · exact hl
          · rw [List.getElem?_eq_none (by rw [List.length_set]; omega)] at h3
            cases h3
        rw [List.getElem?_set_self hl] at h3
        cases h3
        exact (na k y h2 h4).elim
    · rw [List.getElem?_set_ne n1] at h3
      rcases get_set h2 with ⟨rfl, _⟩ | ⟨n2, h2⟩
      · have hl : i < σ.length := by
          by_cases hl : i < σ.length
          · exact hl
          · rw [List.getElem?_eq_none (by rw [List.length_set]; omega)] at h4
            cases h4
        rw [List.getElem?_set_self hl] at h4
        cases h4
        exact (na j x h1 h3).elim
      · rw [List.getElem?_set_ne n2] at h4
        exact S.apart j k q x y h1 h2 h3 h4
  · rw [List.getElem?_set_ne (fun e => mem_ios S hi q hq e.symm)]
    exact S.io q hq
/-- an owned object changes -/
theorem State.change (S : State c F ρ σ G H) {i : Nat} {d d' : D} {p : Addr} {o : HO} (e : ρ[i]? = some (.own d)) (es : σ[i]? = some (some (.ref p))) (hd : ObjD c.K G d' o) (hm : Mut (some o)) : State c F (ρ.set i (.own d')) σ G (upd H p o) := by
  obtain ⟨p', e1, ow, q⟩ := S.own_at e
  rw [es] at e1
  cases e1
  obtain ⟨hg, o0, ho, hd0, hm0⟩ := id ow
  have nfg := S.own_fg q
  refine ⟨⟨fun a u r => ?_, S.sub.2⟩, fun a u ea => ?_, S.wf, fun a ea => ?_, fun t ht => ?_, S.tabG, by rw [List.length_set]; exact S.len, fun j s ej => ?_, fun j k b x y h1 h2 h3 h4 => ?_, S.io, S.ios, S.ioD, fun q ks eq => ?_⟩
  · have ne : a ≠ p := fun z => by
      rw [z, hg] at r
      cases r
    rcases S.sub.1 a u r with h | ⟨id, ob, h⟩
    · exact .inl (by rw [upd_ne ne]; exact h)
    · exact .inr ⟨id, ob, by rw [upd_ne ne]; exact h⟩
  · obtain ⟨h1, h2⟩ := S.fg a u ea
    exact ⟨by rw [upd_ne (ne_of_none ea nfg)]; exact h1, h2⟩
  · by_cases ne : a = p
    · exact ⟨o, by rw [ne]; exact upd_same, hd.notTbl.1⟩
    · obtain ⟨u, hu, hn⟩ := S.dom a ea
      exact ⟨u, by rw [upd_ne ne]; exact hu, hn⟩
  · obtain ⟨ps, t1, t2, t3⟩ := S.tab t ht
    refine ⟨ps, by rw [upd_ne (S.own_tab ow t ht)]; exact t1, t2, fun pos cv hc => ?_⟩
    obtain ⟨k, k1, k2⟩ := t3 pos cv hc
    have ne : k ≠ p := fun z => by
      rw [z, ho] at k2
      have h := Option.some.inj k2
      unfold CodeO at h
      cases hd0 <;> cases h
    exact ⟨k, k1, by rw [upd_ne ne]; exact k2⟩
  · rcases get_set ej with ⟨rfl, rfl⟩ | ⟨ne, ej⟩
    · exact ⟨p, es, ⟨hg, o, upd_same, hd, hm⟩, q⟩
    · refine (S.sl j s ej).mono (GLe.refl G) fun b x ex eb owb => ?_
      have nb : b ≠ p := fun z => by
        rw [z] at eb
        exact ne (S.apart i j p d x e (by rw [ej, ex]) es eb)
      exact ⟨owb.1, upd_ne nb⟩
  · have ex : ∀ (k : Nat) (w : D), (ρ.set i (.own d'))[k]? = some (.own w) → ∃ w', ρ[k]? = some (.own w') := fun k w ek => by
      rcases get_set ek with ⟨rfl, _⟩ | ⟨_, ek⟩
      · exact ⟨d, e⟩
      · exact ⟨w, ek⟩
    obtain ⟨x', ex1⟩ := ex j x h1
    obtain ⟨y', ey1⟩ := ex k y h2
    exact S.apart j k b x' y' ex1 ey1 h3 h4
  · by_cases z : q = p
    · rw [z, upd_same] at eq
      cases eq
      exact hm.elim
    · rw [upd_ne z] at eq
      exact S.tupG q ks eq
end

set_option autoImplicit true
inductive SR where
  | nx (ρ : Env) | rt (d : D) (ρ : Env) | ex (e : Exn) (ρ : Env) | stuck
abbrev SM := Env → SR
def Rs.sr {α : Type} : Rs α → (α → Env → SR) → SR
  | .ok a ρ, f => f a ρ
  | .ex e ρ, _ => .ex e ρ
  | .stuck, _ => .stuck
def SAsk (c : Ct) (F : Fr) (G : Hp) (D : Ends) : SR → Prop
  | .nx ρ => ∀ σ' H' G', State c F ρ σ' G' H' → GLe G G' → D.nx σ' H'
  | .rt d ρ => ∀ v σ' H' G', State c F ρ σ' G' H' → GLe G G' → Rp c.K G' d v → D.rt v H'
  | .ex e ρ => ∀ cls dx σ' H' G', State c F ρ σ' G' H' → GLe G G' → ExOk c G' e cls dx H' → c.W cls dx σ' H'
  | .stuck => False
def tS (c : Ct) (m : SM) : TS := fun D σ H => ∃ F ρ G, State c F ρ σ G H ∧ SAsk c F G D (m ρ)
theorem SAsk.mono {c : Ct} {F : Fr} {G G1 : Hp} {D : Ends} {r : SR} (g : GLe G G1) (h : SAsk c F G D r) : SAsk c F G1 D r := by
  cases r with
  | nx ρ => exact fun σ' H' G' S gl => h σ' H' G' S (g.trans gl)
  | rt d ρ => exact fun v σ' H' G' S gl => h v σ' H' G' S (g.trans gl)
  | ex e ρ => exact fun cls dx σ' H' G' S gl => h cls dx σ' H' G' S (g.trans gl)
  | stuck => exact h
theorem SAsk.sr {c : Ct} {F : Fr} {σ : L2.St} {G : Hp} {D : Ends} {α : Type} {r : Rs α} {f : α → Env → SR} (h : SAsk c F G D (r.sr f)) : Ask c F σ G (fun a ρ => SAsk c F G D (f a ρ)) r := by
  cases r with
  | ok a ρ => exact h
  | ex e ρ => exact fun cls dx H' G' S gl x => h cls dx σ H' G' S gl x
  | stuck => exact h
section
variable {X : Cx} {c : Ct} {F : Fr} {ρ : Env} {σ : L2.St} {G H : Hp} {e : Expr} {es : List Expr} {pos : Pos} {st : Stmt} {rest : List Stmt}
theorem ps_conseq {t t' : TS} (h : PS X st t) (hi : ∀ D σ H, t' D σ H → t D σ H) : PS X st t' := ⟨fun pins s σ H D I q => h.run pins s σ H D I (hi _ _ _ q)⟩
theorem pss_conseq {t t' : TS} (h : PSs X rest t) (hi : ∀ D σ H, t' D σ H → t D σ H) : PSs X rest t' := ⟨fun pins s σ H D I q => h.run pins s σ H D I (hi _ _ _ q)⟩
def sNil : SM := fun ρ => .nx ρ
def sSeq (a b : SM) : SM := fun ρ => match a ρ with
  | .nx ρ' => b ρ'
  | r => r
theorem ss_nil : PSs X [] (tS c sNil) := pss_conseq pss_nil fun D σ H ⟨F, ρ, G, S, a⟩ => a σ H G S (GLe.refl G)
theorem ss_cons {a b : SM} (h : PS X st (tS c a)) (h2 : PSs X rest (tS c b)) : PSs X (st :: rest) (tS c (sSeq a b)) := pss_conseq (pss_cons h h2) fun D σ H ⟨F, ρ, G, S, q⟩ => by
  refine ⟨F, ρ, G, S, ?_⟩
  unfold sSeq at q
  cases e : a ρ with
  | nx ρ' =>
    rw [e] at q
    exact fun σ' H' G' S' gl => ⟨F, ρ', G', S', SAsk.mono gl q⟩
  | rt d ρ' => rw [e] at q; exact q
  | ex x ρ' => rw [e] at q; exact q
  | stuck => rw [e] at q; exact q
theorem ss_one {a : SM} (h : PS X st (tS c a)) : PSs X [st] (tS c a) := pss_one h
def sRet (m : ME) : SM := fun ρ => (m ρ).sr fun d ρ' => .rt d ρ'
theorem st_ret {m : ME} (h : PE X e (tE c m)) : PS X (.Return (some e) pos) (tS c (sRet m)) := ps_conseq (ps_ret h) fun D σ H ⟨F, ρ, G, S, a⟩ =>
  ⟨F, ρ, G, S, (SAsk.sr a).imp (GLe.refl G) fun d ρ' k v H' G' S' gl r => k v σ H' G' S' gl r⟩
def sDo (m : ME) : SM := fun ρ => (m ρ).sr fun _ ρ' => .nx ρ'
theorem st_expr {m : ME} (h : PE X e (tE c m)) (hs : swapsWith e none pos.line X.env = pure false := by rfl) : PS X (.Expr e pos) (tS c (sDo m)) := ps_conseq (ps_expr h hs) fun D σ H ⟨F, ρ, G, S, a⟩ =>
  ⟨F, ρ, G, S, (SAsk.sr a).imp (GLe.refl G) fun d ρ' k v H' G' S' gl r => k σ H' G' S' gl⟩
def sIf (t : MB) (a b : SM) : SM := fun ρ => (t ρ).sr fun x ρ' => if x = true then a ρ' else b ρ'
theorem st_if {cd : Expr} {a b : List Stmt} {t : MB} {m n : SM} (ht : PT X cd (tT c t)) (ha : PSs X a (tS c m)) (hb : PSs X b (tS c n)) : PS X (.If cd a b pos) (tS c (sIf t m n)) := ps_conseq (ps_if ht ha hb) fun D σ H ⟨F, ρ, G, S, q⟩ =>
  ⟨F, ρ, G, S, (SAsk.sr q).imp (GLe.refl G) fun x ρ' k H' G' S' gl => by
    cases x with
    | true => exact ⟨F, ρ', G', S', SAsk.mono gl k⟩
    | false => exact ⟨F, ρ', G', S', SAsk.mono gl k⟩⟩
def sSet (i : Nat) (m : ME) : SM := fun ρ => (m ρ).sr fun d ρ' => .nx (ρ'.set i (.fz d))
def sOwn (i : Nat) (m : ME) : SM := fun ρ => (m ρ).sr fun d ρ' => .nx (ρ'.set i (.own d))
theorem st_set {i : Nat} {x : Str} {m : ME} {pos' : Pos} (hN : X.N.Nodup) (hi : X.N[i]? = some x) (hx : Loc X.env.scope x) (he : PE X e (tE c m)) (hio : i ∉ c.ios) (hs : swapsWith e (some (.Name x pos')) pos.line X.env = pure false := by rfl)
    (hf : X.fn x = true ∨ X.env.scope.names.lookup x = some .local := by first | exact .inl rfl | exact .inr rfl | assumption) : PS X (.Assign [.Name x pos'] e pos) (tS c (sSet i m)) := ps_conseq (ps_set hN hi hx he hs hf) fun D σ H ⟨F, ρ, G, S, a⟩ =>
  ⟨F, ρ, G, S, (SAsk.sr a).imp (GLe.refl G) fun d ρ' k v H' G' S' gl r => k _ H' G' (S'.setFz r hio) gl⟩
theorem st_own {i : Nat} {x : Str} {m : ME} {pos' : Pos} (hN : X.N.Nodup) (hi : X.N[i]? = some x) (hx : Loc X.env.scope x) (he : PE X e (tF c m)) (hio : i ∉ c.ios) (hs : swapsWith e (some (.Name x pos')) pos.line X.env = pure false := by rfl)
    (hf : X.fn x = true ∨ X.env.scope.names.lookup x = some .local := by first | exact .inl rfl | exact .inr rfl | assumption) : PS X (.Assign [.Name x pos'] e pos) (tS c (sOwn i m)) := ps_conseq (ps_set hN hi hx he hs hf) fun D σ H ⟨F, ρ, G, S, a⟩ =>
  ⟨F, ρ, G, S, (SAsk.sr a).imp (GLe.refl G) fun d ρ' k p H' G' S' gl n => k _ H' G' (S'.setOwn n hio) gl⟩
abbrev TM := D → Env → Rs Unit
/-- the target's slots ts; what it stores is frozen -/
def tG (c : Ct) (ts : List Nat) (tm : TM) : TG := fun v σ H Q => ∃ F ρ G d, State c F ρ σ G H ∧ Rp c.K G d v ∧ match tm d ρ with
  | .ok _ ρ' => ∀ σ' H' G', State c F ρ' σ' G' H' → GLe G G' → σ'.length = σ.length ∧ (∀ i, i ∉ ts → σ'[i]? = σ[i]?) → Q σ' H'
  | .ex e ρ' => ∀ cls dx σ' H' G', State c F ρ' σ' G' H' → GLe G G' → ExOk c G' e cls dx H' → c.W cls dx σ' H'
  | .stuck => False
theorem pg_conseq {tg : Expr} {t t' : TG} (h : PG X tg t) (hi : ∀ v σ H Q, t' v σ H Q → t v σ H Q) : PG X tg t' := ⟨fun pins s σ H v u Q I r q => h.run pins s σ H v u Q I r (hi _ _ _ _ q)⟩
def tmName (i : Nat) : TM := fun d ρ => .ok () (ρ.set i (.fz d))
theorem tg_name {i : Nat} {x : Str} (hN : X.N.Nodup) (hi : X.N[i]? = some x) (hx : Loc X.env.scope x) (hio : i ∉ c.ios) (hf : X.fn x = true ∨ X.env.scope.names.lookup x = some .local := by first | exact .inl rfl | exact .inr rfl | assumption) : PG X (.Name x pos) (tG c [i] (tmName i)) :=
  pg_conseq (pg_name hN hi hx hf) fun v σ H Q ⟨F, ρ, G, d, S, r, k⟩ => k _ H G (S.setFz r hio) (GLe.refl G) ⟨List.length_set, fun j hj => List.getElem?_set_ne (fun e => hj (by simp [e]))⟩
/-- several targets, one behind the other -/
def tmSeq : List TM → List D → Env → Rs Unit
  | [], [], ρ => .ok () ρ
  | t :: ts, d :: ds, ρ => (t d ρ).then fun _ ρ' => tmSeq ts ds ρ'
  | _, _, _ => .stuck
def tGs (c : Ct) : List (List Nat × TM) → TGs
  | [] => gNil
  | t :: ts => gCons (tG c t.1 t.2) (tGs c ts)
theorem gs_nil : PGs X [] (tGs c []) := pgs_nil
theorem gs_cons {tg : Expr} {tgs : List Expr} {ts : List Nat} {tm : TM} {r : List (List Nat × TM)} (h : PG X tg (tG c ts tm)) (hr : PGs X tgs (tGs c r)) (ha : (assignEach (tg :: tgs) X.env).map (·.2) = assign tg X.env :: (assignEach tgs X.env).map (·.2) := by rfl) : PGs X (tg :: tgs) (tGs c ((ts, tm) :: r)) := pgs_cons h hr ha
def tmTup (ts : List (List Nat × TM)) : TM := fun d ρ => match d with
  | .tuple ds => if ds.length = ts.length then tmSeq (ts.map (·.2)) ds ρ else .stuck
  | _ => .stuck
theorem tGs_ev : ∀ {ts : List (List Nat × TM)} {ds : List D} {vs : List V} {ρ : Env} {σ : L2.St} {G H : Hp} {Q : L2.St → Hp → Prop}, State c F ρ σ G H → RpL c.K G ds vs →
    (match tmSeq (ts.map (·.2)) ds ρ with
      | .ok _ ρ' => ∀ σ' H' G', State c F ρ' σ' G' H' → GLe G G' → σ'.length = σ.length ∧ (∀ i, i ∉ (ts.map (·.1)).flatten → σ'[i]? = σ[i]?) → Q σ' H'
      | .ex e ρ' => ∀ cls dx σ' H' G', State c F ρ' σ' G' H' → GLe G G' → ExOk c G' e cls dx H' → c.W cls dx σ' H'
      | .stuck => False) → tGs c ts vs σ H Q
  | [], [], vs, ρ, σ, G, H, Q, S, r, a => ⟨r, a σ H G S (GLe.refl G) ⟨rfl, fun _ _ => rfl⟩⟩
  | [], d :: ds, vs, ρ, σ, G, H, Q, S, r, a => a.elim
  | t :: ts, [], vs, ρ, σ, G, H, Q, S, r, a => a.elim
  | t :: ts, d :: ds, vs, ρ, σ, G, H, Q, S, r, a => by
    obtain ⟨v, us, e, rv, rs⟩ := r
    refine ⟨v, us, e, F, ρ, G, d, S, rv, ?_⟩
    have a' : (match (t.2 d ρ).then fun _ ρ' => tmSeq (ts.map (·.2)) ds ρ' with
      | .ok _ ρ' => ∀ σ' H' G', State c F ρ' σ' G' H' → GLe G G' → σ'.length = σ.length ∧ (∀ i, i ∉ ((t :: ts).map (·.1)).flatten → σ'[i]? = σ[i]?) → Q σ' H'
      | .ex e ρ' => ∀ cls dx σ' H' G', State c F ρ' σ' G' H' → GLe G G' → ExOk c G' e cls dx H' → c.W cls dx σ' H'
      | .stuck => False) := a
    cases ez : t.2 d ρ with
    | stuck => rw [ez] at a'; exact a'
    | ex x ρ1 => rw [ez] at a'; exact a'
    | ok u ρ1 =>
      rw [ez] at a'
      intro σ1 H1 G1 S1 gl hk
      refine tGs_ev S1 (RpL.mono gl _ _ rs) ?_
      have a2 : (match tmSeq (ts.map (·.2)) ds ρ1 with
        | .ok _ ρ' => ∀ σ' H' G', State c F ρ' σ' G' H' → GLe G G' → σ'.length = σ.length ∧ (∀ i, i ∉ ((t :: ts).map (·.1)).flatten → σ'[i]? = σ[i]?) → Q σ' H'
        | .ex e ρ' => ∀ cls dx σ' H' G', State c F ρ' σ' G' H' → GLe G G' → ExOk c G' e cls dx H' → c.W cls dx σ' H'
        | .stuck => False) := a'
      cases ey : tmSeq (ts.map (·.2)) ds ρ1 with
      | stuck => rw [ey] at a2; exact a2
      | ex x ρ2 =>
        rw [ey] at a2
        exact fun cls dx σ' H' G' S' gl' x => a2 cls dx σ' H' G' S' (gl.trans gl') x
      | ok u2 ρ2 =>
        rw [ey] at a2
        refine fun σ' H' G' S' gl' hk' => a2 σ' H' G' S' (gl.trans gl') ⟨hk'.1.trans hk.1, fun i hi => ?_⟩
        rw [List.map_cons, List.flatten_cons, List.mem_append, not_or] at hi
        rw [hk'.2 i hi.2, hk.2 i hi.1]
theorem tg_tup {elts : List Expr} {kk : Nat} {ts : List (List Nat × TM)} (hc : X.calm = true) (h : PGs X elts (tGs c ts)) (hK : X.K = c.K) (hn : (assignEach elts X.env).length = ts.length := by rfl)
    (hst : (assignEach elts X.env).findIdx? (·.1) = none := by rfl) : PG X (.Tuple elts kk pos) (tG c (ts.map (·.1)).flatten (tmTup ts)) :=
  pg_conseq (pg_tup hc h hn hst) fun v σ H Q ⟨F, ρ, G, d, S, r, k⟩ => by
    cases d <;> first | exact k.elim | skip
    rename_i ds
    obtain ⟨a, xs, ev, hq, hr⟩ := r
    unfold tmTup at k
    by_cases hl : ds.length = ts.length
    · simp only [if_pos hl] at k
      exact ⟨a, xs, ev, SqT.of (S.sub.tup hq), by rw [hr.length]; exact hl, tGs_ev S hr k⟩
    · simp only [if_neg hl] at k
end

set_option autoImplicit true
abbrev MI := Env → Rs (List D)
/-- an iterator J gives ds -/
def ItOk (K : PySem.W.Frag) (J : It) (G : Hp) (ds : List D) : Prop := ∀ (i : Nat) (H G' : Hp), GLe G G' → Sub G' H → (∀ d, ds[i]? = some d → J.go i H ∧ ∀ x H', J.yld i H x H' → POut K G' H d x H') ∧ (ds.length = i → J.stop i H)
def tI (c : Ct) (it : MI) : TI := fun σ H R => ∃ F ρ G, State c F ρ σ G H ∧ Ask c F σ G (fun ds ρ' => ∀ J H' G', State c F ρ' σ G' H' → GLe G G' → ItOk c.K J G' ds → R J H') (it ρ)
section
variable {X : Cx} {c : Ct} {F : Fr} {ρ : Env} {σ : L2.St} {G H : Hp} {e tg iter : Expr} {es : List Expr} {pos : Pos} {st : Stmt} {rest body : List Stmt}
theorem pi_conseq {w w' : TI} (h : PI X tg iter w) (hi : ∀ σ H R, w' σ H R → w σ H R) : PI X tg iter w' := ⟨fun pins s σ H R I q => h.run pins s σ H R I (hi _ _ _ q)⟩
theorem pi_either {w w' : TI} (h : PI X tg iter w) (h' : PI X tg iter w') : PI X tg iter (fun σ H R => w σ H R ∨ w' σ H R) := ⟨fun pins s σ H R I q => q.elim (h.run pins s σ H R I) (h'.run pins s σ H R I)⟩
/-- a list's, a tuple's items -/
def iSeq (m : ME) : MI := fun ρ => (m ρ).then fun d ρ' => match d with
  | .list ds => .ok ds ρ'
  | .tuple ds => .ok ds ρ'
  | _ => .stuck
theorem it_list {K : PySem.W.Frag} {a : Addr} {xs : List V} {ds : List D} (h : G a = some (.lst xs)) (r : RpL K G ds xs) : ItOk K (Itl K a) G ds := fun i H G' gl sb => by
  have h' : SqL K H a xs := .of (sb.lst (gl _ _ h))
  refine ⟨fun d e => ?_, fun e => ⟨xs, h', by rw [r.length]; exact Nat.le_of_eq e⟩⟩
  obtain ⟨v, e1, e2⟩ := r.get e
  refine ⟨⟨xs, v, h', e1⟩, fun x H' y => .inl ⟨y.1, ?_⟩⟩
  have e3 := y.2 xs h'
  rw [e1] at e3
  cases e3
  exact Rp.mono gl d _ e2
theorem it_tup {K : PySem.W.Frag} {a : Addr} {xs : List V} {ds : List D} (h : G a = some (.tup xs)) (r : RpL K G ds xs) : ItOk K (Itt K a) G ds := fun i H G' gl sb => by
  have h' : SqT K H a xs := .of (sb.tup (gl _ _ h))
  refine ⟨fun d e => ?_, fun e => ⟨xs, h', by rw [r.length]; exact Nat.le_of_eq e⟩⟩
  obtain ⟨v, e1, e2⟩ := r.get e
  refine ⟨⟨xs, v, h', e1⟩, fun x H' y => .inl ⟨y.1, ?_⟩⟩
  have e3 := y.2 xs h'
  rw [e1] at e3
  cases e3
  exact Rp.mono gl d _ e2
theorem mi_seq {m : ME} (hK : X.K = c.K) (h : PE X iter (tE c m)) : PI X tg iter (tI c (iSeq m)) := pi_conseq (pi_either (pi_list h) (pi_tup h)) fun σ H R ⟨F, ρ, G, S, a⟩ => by
  have a1 := Ask.then a
  cases em : m ρ with
  | stuck => rw [em] at a1; exact a1.elim
  | ex x ρ' => exact .inl ⟨F, ρ, G, S, by rw [em] at a1 ⊢; exact a1⟩
  | ok d ρ' =>
    rw [em] at a1
    cases d <;> first | exact False.elim a1 | skip
    · refine .inl ⟨F, ρ, G, S, ?_⟩
      rw [em]
      intro v H' G' S' gl r
      obtain ⟨b, xs, e, hq, hr⟩ := r
      exact ⟨b, e, ⟨xs, .of (S'.sub.lst hq)⟩, by rw [hK]; exact a1 _ H' G' S' gl (it_list hq hr)⟩
    · refine .inr ⟨F, ρ, G, S, ?_⟩
      rw [em]
      intro v H' G' S' gl r
      obtain ⟨b, xs, e, hq, hr⟩ := r
      exact ⟨b, e, ⟨xs, .of (S'.sub.tup hq)⟩, by rw [hK]; exact a1 _ H' G' S' gl (it_tup hq hr)⟩
/-- ranges -/
def up (lo : Int) : Nat → List D
  | 0 => []
  | n + 1 => .int lo :: up (lo + 1) n
theorem up_len : ∀ (n : Nat) (lo : Int), (up lo n).length = n
  | 0, _ => rfl
  | n + 1, lo => by show (up (lo + 1) n).length + 1 = _; rw [up_len n]
theorem up_get : ∀ (n : Nat) (lo : Int) (i : Nat) (d : D), (up lo n)[i]? = some d → i < n ∧ d = .int (lo + i)
  | 0, _, _, _, h => by simp [up] at h
  | n + 1, lo, 0, d, h => by
    have h' : PyData.int lo = d := Option.some.inj h
    exact ⟨by omega, by rw [← h']; simp⟩
  | n + 1, lo, i + 1, d, h => by
    obtain ⟨h1, h2⟩ := up_get n (lo + 1) i d h
    refine ⟨by omega, ?_⟩
    rw [h2]
    congr 1
    omega
theorem it_up {K : PySem.W.Frag} (lo : Int) (n : Nat) : ItOk K (Itr lo n) G (up lo n) := fun i H G' gl sb => by
  refine ⟨fun d e => ?_, fun e => by rw [up_len] at e; exact Nat.le_of_eq e⟩
  obtain ⟨h1, h2⟩ := up_get n lo i d e
  refine ⟨h1, fun x H' y => .inl ⟨y.1, ?_⟩⟩
  rw [h2, y.2]
  exact rfl
def iRng (f : List D → Option (Int × Int)) (os : List Opd) : MI := fun ρ => (evo os ρ).then fun xs ρ' => match (fino os xs ρ').bind f with
  | some (i, j) => if -(2 ^ 62) ≤ i ∧ i < 2 ^ 62 ∧ -(2 ^ 62) ≤ j ∧ j < 2 ^ 62 then .ok (up i (j - i).toNat) ρ' else .stuck
  | none => .stuck
def fR1 : List D → Option (Int × Int)
  | [.int j] => some (0, j)
  | _ => none
def fR2 : List D → Option (Int × Int)
  | [.int i, .int j] => some (i, j)
  | _ => none
theorem Vw.int {K : PySem.W.Frag} {i : Int} {v : V} (h : Vw K G H (.int i) v) : v = .int i := by
  rcases h with h | ⟨p, _, _, o, _, hd, _⟩
  · exact h
  · cases hd
theorem Vw.bl {K : PySem.W.Frag} {b : Bool} {v : V} (h : Vw K G H (.bool b) v) : v = .bl b := by
  rcases h with h | ⟨p, _, _, o, _, hd, _⟩
  · exact h
  · cases hd
theorem Vw.str {K : PySem.W.Frag} {b : Str} {v : V} (h : Vw K G H (.str b) v) : v = .str b := by
  rcases h with h | ⟨p, _, _, o, _, hd, _⟩
  · exact h
  · cases hd
theorem Vw.non {K : PySem.W.Frag} {v : V} (h : Vw K G H .none v) : v = .non := by
  rcases h with h | ⟨p, _, _, o, _, hd, _⟩
  · exact h
  · cases hd
theorem tOs_rng {os : List Opd} {f : List D → Option (Int × Int)} {R : List V → Hp → Prop} {k : List D → Env → Prop} (S : State c F ρ σ G H) (a : Ask c F σ G k (iRng f os ρ))
    (hR : ∀ (ρ2 : Env) (G2 H2 : Hp) (xs : List V) (ds : List D) (i j : Int), State c F ρ2 σ G2 H2 → GLe G G2 → VwL c.K G2 H2 ds xs → f ds = some (i, j) → (-(2 ^ 62) ≤ i ∧ i < 2 ^ 62 ∧ -(2 ^ 62) ≤ j ∧ j < 2 ^ 62) → k (up i (j - i).toNat) ρ2 → R xs H2) : tOs c os σ H R := by
  refine tOs_ev S ((Ask.then a).imp (GLe.refl G) fun xs ρ2 a1 vs H2 G2 S2 g2 r2 => ?_)
  cases e1 : fino os xs ρ2 with
  | none => rw [e1] at a1; exact a1.elim
  | some ds =>
    rw [e1] at a1
    cases e2 : f ds with
    | none => simp only [Option.bind_some, e2] at a1; exact a1.elim
    | some q =>
      obtain ⟨i, j⟩ := q
      simp only [Option.bind_some, e2] at a1
      by_cases hb : -(2 ^ 62) ≤ i ∧ i < 2 ^ 62 ∧ -(2 ^ 62) ≤ j ∧ j < 2 ^ 62
      · rw [if_pos hb] at a1
        exact hR ρ2 G2 H2 vs ds i j S2 g2 (r2.vw S2 e1) e2 hb a1
      · rw [if_neg hb] at a1
        exact a1.elim
variable {a b : Expr} {p : Pos}
theorem mi_rng1 {o : Opd} (hg : Gl X "range") (hm : X.mg "range" = none) (ha : PA X [a] (tOs c [o])) (hs : starEach [a] X.env = [(false, eval a X.env)] := by rfl) : PI X tg (.Call (.Name "range" p) [a] [] pos) (tI c (iRng fR1 [o])) :=
  pi_conseq (pi_range1 hg hm ha hs) fun σ H R ⟨F, ρ, G, S, q⟩ => by
    refine tOs_rng S q fun ρ2 G2 H2 xs ds i j S2 gl vw ef hb k => ?_
    match ds, ef with
    | [.int z], ef =>
      cases ef
      match xs, vw with
      | [x], vw =>
        have ex := Vw.int vw.1
        subst ex
        exact ⟨j, rfl, hb.2.2.1, hb.2.2.2, by
          have := k (Itr 0 j.toNat) H2 G2 S2 gl
          rw [Int.sub_zero] at this
          exact this (it_up 0 j.toNat)⟩
theorem mi_rng2 {o1 o2 : Opd} (hg : Gl X "range") (hm : X.mg "range" = none) (ha : PA X [a, b] (tOs c [o1, o2])) (hs : starEach [a, b] X.env = [(false, eval a X.env), (false, eval b X.env)] := by rfl) (hs2 : starEach [b] X.env = [(false, eval b X.env)] := by rfl) : PI X tg (.Call (.Name "range" p) [a, b] [] pos) (tI c (iRng fR2 [o1, o2])) :=
  pi_conseq (pi_range2 hg hm ha hs hs2) fun σ H R ⟨F, ρ, G, S, q⟩ => by
    refine tOs_rng S q fun ρ2 G2 H2 xs ds i j S2 gl vw ef hb k => ?_
    match ds, ef with
    | [.int z, .int y], ef =>
      cases ef
      match xs, vw with
      | [x, u], vw =>
        have ex := Vw.int vw.1
        have eu := Vw.int vw.2.1
        subst ex
        subst eu
        exact ⟨i, j, rfl, hb, k _ H2 G2 S2 gl (it_up i _)⟩
def forM (tm : TM) (b : SM) : List D → SM
  | [], ρ => .nx ρ
  | d :: ds, ρ => (tm d ρ).sr fun _ ρ1 => match b ρ1 with
    | .nx ρ2 => forM tm b ds ρ2
    | r => r
def sFor (it : MI) (tm : TM) (b : SM) : SM := fun ρ => (it ρ).sr fun ds ρ' => forM tm b ds ρ'
theorem drop_at {α : Type} {l : List α} {i : Nat} (h : i < l.length) : ∃ d, l[i]? = some d ∧ l.drop i = d :: l.drop (i + 1) := ⟨l[i], List.getElem?_eq_getElem h, by rw [← List.getElem_cons_drop]⟩
theorem st_for {it : MI} {ts : List Nat} {tm : TM} {b : SM} (hp : PassesOwn (model X.prog X.w) X.A X.env X.xe) (hc : X.calm = true) (hK : X.K = c.K) (hi : PI X tg iter (tI c it)) (hg : PG X tg (tG c ts tm)) (hb : PSs X body (tS c b))
    (hs : ∀ x, foldedSetIterable iter X.env x = pure x := by intro _; rfl) : PS X (.For tg iter body [] pos) (tS c (sFor it tm b)) := ps_conseq (ps_for hp hc hi hg hb hs) fun D σ H ⟨F, ρ, G, S, a⟩ => by
  refine ⟨F, ρ, G, S, (SAsk.sr a).imp (GLe.refl G) fun ds ρ1 k J H1 G1 S1 gl1 ito => ?_⟩
  refine ⟨fun i m σ H => m = ds.length - i ∧ i ≤ ds.length ∧ ∃ ρ G, State c F ρ σ G H ∧ GLe G1 G ∧ SAsk c F G D (forM tm b (ds.drop i) ρ), ⟨ds.length, rfl, Nat.zero_le _, ρ1, G1, S1, GLe.refl _, SAsk.mono gl1 k⟩, ?_⟩
  rintro i m σ2 H2 ⟨rfl, hile, ρ2, G2, S2, gl2, a2⟩
  obtain ⟨h1, h2⟩ := ito i H2 G2 gl2 S2.sub
  by_cases hlt : i < ds.length
  · obtain ⟨d, ed, edr⟩ := drop_at hlt
    rw [edr] at a2
    obtain ⟨hgo, hy⟩ := h1 d ed
    refine .inr ⟨hgo, fun σ' H' => ∃ ρ' G', State c F ρ' σ' G' H' ∧ GLe G1 G' ∧ SAsk c F G' D (forM tm b (ds.drop (i + 1)) ρ'), fun σ' H' ⟨ρ', G', S', gl', a'⟩ => ⟨ds.length - (i + 1), by omega, rfl, hlt, ρ', G', S', gl', a'⟩, fun x H' y => ?_⟩
    obtain ⟨G3, S3, gl3, r3⟩ := (hy x H' y).state S2
    refine ⟨F, ρ2, G3, d, S3, r3, ?_⟩
    have a3 : SAsk c F G2 D ((tm d ρ2).sr fun _ ρ1 => match b ρ1 with
      | .nx ρ2 => forM tm b (ds.drop (i + 1)) ρ2
      | r => r) := a2
    cases et : tm d ρ2 with
    | stuck => rw [et] at a3; exact a3
    | ex e ρ' =>
      rw [et] at a3
      exact fun cls dx σ' H' G' S' gl x => a3 cls dx σ' H' G' S' (gl3.trans gl) x
    | ok u ρ' =>
      rw [et] at a3
      intro σ' H4 G4 S4 gl4 _
      refine ⟨F, ρ', G4, S4, ?_⟩
      have a4 : SAsk c F G2 D (match b ρ' with
        | .nx ρ2 => forM tm b (ds.drop (i + 1)) ρ2
        | r => r) := a3
      have g34 := gl3.trans gl4
      cases eb : b ρ' with
      | nx ρ5 =>
        rw [eb] at a4
        exact fun σ5 H5 G5 S5 gl5 => ⟨ρ5, G5, S5, gl2.trans (g34.trans gl5), SAsk.mono (g34.trans gl5) a4⟩
      | rt d' ρ5 =>
        rw [eb] at a4
        exact fun v σ5 H5 G5 S5 gl5 r => a4 v σ5 H5 G5 S5 (g34.trans gl5) r
      | ex e ρ5 =>
        rw [eb] at a4
        exact fun cls dx σ5 H5 G5 S5 gl5 x => a4 cls dx σ5 H5 G5 S5 (g34.trans gl5) x
      | stuck => rw [eb] at a4; exact a4
  · have e : i = ds.length := by omega
    subst e
    rw [List.drop_length] at a2
    exact .inl ⟨h2 rfl, a2 σ2 H2 G2 S2 (GLe.refl _)⟩
def whileM (t : MB) (b : SM) : Nat → SM
  | 0, _ => .stuck
  | n + 1, ρ => (t ρ).sr fun x ρ1 => if x = true then (match b ρ1 with
    | .nx ρ2 => whileM t b n ρ2
    | r => r) else .nx ρ1
theorem st_while {cd : Expr} {t : MB} {b : SM} (n : Nat) (hp : PassesOwn (model X.prog X.w) X.A X.env X.xe) (ht : PT X cd (tT c t)) (hb : PSs X body (tS c b)) : PS X (.While cd body [] pos) (tS c (whileM t b n)) := ps_conseq (ps_while hp ht hb) fun D σ H ⟨F, ρ, G, S, a⟩ => by
  refine ⟨fun m σ H => ∃ ρ G, State c F ρ σ G H ∧ SAsk c F G D (whileM t b m ρ), ⟨n, ρ, G, S, a⟩, ?_⟩
  rintro m σ2 H2 ⟨ρ2, G2, S2, a2⟩
  cases m with
  | zero => exact a2.elim
  | succ m =>
    refine ⟨F, ρ2, G2, S2, (SAsk.sr a2).imp (GLe.refl _) fun x ρ3 k H3 G3 S3 gl3 => ?_⟩
    cases x with
    | false => exact k σ2 H3 G3 S3 gl3
    | true =>
      refine ⟨fun σ' H' => ∃ ρ' G', State c F ρ' σ' G' H' ∧ SAsk c F G' D (whileM t b m ρ'), fun σ' H' ⟨ρ', G', S', a'⟩ => ⟨m, by omega, ρ', G', S', a'⟩, F, ρ3, G3, S3, ?_⟩
      have k' : SAsk c F G2 D (match b ρ3 with
        | .nx ρ2 => whileM t b m ρ2
        | r => r) := k
      cases eb : b ρ3 with
      | nx ρ5 =>
        rw [eb] at k'
        exact fun σ5 H5 G5 S5 gl5 => ⟨ρ5, G5, S5, SAsk.mono (gl3.trans gl5) k'⟩
      | rt d' ρ5 =>
        rw [eb] at k'
        exact fun v σ5 H5 G5 S5 gl5 r => k' v σ5 H5 G5 S5 (gl3.trans gl5) r
      | ex e ρ5 =>
        rw [eb] at k'
        exact fun cls dx σ5 H5 G5 S5 gl5 x => k' cls dx σ5 H5 G5 S5 (gl3.trans gl5) x
      | stuck => rw [eb] at k'; exact k'
end

set_option autoImplicit true
def wipeE : Env → List Nat → Env
  | ρ, [] => ρ
  | ρ, v :: vs => (wipeE ρ vs).set v .no
def Sl.keep : Option Sl → Sl
  | some (.fz d) => .fz d
  | _ => .no
/-- behind a block: its own names are as they were ahead of it, if frozen -/
def unwipe (ρ0 : Env) : Env → List Nat → Env
  | ρ, [] => ρ
  | ρ, v :: vs => (unwipe ρ0 ρ vs).set v (Sl.keep ρ0[v]?)
abbrev Ct.nox (c : Ct) : Ct := { c with W := fun _ _ _ _ => False }
section
variable {X : Cx} {c : Ct} {F : Fr} {ρ ρ0 : Env} {σ : L2.St} {G G0 H H0 : Hp}
theorem State.nox (S : State c F ρ σ G H) : State c.nox F ρ σ G H := ⟨S.sub, S.fg, S.wf, S.dom, S.tab, S.tabG, S.len, S.sl, S.apart, S.io, S.ios, S.ioD, S.tupG⟩
theorem State.yesx (S : State c.nox F ρ σ G H) : State c F ρ σ G H := ⟨S.sub, S.fg, S.wf, S.dom, S.tab, S.tabG, S.len, S.sl, S.apart, S.io, S.ios, S.ioD, S.tupG⟩
theorem wipeE_length (ρ : Env) : ∀ vs : List Nat, (wipeE ρ vs).length = ρ.length
  | [] => rfl
  | v :: vs => by unfold wipeE; rw [List.length_set, wipeE_length ρ vs]
theorem wipeE_get {i : Nat} {s : Sl} : ∀ {vs : List Nat}, (wipeE ρ vs)[i]? = some s → (i ∈ vs ∧ s = .no) ∨ (i ∉ vs ∧ ρ[i]? = some s)
  | [], h => .inr ⟨by simp, h⟩
  | v :: vs, h => by
    unfold wipeE at h
    rcases get_set h with ⟨rfl, rfl⟩ | ⟨ne, h⟩
    · exact .inl ⟨List.mem_cons_self, rfl⟩
    · rcases wipeE_get h with ⟨h1, h2⟩ | ⟨h1, h2⟩
      · exact .inl ⟨List.mem_cons_of_mem _ h1, h2⟩
      · exact .inr ⟨fun z => (List.mem_cons.mp z).elim (fun e => ne e.symm) h1, h2⟩
theorem wipe_get {i : Nat} : ∀ {vs : List Nat}, i ∉ vs → (wipe σ vs)[i]? = σ[i]?
  | [], _ => rfl
  | v :: vs, h => by
    unfold wipe
    rw [List.getElem?_set_ne (fun e => h (by rw [e]; exact List.mem_cons_self))]
    exact wipe_get (fun z => h (List.mem_cons_of_mem _ z))
theorem wipe_in {i : Nat} : ∀ {vs : List Nat}, i ∈ vs → i < σ.length → (wipe σ vs)[i]? = some none
  | v :: vs, h, hl => by
    unfold wipe
    by_cases e : v = i
    · rw [e, List.getElem?_set_self (by rw [wipe_length]; exact hl)]
    · rw [List.getElem?_set_ne e]
      exact wipe_in ((List.mem_cons.mp h).resolve_left (fun z => e z.symm)) hl
theorem wipe_eq {σ σ2 : L2.St} {vs : List Nat} (hl : σ2.length = (wipe σ vs).length) (h : ∀ i, i ∉ vs → σ2[i]? = (wipe σ vs)[i]?) : wipe σ2 vs = wipe σ vs := by
  have hl2 : σ2.length = σ.length := by rw [hl, wipe_length]
  refine List.ext_getElem? fun i => ?_
  by_cases hi : i ∈ vs
  · by_cases hb : i < σ.length
    · rw [wipe_in hi hb, wipe_in hi (by rw [hl2]; exact hb)]
    · rw [List.getElem?_eq_none (by rw [wipe_length]; omega), List.getElem?_eq_none (by rw [wipe_length]; omega)]
  · rw [wipe_get hi, h i hi]
theorem State.wipe (S : State c F ρ σ G H) {vs : List Nat} (hv : ∀ v ∈ vs, v ∉ c.ios) : State c F (wipeE ρ vs) (L2.wipe σ vs) G H := by
  refine ⟨S.sub, S.fg, S.wf, S.dom, S.tab, S.tabG, by rw [wipeE_length, wipe_length]; exact S.len, fun i s e => ?_, fun i j p d e h1 h2 h3 h4 => ?_, fun q hq => ?_, S.ios, S.ioD, S.tupG⟩
  · rcases wipeE_get e with ⟨_, e⟩ | ⟨hi, e⟩
    · subst e
      trivial
    · have q := S.sl i s e
      cases s with
      | no => trivial
      | fz d =>
        obtain ⟨v, e1, e2⟩ := q
        exact ⟨v, by rw [wipe_get hi]; exact e1, e2⟩
      | own d =>
        obtain ⟨p, e1, e2⟩ := q
        exact ⟨p, by rw [wipe_get hi]; exact e1, e2⟩
  · rcases wipeE_get h1 with ⟨_, z⟩ | ⟨hi, h1⟩
    · cases z
    · rcases wipeE_get h2 with ⟨_, z⟩ | ⟨hj, h2⟩
      · cases z
      · rw [wipe_get hi] at h3
        rw [wipe_get hj] at h4
        exact S.apart i j p d e h1 h2 h3 h4
  · rw [wipe_get fun z => hv _ z (by rw [← S.ios]; exact List.mem_map.mpr ⟨q, hq, rfl⟩)]
    exact S.io q hq
theorem unwipe_length (ρ0 ρ : Env) : ∀ vs : List Nat, (unwipe ρ0 ρ vs).length = ρ.length
  | [] => rfl
  | v :: vs => by unfold unwipe; rw [List.length_set, unwipe_length ρ0 ρ vs]
theorem unwipe_get {i : Nat} {s : Sl} : ∀ {vs : List Nat}, (unwipe ρ0 ρ vs)[i]? = some s → (i ∈ vs ∧ s = Sl.keep ρ0[i]?) ∨ (i ∉ vs ∧ ρ[i]? = some s)
  | [], h => .inr ⟨by simp, h⟩
  | v :: vs, h => by
    unfold unwipe at h
    rcases get_set h with ⟨rfl, rfl⟩ | ⟨ne, h⟩
    · exact .inl ⟨List.mem_cons_self, rfl⟩
    · rcases unwipe_get h with ⟨h1, h2⟩ | ⟨h1, h2⟩
      · exact .inl ⟨List.mem_cons_of_mem _ h1, h2⟩
      · exact .inr ⟨fun z => (List.mem_cons.mp z).elim (fun e => ne e.symm) h1, h2⟩
theorem keep_own {x : Option Sl} {d : D} : Sl.keep x ≠ .own d := by
  cases x with
  | none => exact fun z => nomatch z
  | some s => cases s <;> exact fun z => nomatch z
theorem State.unwipe {F0 : Fr} (S0 : State c F0 ρ0 σ G0 H0) {vs : List Nat} (S : State c F ρ (L2.wipe σ vs) G H) (gl : GLe G0 G) (hv : ∀ v ∈ vs, v ∉ c.ios) (hF : F.io = F0.io := by rfl) : State c F (unwipe ρ0 ρ vs) σ G H := by
  refine ⟨S.sub, S.fg, S.wf, S.dom, S.tab, S.tabG, by rw [unwipe_length, S.len, wipe_length], fun i s e => ?_, fun i j p d e h1 h2 h3 h4 => ?_, fun q hq => S0.io q (by rw [← hF]; exact hq), S.ios, S.ioD, S.tupG⟩
  · rcases unwipe_get e with ⟨hi, e⟩ | ⟨hi, e⟩
    · subst e
      cases q : ρ0[i]? with
      | none => trivial
      | some s =>
        cases s with
        | no => trivial
        | own d => trivial
        | fz d =>
          obtain ⟨v, e1, e2⟩ := S0.sl i _ q
          exact ⟨v, e1, Rp.mono gl d v e2⟩
    · have q := S.sl i s e
      cases s with
      | no => trivial
      | fz d =>
        obtain ⟨v, e1, e2⟩ := q
        exact ⟨v, by rw [← wipe_get hi]; exact e1, e2⟩
      | own d =>
        obtain ⟨p, e1, e2⟩ := q
        exact ⟨p, by rw [← wipe_get hi]; exact e1, e2⟩
  · rcases unwipe_get h1 with ⟨_, z⟩ | ⟨hi, h1⟩
    · exact (keep_own z.symm).elim
    · rcases unwipe_get h2 with ⟨_, z⟩ | ⟨hj, h2⟩
      · exact (keep_own z.symm).elim
      · rw [← wipe_get hi] at h3
        rw [← wipe_get hj] at h4
        exact S.apart i j p d e h1 h2 h3 h4
/-- the thing that stands beside is another one now -/
theorem State.rePlus {p : Addr} {o o' : HO} (hm : Mut (some o)) (hm' : Mut (some o')) (ht : ∀ ps, o' ≠ .tbl ps) (hcd : ∀ k q, o ≠ CodeO k q) (S : State c (F.plus p o) ρ σ G H) : State c (F.plus p o') ρ σ G (upd H p o') := by
  have fgp : (F.plus p o).fg p = some o := by show upd F.fg p o p = some o; exact upd_same
  obtain ⟨h1, h2⟩ := S.fg p o fgp
  have h2 : G p = none := h2.none fun q w e => by rw [e] at hm; exact hm
  have fgo : ∀ {a : Addr} {u : HO}, a ≠ p → (F.plus p o').fg a = some u → (F.plus p o).fg a = some u := fun {a u} ne e => by
    have e' : upd F.fg p o' a = some u := e
    show upd F.fg p o a = some u
    rw [upd_ne ne] at e' ⊢
    exact e'
  refine ⟨⟨fun a u r => ?_, S.sub.2⟩, fun a u e => ?_, fun a u e => ?_, fun a e => ?_, fun t ht' => ?_, S.tabG, S.len, fun i s e => ?_, S.apart, S.io, S.ios, S.ioD, fun q ks e => ?_⟩
  · have ne : a ≠ p := fun z => by
      rw [z, h2] at r
      cases r
    rcases S.sub.1 a u r with h | ⟨id, ob, h⟩
    · exact .inl (by rw [upd_ne ne]; exact h)
    · exact .inr ⟨id, ob, by rw [upd_ne ne]; exact h⟩
  · by_cases z : a = p
    · subst z
      have e' : upd F.fg a o' a = some u := e
      rw [upd_same] at e'
      cases e'
      exact ⟨upd_same, .inl h2⟩
    · rw [upd_ne z]
      exact S.fg a u (fgo z e)
  · by_cases z : a = p
    · subst z
      have e' : upd F.fg a o' a = some u := e
      rw [upd_same] at e'
      cases e'
      exact ⟨.inr rfl, (S.wf a o fgp).2.1, ht⟩
    · exact S.wf a u (fgo z e)
  · by_cases ne : a = p
    · exact ⟨o', by rw [ne]; exact upd_same, ht⟩
    · obtain ⟨u, hu, hn⟩ := S.dom a e
      exact ⟨u, by rw [upd_ne ne]; exact hu, hn⟩
  · obtain ⟨ps, t1, t2, t3⟩ := S.tab t ht'
    have n1 : t.1 ≠ p := fun z => by
      rw [z, h1] at t1
      have q := Option.some.inj t1
      rw [q] at hm
      exact hm
    refine ⟨ps, by rw [upd_ne n1]; exact t1, t2, fun pos cv hc => ?_⟩
    obtain ⟨k, k1, k2⟩ := t3 pos cv hc
    refine ⟨k, k1, ?_⟩
    rw [upd_ne fun z => ?_]
    · exact k2
    · rw [z, h1] at k2
      exact hcd _ _ (Option.some.inj k2)
  · refine (S.sl i s e).mono (GLe.refl G) fun b x ex eb owb => ?_
    have nb : b ≠ p := fun z => by
      obtain ⟨q, e1, _, e3⟩ := S.own_at (by rw [e, ex])
      rw [eb] at e1
      cases e1
      rcases e3 with e3 | e3
      · exact e3 (.inr z)
      · rw [z] at e3
        exact (S.wf p o fgp).2.1 i e3
    exact ⟨owb.1, upd_ne nb⟩
  · by_cases z : q = p
    · rw [z, upd_same] at e
      cases e
      exact hm'.elim
    · rw [upd_ne z] at e
      exact S.tupG q ks e
end
def compM (tm : TM) (cd : MB) (elt : ME) (vs : List Nat) : List D → List D → Env → Rs (List D)
  | [], acc, ρ => .ok acc ρ
  | d :: ds, acc, ρ => (tm d ρ).then fun _ ρ1 => (cd ρ1).then fun b ρ2 => if b = true then (elt ρ2).then fun y ρ3 => compM tm cd elt vs ds (acc ++ [y]) (wipeE ρ3 vs) else compM tm cd elt vs ds acc (wipeE ρ2 vs)
def mComp (it : MI) (tm : TM) (cd : MB) (elt : ME) (vs : List Nat) : ME := fun ρ => (it ρ).then fun ds ρ1 => if ds.length ≤ sizeLine then (match compM tm cd elt vs ds [] (wipeE ρ1 vs) with
  | .ok ys ρ2 => .ok (.list ys) (unwipe ρ1 ρ2 vs)
  | _ => .stuck) else .stuck
def bYes : MB := fun ρ => .ok true ρ
section
variable {X : Cx} {c : Ct} {F : Fr} {ρ : Env} {σ : L2.St} {G H : Hp} {elt tg iter : Expr} {ifs : List Expr} {scope : Scope} {own : List (Str × Nat)} {pos : Pos} {it : MI} {ts : List Nat} {tm : TM} {cd : MB} {m : ME}
theorem tLc_f (hv : ∀ v ∈ own.map (·.2), v ∉ c.ios) (hts : ∀ v ∈ ts, v ∈ own.map (·.2)) {Q : VK} (h : tF c (mComp it tm cd m (own.map (·.2))) σ H Q) : tLc (tI c it) (tG c.nox ts tm) (tT c.nox cd) (tE c.nox m) (own.map (·.2)) σ H Q := by
  generalize own.map (·.2) = vs at *
  obtain ⟨F, ρ, G, S, a⟩ := h
  refine ⟨F, ρ, G, S, (Ask.then a).imp (GLe.refl G) fun ds ρ1 k J H1 G1 S1 gl1 ito D hD => ?_⟩
  by_cases hz : ds.length ≤ sizeLine
  · simp only [if_pos hz] at k
    cases er : compM tm cd m vs ds [] (wipeE ρ1 vs) with
    | stuck => rw [er] at k; exact False.elim k
    | ex e ρ' => rw [er] at k; exact False.elim k
    | ok ys ρe =>
      rw [er] at k
      simp only at k
      have n0 : NewAt c F ρ1 σ G1 (upd H1 D (.lst [])) (.list []) D := NewAt.of S1 hD (.lst rfl) trivial
      have S1' := S1.alloc (o := .lst []) hD trivial
      have nd := n0.2.1
      have fgn := NewAt.fgn S1' n0
      refine ⟨fun i m' H => m' = ds.length - i ∧ i ≤ ds.length ∧ ∃ ρ G acc xs, State c.nox (F.plus D (.lst xs)) ρ (wipe σ vs) G H ∧ GLe G1 G ∧ RpL c.K G acc xs ∧ acc.length ≤ i ∧ compM tm cd m vs (ds.drop i) acc ρ = .ok ys ρe,
        ⟨ds.length, rfl, Nat.zero_le _, wipeE ρ1 vs, G1, [], [], ((S1'.plus n0 upd_same).wipe hv).nox, GLe.refl _, rfl, Nat.le_refl _, er⟩, ?_⟩
      rintro i m' H2 ⟨rfl, hile, ρ2, G2, acc, xs, S2, gl2, racc, hacc, er2⟩
      obtain ⟨h1, h2⟩ := ito i H2 G2 gl2 S2.sub
      by_cases hlt : i < ds.length
      · obtain ⟨d, ed, edr⟩ := drop_at hlt
        rw [edr] at er2
        obtain ⟨hgo, hy⟩ := h1 d ed
        refine .inr ⟨hgo, fun H => ∃ ρ G acc xs, State c.nox (F.plus D (.lst xs)) ρ (wipe σ vs) G H ∧ GLe G1 G ∧ RpL c.K G acc xs ∧ acc.length ≤ i + 1 ∧ compM tm cd m vs (ds.drop (i + 1)) acc ρ = .ok ys ρe,
          fun H' ⟨ρ', G', acc', xs', q1, q2, q3, q4, q5⟩ => ⟨ds.length - (i + 1), by omega, rfl, hlt, ρ', G', acc', xs', q1, q2, q3, q4, q5⟩, fun x H' y => ?_⟩
        obtain ⟨G3, S3, gl3, r3⟩ := (hy x H' y).state S2
        have e3 : (tm d ρ2).then (fun _ ρ1 => (cd ρ1).then fun b ρ2 => if b = true then (m ρ2).then fun y ρ3 => compM tm cd m vs (ds.drop (i + 1)) (acc ++ [y]) (wipeE ρ3 vs) else compM tm cd m vs (ds.drop (i + 1)) acc (wipeE ρ2 vs)) = .ok ys ρe := er2
        refine ⟨_, ρ2, G3, d, S3, r3, ?_⟩
        cases et : tm d ρ2 with
        | stuck => rw [et] at e3; cases e3
        | ex e ρ' => rw [et] at e3; cases e3
        | ok u ρ4 =>
          rw [et] at e3
          intro σ4 H4 G4 S4 gl4 ⟨hl4, hk4⟩
          have ew : wipe σ4 vs = wipe σ vs := wipe_eq hl4 fun j hj => hk4 j fun z => hj (hts j z)
          refine ⟨ew, _, ρ4, G4, S4, ?_⟩
          have e4 : (cd ρ4).then (fun b ρ2 => if b = true then (m ρ2).then fun y ρ3 => compM tm cd m vs (ds.drop (i + 1)) (acc ++ [y]) (wipeE ρ3 vs) else compM tm cd m vs (ds.drop (i + 1)) acc (wipeE ρ2 vs)) = .ok ys ρe := e3
          have g24 := gl3.trans gl4
          cases ec : cd ρ4 with
          | stuck => rw [ec] at e4; cases e4
          | ex e ρ' => rw [ec] at e4; cases e4
          | ok b ρ5 =>
            rw [ec] at e4
            intro H5 G5 S5 gl5
            have g25 := g24.trans gl5
            cases b with
            | false =>
              refine ⟨wipeE ρ5 vs, G5, acc, xs, ?_, gl2.trans g25, RpL.mono g25 _ _ racc, by omega, e4⟩
              rw [← ew]
              exact S5.wipe hv
            | true =>
              have e5 : (m ρ5).then (fun y ρ3 => compM tm cd m vs (ds.drop (i + 1)) (acc ++ [y]) (wipeE ρ3 vs)) = .ok ys ρe := e4
              refine ⟨_, ρ5, G5, S5, ?_⟩
              cases em : m ρ5 with
              | stuck => rw [em] at e5; cases e5
              | ex e ρ' => rw [em] at e5; cases e5
              | ok yv ρ6 =>
                rw [em] at e5
                intro v H6 G6 S6 gl6 r6
                have g26 := g25.trans gl6
                obtain ⟨q1, q2⟩ := S6.fg D (.lst xs) (by show upd F.fg D (.lst xs) D = _; exact upd_same)
                refine ⟨xs, q1, ?_, wipeE ρ6 vs, G6, acc ++ [yv], xs ++ [v], ?_, gl2.trans g26, RpL.append (RpL.mono g26 _ _ racc) (.one r6), by rw [List.length_append]; simp; omega, e5⟩
                · rw [racc.length]
                  exact Nat.lt_of_le_of_lt hacc (Nat.lt_of_lt_of_le hlt hz)
                · rw [← ew]
                  exact (State.rePlus (o := .lst xs) (o' := .lst (xs ++ [v])) trivial trivial (fun _ z => nomatch z) (fun k q z => by unfold CodeO at z; cases z) S6).wipe hv
      · have e : i = ds.length := by omega
        subst e
        rw [List.drop_length] at er2
        have e2 : Rs.ok acc ρ2 = Rs.ok ys ρe := er2
        cases e2
        have Sm := S2.yesx.minus nd fgn
        have n2 := NewAt.still nd (ObjD.lst racc) trivial S2.yesx
        refine .inl ⟨h2 rfl, k D H2 G2 (State.unwipe S1 Sm gl2 hv) (gl1.trans gl2) ⟨n2.1, nd, fun j ej hj es => ?_⟩⟩
        rcases unwipe_get hj with ⟨_, z⟩ | ⟨hi, hj⟩
        · exact (keep_own z.symm).elim
        · exact n2.2.2 j ej hj (by rw [wipe_get hi]; exact es)
  · simp only [if_neg hz] at k
    exact k.elim
theorem fe_lc (hc : X.calm = true) (hN : X.N.Nodup) (hv : ∀ v ∈ own.map (·.2), v ∉ c.ios) (hts : ∀ v ∈ ts, v ∈ own.map (·.2)) (hi : PI X tg iter (tI c it)) (ok : BlkOk X.N X.env.scope scope own)
    (hg : ∀ (s : Shared) (H : Hp) (C : Addr) (cl : List (Str × Addr)) (fp : List Addr), PG (X.blk s H scope (compEnvC scope cl C X.env) fp) tg (tG c.nox ts tm)) (ht : ∀ (s : Shared) (H : Hp) (C : Addr) (cl : List (Str × Addr)) (fp : List Addr), PTs (X.blk s H scope (compEnvC scope cl C X.env) fp) ifs (tT c.nox cd))
    (he : ∀ (s : Shared) (H : Hp) (C : Addr) (cl : List (Str × Addr)) (fp : List Addr), PE (X.blk s H scope (compEnvC scope cl C X.env) fp) elt (tE c.nox m)) (hs : ∀ x, foldedSetIterable iter X.env x = pure x := by intro _; rfl) :
    PE X (.ListComp elt [⟨tg, iter, ifs, 0⟩] scope pos) (tF c (mComp it tm cd m (own.map (·.2)))) := pe_conseq (pe_lc hc hN hi ok hg ht he hs) fun σ H Q h => tLc_f hv hts h
theorem st_ownLc {i : Nat} {y : Str} {py spos : Pos} (hc : X.calm = true) (hN : X.N.Nodup) (hy : X.N[i]? = some y) (hyl : X.env.scope.names.lookup y = some .local) (hio : i ∉ c.ios) (hv : ∀ v ∈ own.map (·.2), v ∉ c.ios) (hts : ∀ v ∈ ts, v ∈ own.map (·.2))
    (hsw : swapsWith (.ListComp elt [⟨tg, iter, ifs, 0⟩] scope pos) (some (.Name y py)) spos.line X.env = pure true) (hi : PI X tg iter (tI c it)) (ok : BlkOk X.N X.env.scope scope own)
    (hg : ∀ (s : Shared) (H : Hp) (C : Addr) (cl : List (Str × Addr)) (fp : List Addr), PG (X.blk s H scope (compEnvC scope cl C X.env) fp) tg (tG c.nox ts tm)) (ht : ∀ (s : Shared) (H : Hp) (C : Addr) (cl : List (Str × Addr)) (fp : List Addr), PTs (X.blk s H scope (compEnvC scope cl C X.env) fp) ifs (tT c.nox cd))
    (he : ∀ (s : Shared) (H : Hp) (C : Addr) (cl : List (Str × Addr)) (fp : List Addr), PE (X.blk s H scope (compEnvC scope cl C X.env) fp) elt (tE c.nox m)) (hs : ∀ x, foldedSetIterable iter X.env x = pure x := by intro _; rfl) :
    PS X (.Assign [.Name y py] (.ListComp elt [⟨tg, iter, ifs, 0⟩] scope pos) spos) (tS c (sOwn i (mComp it tm cd m (own.map (·.2))))) := ps_conseq (ps_setLc hc hN hy hyl hsw hi ok hg ht he hs) fun D σ H ⟨F, ρ, G, S, a⟩ =>
  tLc_f hv hts ⟨F, ρ, G, S, (SAsk.sr a).imp (GLe.refl G) fun d ρ' k p H' G' S' gl n => k _ H' G' (S'.setOwn n hio) gl⟩
theorem mts_nil : PTs X [] (tT c bYes) := ⟨fun pins s σ H Q I ⟨F, ρ, G, S, a⟩ => pts_nil.run pins s σ H Q I (a H G S (GLe.refl G))⟩
theorem mts_one {cd : Expr} {t : MB} (h : PT X cd (tT c t)) : PTs X [cd] (tT c t) := pts_one h
end

set_option autoImplicit true
def ioL : Nat → List Sl → List V → List (Nat × Addr)
  | k, .own _ :: ss, .ref p :: vs => (k, p) :: ioL (k + 1) ss vs
  | k, _ :: ss, _ :: vs => ioL (k + 1) ss vs
  | _, _, _ => []
def ownIx : Nat → List Sl → List Nat
  | _, [] => []
  | k, .own _ :: ss => k :: ownIx (k + 1) ss
  | k, _ :: ss => ownIx (k + 1) ss
def backs : List Nat → Env → Option (List D)
  | [], _ => some []
  | i :: is, ρ => match ρ[i]? with
    | some (.own d) => (backs is ρ).map fun r => d :: r
    | _ => none
def fnM (len n : Nat) (ios : List Nat) (m : SM) : FM := fun ss => if ownIx 0 ss = ios then (match m (ss ++ List.replicate (len - n) .no) with
  | .nx ρ => (match backs ios ρ with
    | some b => .ok .none b
    | none => .stuck)
  | .rt d ρ => (match backs ios ρ with
    | some b => .ok d b
    | none => .stuck)
  | .ex e _ => if ios = [] then .ex e else .stuck
  | .stuck => .stuck) else .stuck
theorem ioL_args {K : PySem.W.Frag} {G H : Hp} : ∀ {ss : List Sl} {vs : List V} {k : Nat}, ArgsOk K G H ss vs → (ioL k ss vs).map (·.1) = ownIx k ss ∧ (ioL k ss vs).map (·.2) = owns ss vs ∧ vs.length = ss.length ∧
    (∀ (i : Nat) (d : D), ss[i]? = some (.fz d) → ∃ v, vs[i]? = some v ∧ Rp K G d v) ∧ (∀ (i : Nat) (d : D), ss[i]? = some (.own d) → ∃ p, vs[i]? = some (V.ref p) ∧ Own K G H d p ∧ (k + i, p) ∈ ioL k ss vs) ∧
    (∀ q ∈ ioL k ss vs, ∃ i : Nat, q.1 = k + i ∧ vs[i]? = some (V.ref q.2)) ∧ (∀ p ∈ owns ss vs, ∃ d, Own K G H d p)
  | [], [], k, _ => ⟨rfl, rfl, rfl, fun i d h => by simp at h, fun i d h => by simp at h, fun q hq => (nomatch hq), fun q hq => (nomatch hq)⟩
  | .fz d :: ss, v :: vs, k, h => by
    obtain ⟨h1, h2, h3, h4, h5, h6, h7⟩ := ioL_args (k := k + 1) h.2
    have e1 : ioL k (.fz d :: ss) (v :: vs) = ioL (k + 1) ss vs := by cases v <;> rfl
    have e2 : owns (.fz d :: ss) (v :: vs) = owns ss vs := by cases v <;> rfl
    rw [e1, e2]
    refine ⟨h1, h2, by rw [List.length_cons, List.length_cons, h3], fun i x hi => ?_, fun i x hi => ?_, fun q hq => ?_, h7⟩
    · cases i with
      | zero =>
        cases Option.some.inj hi
        exact ⟨v, rfl, h.1⟩
      | succ i => exact h4 i x hi
    · cases i with
      | zero => cases Option.some.inj hi
      | succ i =>
        obtain ⟨p, a, b, c⟩ := h5 i x hi
        exact ⟨p, a, b, by rw [show k + (i + 1) = k + 1 + i by omega]; exact c⟩
    · obtain ⟨i, a, b⟩ := h6 q hq
      exact ⟨i + 1, by omega, b⟩
  | .own d :: ss, v :: vs, k, h => by
    obtain ⟨⟨p, rfl, ow⟩, hr⟩ := h
    obtain ⟨h1, h2, h3, h4, h5, h6, h7⟩ := ioL_args (k := k + 1) hr
    refine ⟨by show k :: _ = k :: _; rw [h1], by show p :: _ = p :: _; rw [h2], by rw [List.length_cons, List.length_cons, h3], fun i x hi => ?_, fun i x hi => ?_, fun q hq => ?_, fun q hq => ?_⟩
    · cases i with
      | zero => cases Option.some.inj hi
      | succ i => exact h4 i x hi
    · cases i with
      | zero =>
        cases Option.some.inj hi
        exact ⟨p, rfl, ow, List.mem_cons_self⟩
      | succ i =>
        obtain ⟨q, a, b, c⟩ := h5 i x hi
        exact ⟨q, a, b, List.mem_cons_of_mem _ (by rw [show k + (i + 1) = k + 1 + i by omega]; exact c)⟩
    · rcases List.mem_cons.mp hq with e | hq
      · subst e
        exact ⟨0, rfl, rfl⟩
      · obtain ⟨i, a, b⟩ := h6 q hq
        exact ⟨i + 1, by omega, b⟩
    · rcases List.mem_cons.mp hq with e | hq
      · subst e
        exact ⟨d, ow⟩
      · exact h7 q hq
theorem nodup_snd {qs : List (Nat × Addr)} (hn : (qs.map (·.2)).Nodup) {i j : Nat} {p : Addr} (hi : (i, p) ∈ qs) (hj : (j, p) ∈ qs) : i = j := by
  induction qs with
  | nil => cases hi
  | cons q r ih =>
    rw [List.map_cons, List.nodup_cons] at hn
    rcases List.mem_cons.mp hi with e1 | e1
    · rcases List.mem_cons.mp hj with e2 | e2
      · rw [← e2] at e1
        exact congrArg Prod.fst e1
      · exact (hn.1 (List.mem_map.mpr ⟨(j, p), e2, by rw [← e1]⟩)).elim
    · rcases List.mem_cons.mp hj with e2 | e2
      · exact (hn.1 (List.mem_map.mpr ⟨(i, p), e1, by rw [← e2]⟩)).elim
      · exact ih hn.2 e1 e2
open Classical in
/-- the frame's ghost at the entry -/
noncomputable def entryFr (G H : Hp) (ss : List Sl) (vs : List V) : Fr where
  fg := fun a => if (G a = none ∨ ∃ o w, H a = some (.frz o w)) ∧ a ∉ owns ss vs ∧ ∀ ps, H a ≠ some (.tbl ps) then H a else none
  dom := fun a => Dm H a
  io := ioL 0 ss vs
open Classical in
theorem entryFr_fg {G H : Hp} {ss : List Sl} {vs : List V} {a : Addr} {u : HO} : (entryFr G H ss vs).fg a = some u ↔ ((G a = none ∨ ∃ o w, H a = some (.frz o w)) ∧ a ∉ owns ss vs ∧ ∀ ps, H a ≠ some (.tbl ps)) ∧ H a = some u := by
  show (if (G a = none ∨ ∃ o w, H a = some (.frz o w)) ∧ a ∉ owns ss vs ∧ ∀ ps, H a ≠ some (.tbl ps) then H a else none) = some u ↔ _
  by_cases h : (G a = none ∨ ∃ o w, H a = some (.frz o w)) ∧ a ∉ owns ss vs ∧ ∀ ps, H a ≠ some (.tbl ps)
  · rw [if_pos h]
    exact ⟨fun e => ⟨h, e⟩, fun e => e.2⟩
  · rw [if_neg h]
    exact ⟨fun e => (nomatch e), fun e => (h e.1).elim⟩
theorem start_get {N : List Str} {vs : List V} {i : Nat} {v : V} (h : vs[i]? = some v) : (L2.start N vs)[i]? = some (some v) := by
  have hl := (List.getElem?_eq_some_iff.mp h).1
  unfold L2.start
  rw [List.getElem?_append_left (by rw [List.length_map]; exact hl), List.getElem?_map, h]
  rfl
section
variable {c : Ct} {G H : Hp} {ss : List Sl} {vs : List V}
theorem entry_state {N : List Str} (sub : Sub G H) (tab : Tabs c.T H) (tabG : ∀ p ∈ c.T, G p.1 = none) (tupG : ∀ (q : Addr) (ks : List Key), H q = some (.tup (ks.map kV)) → G q = some (.tup (ks.map kV))) (ha : ArgsOk c.K G H ss vs) (hn : (owns ss vs).Nodup)
    (hl : vs.length ≤ N.length) (hio : ownIx 0 ss = c.ios) : State c (entryFr G H ss vs) (ss ++ List.replicate (N.length - vs.length) .no) (L2.start N vs) G H := by
  obtain ⟨h1, h2, h3, h4, h5, h6, h7⟩ := ioL_args (k := 0) ha
  have sg : ∀ (i : Nat) (s : Sl), (ss ++ List.replicate (N.length - vs.length) Sl.no)[i]? = some s → ss[i]? = some s ∨ s = .no := fun i s e => by
    by_cases hi : i < ss.length
    · rw [List.getElem?_append_left hi] at e
      exact .inl e
    · rw [List.getElem?_append_right (by omega), List.getElem?_replicate] at e
      split at e
      · exact .inr (Option.some.inj e).symm
      · cases e
  refine ⟨sub, fun a u e => ?_, fun a u e => ?_, fun a e => e, tab, tabG, ?_, fun i s e => ?_, fun i j p d e e1 e2 e3 e4 => ?_, fun q hq => ?_, by show (ioL 0 ss vs).map (·.1) = _; rw [h1, hio], fun q hq => ?_, tupG⟩
  · obtain ⟨⟨a1, _, _⟩, a2⟩ := entryFr_fg.mp e
    exact ⟨a2, a1.imp id fun ⟨q, w, z⟩ => ⟨q, w, by rw [a2] at z; exact Option.some.inj z⟩⟩
  · obtain ⟨⟨a1, a3, a4⟩, a2⟩ := entryFr_fg.mp e
    refine ⟨⟨u, a2, fun ps z => a4 ps (by rw [a2, z])⟩, fun i hi => ?_, fun ps z => a4 ps (by rw [a2, z])⟩
    have hi' : (i, a) ∈ ioL 0 ss vs := hi
    exact a3 (by rw [← h2]; exact List.mem_map.mpr ⟨_, hi', rfl⟩)
  · rw [List.length_append, List.length_replicate]
    unfold L2.start
    rw [List.length_append, List.length_map, List.length_replicate, h3]
  · rcases sg i s e with e | e
    · cases s with
      | no => trivial
      | fz d =>
        obtain ⟨v, a, b⟩ := h4 i d e
        exact ⟨v, start_get a, b⟩
      | own d =>
        obtain ⟨p, a, b, x⟩ := h5 i d e
        exact ⟨p, start_get a, b, .inr (by rw [Nat.zero_add] at x; exact x)⟩
    · subst e
      trivial
  · have k1 : ss[i]? = some (.own d) := (sg i _ e1).resolve_right (fun z => nomatch z)
    have k2 : ss[j]? = some (.own e) := (sg j _ e2).resolve_right (fun z => nomatch z)
    obtain ⟨p1, a1, _, x1⟩ := h5 i d k1
    obtain ⟨p2, a2, _, x2⟩ := h5 j e k2
    rw [start_get a1] at e3
    rw [start_get a2] at e4
    cases e3
    cases e4
    rw [Nat.zero_add] at x1 x2
    exact nodup_snd (by rw [h2]; exact hn) x1 x2
  · obtain ⟨i, a, b⟩ := h6 q hq
    rw [a, Nat.zero_add]
    exact start_get b
  · obtain ⟨d, ow⟩ := h7 q.2 (by rw [← h2]; exact List.mem_map.mpr ⟨q, hq, rfl⟩)
    obtain ⟨_, o, ho, hd, _⟩ := ow
    exact ⟨o, ho, hd.notTbl.1⟩
/-- what a State at a def's end tells its caller -/
theorem exit_post {ρ : Env} {σ : L2.St} {G' H' : Hp} (gl : GLe G G') (S : State c (entryFr G H ss vs) ρ σ G' H') : Post c.T G H G' H' (owns ss vs) :=
  ⟨gl, S.sub, S.tab, S.tabG, fun a u e1 e2 e3 e4 => S.fg a u (entryFr_fg.mpr ⟨⟨e2.imp id fun ⟨q, w, z⟩ => ⟨q, w, by rw [e1, z]⟩, e3, fun ps z => e4 ps (by rw [e1] at z; exact Option.some.inj z)⟩, e1⟩), fun a e => S.dom a e, S.tupG⟩
theorem exit_back {ρ : Env} {σ : L2.St} {G' H' : Hp} (ha : ArgsOk c.K G H ss vs) (hio : ownIx 0 ss = c.ios) (S : State c (entryFr G H ss vs) ρ σ G' H') {b : List D} (hb : backs c.ios ρ = some b) : BackOk c.K G' H' b (owns ss vs) := by
  obtain ⟨h1, h2, _⟩ := ioL_args (k := 0) ha
  rw [← h2]
  rw [← hio, ← h1] at hb
  have key : ∀ (qs : List (Nat × Addr)) (b : List D), (∀ q ∈ qs, q ∈ ioL 0 ss vs) → backs (qs.map (·.1)) ρ = some b → BackOk c.K G' H' b (qs.map (·.2)) := by
    intro qs
    induction qs with
    | nil =>
      intro b _ hb
      cases hb
      trivial
    | cons q r ih =>
      intro b hq hb
      unfold backs at hb
      simp only [List.map_cons] at hb
      split at hb
      · rename_i d e
        cases er : backs (r.map (·.1)) ρ with
        | none => rw [er] at hb; cases hb
        | some x =>
          rw [er] at hb
          cases hb
          refine ⟨?_, ih x (fun z hz => hq z (List.mem_cons_of_mem _ hz)) er⟩
          obtain ⟨p, e1, ow, _⟩ := S.own_at e
          have := S.io q (hq q List.mem_cons_self)
          rw [this] at e1
          cases e1
          exact ow
      · cases hb
  exact key _ b (fun q hq => hq) hb
end
section
variable {P : Program} {w : World} {K : PySem.W.Frag} {mg : Str → Option Value} {base : Heap} {T : List (Addr × Str)}
/-- THE RULE for a def of the text, its code object known -/
theorem fn_okC {x qual : Str} {st : Stmt} {f : Addr} {N ps : List Str} {k n : Nat} {ios : List Nat} {m : SM} {oc : Value} {od an : Option Addr} {kV doc pm cdv ct : Value} {osl : Array (Option Value)}
    (lk : K.lookup f = some ⟨oc, od, .func (PySem.W.fnOf x qual (defArgs st) (defBody st) (defScope st) .none kV doc pm an cdv ct), osl⟩) (hcd : PySem.W.codeIn K cdv qual = true) (S : FnScope N ps (defScope st)) (hn : ps.length = n := by rfl)
    (hbody : ∀ (A : Around) (outer : List PySem.Env) (s : Shared) (H : Hp) (E : XK) (W : WX), Room k (A.deeper (envOfC qual (defScope st) s.heap.objs.size f cdv)) → Takes (cxOf (L2.CX P w) P w K mg base N qual (defScope st) f cdv A outer s H E) W →
      PassesOwn (model P w) (cxOf (L2.CX P w) P w K mg base N qual (defScope st) f cdv A outer s H E).A (cxOf (L2.CX P w) P w K mg base N qual (defScope st) f cdv A outer s H E).env (cxOf (L2.CX P w) P w K mg base N qual (defScope st) f cdv A outer s H E).xe →
      PSs (cxOf (L2.CX P w) P w K mg base N qual (defScope st) f cdv A outer s H E) (defBody st) (tS ⟨K, T, mg, W, ios⟩ m)) :
    FnOk P w K mg base (L2.CX P w) (k + 1) f (PySem.W.fnOf x qual (defArgs st) (defBody st) (defScope st) .none kV doc pm an cdv ct) ps (spM K T mg n (fnM N.length n ios m)) := by
  have hpl : ps.length ≤ N.length := by have := congrArg List.length S.pre; rw [List.length_take] at this; omega
  refine fn_of lk hcd S (fun vs H Q E h => by rw [h.1, hn]) (fun A outer s H vs Q E hr h => ?_)
  obtain ⟨hl, G, ss, sub, tab, tabG, tupG, ha, hnd, hq⟩ := h
  refine ⟨_, hbody A outer s H E (fun cls d _ H' => E cls d H') hr (takes_of rfl rfl rfl rfl) (passes_of rfl), ?_⟩
  unfold fnM at hq
  by_cases hio : ownIx 0 ss = ios
  · rw [if_pos hio] at hq
    have St := entry_state (c := ⟨K, T, mg, fun cls d _ H' => E cls d H', ios⟩) (N := N) sub tab tabG tupG ha hnd (by rw [hl, ← hn]; exact hpl) hio
    rw [hl] at St
    refine ⟨_, _, G, St, ?_⟩
    cases em : m (ss ++ List.replicate (N.length - n) Sl.no) with
    | stuck => rw [em] at hq; exact False.elim hq
    | nx ρ =>
      rw [em] at hq
      simp only at hq
      intro σ' H' G' S' gl
      cases eb : backs ios ρ with
      | none => rw [eb] at hq; exact False.elim hq
      | some b =>
        rw [eb] at hq
        exact hq .non H' G' (exit_post gl S') rfl (exit_back ha hio S' eb)
    | rt d ρ =>
      rw [em] at hq
      simp only at hq
      intro v σ' H' G' S' gl r
      cases eb : backs ios ρ with
      | none => rw [eb] at hq; exact False.elim hq
      | some b =>
        rw [eb] at hq
        exact hq v H' G' (exit_post gl S') r (exit_back ha hio S' eb)
    | ex e ρ =>
      rw [em] at hq
      simp only at hq
      intro cls dx σ' H' G' S' gl xo
      by_cases h0 : ios = []
      · rw [if_pos h0] at hq
        exact hq cls dx H' G' (exit_post gl S') xo
      · rw [if_neg h0] at hq
        exact hq.elim
  · rw [if_neg hio] at hq
    exact hq.elim
/-- THE RULE for a def of the text -/
theorem fn_ok {x qual : Str} {st : Stmt} {f : Addr} {fd : FuncData} {N ps : List Str} {k n : Nat} {ios : List Nat} {m : SM} (Fn : Fun K x qual st f fd) (S : FnScope N ps (defScope st)) (hn : ps.length = n := by rfl)
    (hbody : ∀ (cdv : Value) (A : Around) (outer : List PySem.Env) (s : Shared) (H : Hp) (E : XK) (W : WX), Room k (A.deeper (envOfC qual (defScope st) s.heap.objs.size f cdv)) → Takes (cxOf (L2.CX P w) P w K mg base N qual (defScope st) f cdv A outer s H E) W →
      PassesOwn (model P w) (cxOf (L2.CX P w) P w K mg base N qual (defScope st) f cdv A outer s H E).A (cxOf (L2.CX P w) P w K mg base N qual (defScope st) f cdv A outer s H E).env (cxOf (L2.CX P w) P w K mg base N qual (defScope st) f cdv A outer s H E).xe →
      PSs (cxOf (L2.CX P w) P w K mg base N qual (defScope st) f cdv A outer s H E) (defBody st) (tS ⟨K, T, mg, W, ios⟩ m)) :
    FnOk P w K mg base (L2.CX P w) (k + 1) f fd ps (spM K T mg n (fnM N.length n ios m)) := by
  obtain ⟨oc, od, kV, doc, pm, an, cdv, ct, osl, rfl, lk, hcd⟩ := Fn.ex
  exact fn_okC lk hcd S hn (hbody cdv)
end

set_option autoImplicit true
def sAsg (m : ME) (tm : TM) : SM := fun ρ => (m ρ).sr fun d ρ1 => (tm d ρ1).sr fun _ ρ2 => .nx ρ2
section
variable {X : Cx} {c : Ct} {F : Fr} {ρ : Env} {σ : L2.St} {G H : Hp} {e tg : Expr} {es : List Expr} {pos : Pos}
theorem st_asg {m : ME} {ts : List Nat} {tm : TM} (he : PE X e (tE c m)) (hg : PG X tg (tG c ts tm)) (hs : swapsWithSole [tg] e pos.line X.env = pure false := by rfl) (hw : swappedStores [tg] e X.env = pure none := by rfl)
    (h1 : (assignEach [tg] X.env).map (·.2) = [assign tg X.env] := by rfl) : PS X (.Assign [tg] e pos) (tS c (sAsg m tm)) := ps_conseq (ps_asg he hg hs hw h1) fun D σ H ⟨F, ρ, G, S, a⟩ => by
  refine ⟨F, ρ, G, S, (SAsk.sr a).imp (GLe.refl G) fun d ρ1 k v H1 G1 S1 gl1 r => ⟨F, ρ1, G1, d, S1, r, ?_⟩⟩
  cases et : tm d ρ1 with
  | stuck => rw [et] at k; exact k
  | ex x ρ2 =>
    rw [et] at k
    exact fun cls dx σ' H' G' S' gl x => k cls dx σ' H' G' S' (gl1.trans gl) x
  | ok u ρ2 =>
    rw [et] at k
    exact fun σ' H' G' S' gl _ => k σ' H' G' S' (gl1.trans gl)
def tPs (c : Ct) : List (Bool × ME) → TA
  | [] => tNil
  | (false, m) :: r => tCons (tE c m) (tPs c r)
  | (true, m) :: r => tCons (tF c m) (tPs c r)
def PVs (c : Ct) (F : Fr) (ρ : Env) (σ : L2.St) (G H : Hp) : List Bool → List D → List V → Prop
  | [], [], [] => True
  | false :: fs, d :: ds, v :: vs => Rp c.K G d v ∧ PVs c F ρ σ G H fs ds vs
  | true :: fs, d :: ds, v :: vs => (∃ p, v = .ref p ∧ NewAt c F ρ σ G H d p) ∧ PVs c F ρ σ G H fs ds vs
  | _, _, _ => False
def newsOf : List Bool → List V → List Addr
  | true :: fs, .ref p :: vs => p :: newsOf fs vs
  | _ :: fs, _ :: vs => newsOf fs vs
  | _, _ => []
theorem PVs.minus {p : Addr} {o : HO} : ∀ {fs : List Bool} {ds : List D} {vs : List V}, PVs c (F.plus p o) ρ σ G H fs ds vs → PVs c F ρ σ G H fs ds vs ∧ p ∉ newsOf fs vs
  | [], [], [], _ => ⟨trivial, fun z => nomatch z⟩
  | false :: fs, d :: ds, v :: vs, h => by
    obtain ⟨h1, h2⟩ := PVs.minus h.2
    have e : newsOf (false :: fs) (v :: vs) = newsOf fs vs := by cases v <;> rfl
    exact ⟨⟨h.1, h1⟩, by rw [e]; exact h2⟩
  | true :: fs, d :: ds, v :: vs, h => by
    obtain ⟨h1, h2⟩ := PVs.minus h.2
    obtain ⟨⟨q, rfl, n1, n2, n3⟩, _⟩ := h
    refine ⟨⟨⟨q, rfl, n1, fun z => n2 (.inl z), n3⟩, h1⟩, fun z => ?_⟩
    rcases List.mem_cons.mp z with e | z
    · exact n2 (.inr e.symm)
    · exact h2 z
theorem tPs_ev : ∀ {ms : List (Bool × ME)} {F : Fr} {ρ : Env} {G H : Hp} {R : List V → Hp → Prop}, State c F ρ σ G H →
    Ask c F σ G (fun ds ρ' => ∀ vs H' G', State c F ρ' σ G' H' → GLe G G' → PVs c F ρ' σ G' H' (ms.map (·.1)) ds vs → (newsOf (ms.map (·.1)) vs).Nodup → R vs H') (evm (ms.map (·.2)) ρ) → tPs c ms σ H R
  | [], F, ρ, G, H, R, S, a => a [] H G S (GLe.refl G) trivial List.nodup_nil
  | (false, m) :: ms, F, ρ, G, H, R, S, a => by
    refine ⟨F, ρ, G, S, (Ask.then a).imp (GLe.refl G) fun d ρ1 a1 v H1 G1 S1 g1 r1 => ?_⟩
    refine tPs_ev S1 ((Ask.then a1).imp g1 fun ds ρ2 k vs H2 G2 S2 g2 r2 n2 => ?_)
    refine k (v :: vs) H2 G2 S2 (g1.trans g2) ⟨Rp.mono g2 d v r1, r2⟩ ?_
    have e : newsOf (((false, m) :: ms).map (·.1)) (v :: vs) = newsOf (ms.map (·.1)) vs := by cases v <;> rfl
    rw [e]
    exact n2
  | (true, m) :: ms, F, ρ, G, H, R, S, a => by
    refine ⟨F, ρ, G, S, (Ask.then a).imp (GLe.refl G) fun d ρ1 a1 p H1 G1 S1 g1 n1 => ?_⟩
    obtain ⟨hg, o, ho, hd, hm⟩ := id n1.1
    have nd := n1.2.1
    have fgn := NewAt.fgn S1 n1
    refine tPs_ev (S1.plus n1 ho) (((Ask.then a1).minus nd fgn).imp g1 fun ds ρ2 k vs H2 G2 S2 g2 r2 n2 => ?_)
    obtain ⟨r3, n3⟩ := PVs.minus r2
    exact k (.ref p :: vs) H2 G2 (S2.minus nd fgn) (g1.trans g2) ⟨⟨p, rfl, NewAt.still nd (hd.mono g2) hm S2⟩, r3⟩ (List.nodup_cons.mpr ⟨n3, n2⟩)
theorem mp_nil : PA X [] (tPs c []) := pa_nil
theorem mp_v {m : ME} {ms : List (Bool × ME)} (h : PE X e (tE c m)) (hr : PA X es (tPs c ms)) (hs : starEach (e :: es) X.env = (false, eval e X.env) :: starEach es X.env := by rfl) : PA X (e :: es) (tPs c ((false, m) :: ms)) := pa_cons h hr hs
theorem mp_f {m : ME} {ms : List (Bool × ME)} (h : PE X e (tF c m)) (hr : PA X es (tPs c ms)) (hs : starEach (e :: es) X.env = (false, eval e X.env) :: starEach es X.env := by rfl) : PA X (e :: es) (tPs c ((true, m) :: ms)) := pa_cons h hr hs
def setP : List Nat → List Bool → List D → Env → Env
  | i :: is, f :: fs, d :: ds, ρ => setP is fs ds (ρ.set i (if f = true then .own d else .fz d))
  | _, _, _, ρ => ρ
def setV : List Nat → List V → L2.St → L2.St
  | i :: is, v :: vs, σ => setV is vs (σ.set i (some v))
  | _, _, σ => σ
theorem setP_state : ∀ {is : List Nat} {fs : List Bool} {ds : List D} {vs : List V} {ρ : Env} {σ : L2.St}, State c F ρ σ G H → is.length = fs.length → PVs c F ρ σ G H fs ds vs → (newsOf fs vs).Nodup → (∀ i ∈ is, i ∉ c.ios) → State c F (setP is fs ds ρ) (setV is vs σ) G H
  | [], [], [], [], ρ, σ, S, _, _, _, _ => S
  | i :: is, false :: fs, d :: ds, v :: vs, ρ, σ, S, hl, h, n, hio => by
    have e : newsOf (false :: fs) (v :: vs) = newsOf fs vs := by cases v <;> rfl
    have S' := S.setFz h.1 (hio i List.mem_cons_self)
    refine setP_state (is := is) (fs := fs) (ds := ds) (vs := vs) S' (by simpa using hl) ?_ (by rw [← e]; exact n) fun j hj => hio j (List.mem_cons_of_mem _ hj)
    have key : ∀ {fs : List Bool} {ds : List D} {vs : List V}, PVs c F ρ σ G H fs ds vs → PVs c F (ρ.set i (.fz d)) (σ.set i (some v)) G H fs ds vs := by
      intro fs
      induction fs with
      | nil => intro ds vs h; cases ds <;> cases vs <;> first | trivial | exact h.elim
      | cons f fs ih =>
        intro ds vs h
        cases ds with
        | nil => cases f <;> exact h.elim
        | cons x ds =>
          cases vs with
          | nil => cases f <;> exact h.elim
          | cons u vs =>
            cases f with
            | false => exact ⟨h.1, ih h.2⟩
            | true =>
              obtain ⟨⟨p, e1, n1, n2, n3⟩, hr⟩ := h
              refine ⟨⟨p, e1, n1, n2, fun j y ej es => ?_⟩, ih hr⟩
              rcases get_set ej with ⟨_, z⟩ | ⟨ne, ej⟩
              · cases z
              · rw [List.getElem?_set_ne ne] at es
                exact n3 j y ej es
    exact key h.2
  | i :: is, true :: fs, d :: ds, v :: vs, ρ, σ, S, hl, h, n, hio => by
    obtain ⟨⟨p, rfl, hn⟩, hr⟩ := h
    have n' := List.nodup_cons.mp n
    have S' := S.setOwn hn (hio i List.mem_cons_self)
    refine setP_state (is := is) (fs := fs) (ds := ds) (vs := vs) S' (by simpa using hl) ?_ n'.2 fun j hj => hio j (List.mem_cons_of_mem _ hj)
    have key : ∀ {fs : List Bool} {ds : List D} {vs : List V}, p ∉ newsOf fs vs → PVs c F ρ σ G H fs ds vs → PVs c F (ρ.set i (.own d)) (σ.set i (some (.ref p))) G H fs ds vs := by
      intro fs
      induction fs with
      | nil => intro ds vs _ h; cases ds <;> cases vs <;> first | trivial | exact h.elim
      | cons f fs ih =>
        intro ds vs np h
        cases ds with
        | nil => cases f <;> exact h.elim
        | cons x ds =>
          cases vs with
          | nil => cases f <;> exact h.elim
          | cons u vs =>
            cases f with
            | false =>
              have e : newsOf (false :: fs) (u :: vs) = newsOf fs vs := by cases u <;> rfl
              rw [e] at np
              exact ⟨h.1, ih np h.2⟩
            | true =>
              obtain ⟨⟨q, rfl, n1, n2, n3⟩, hr⟩ := h
              have np' : ¬ p ∈ q :: newsOf fs vs := np
              rw [List.mem_cons, not_or] at np'
              refine ⟨⟨q, rfl, n1, n2, fun j y ej es => ?_⟩, ih np'.2 hr⟩
              rcases get_set ej with ⟨rfl, _⟩ | ⟨ne, ej⟩
              · have hlt : i < σ.length := by
                  by_cases hlt : i < σ.length
                  · exact hlt
                  · rw [List.getElem?_eq_none (by rw [List.length_set]; omega)] at es
                    cases es
                rw [List.getElem?_set_self hlt] at es
                cases es
                exact np'.1 rfl
              · rw [List.getElem?_set_ne ne] at es
                exact n3 j y ej es
    exact key n'.1 hr
def sPar (is : List Nat) (ms : List (Bool × ME)) : SM := fun ρ => (evm (ms.map (·.2)) ρ).sr fun ds ρ' => .nx (setP is (ms.map (·.1)) ds ρ')
theorem PVs.len : ∀ {fs : List Bool} {ds : List D} {vs : List V}, PVs c F ρ σ G H fs ds vs → vs.length = fs.length
  | [], [], [], _ => rfl
  | false :: fs, d :: ds, v :: vs, h => by rw [List.length_cons, List.length_cons, PVs.len h.2]
  | true :: fs, d :: ds, v :: vs, h => by rw [List.length_cons, List.length_cons, PVs.len h.2]
/-- two, three local names (stored from the right) -/
theorem st_par2 {i j : Nat} {x y : Str} {a b : Expr} {ms : List (Bool × ME)} {px py pt : Pos} {kt k2 : Nat} {pt2 : Pos} (hc : X.calm = true) (hN : X.N.Nodup) (hi : X.N[i]? = some x) (hj : X.N[j]? = some y) (hij : i ≠ j)
    (hx : X.env.scope.names.lookup x = some .local) (hy : X.env.scope.names.lookup y = some .local) (ha : PA X [a, b] (tPs c ms)) (hio : ∀ k ∈ [i, j], k ∉ c.ios) (hl : ms.length = 2)
    (hw : swappedStores [.Tuple [.Name x px, .Name y py] kt pt] (.Tuple [a, b] k2 pt2) X.env = pure (some [x, y]))
    (hs : swapsWithSole [.Tuple [.Name x px, .Name y py] kt pt] (.Tuple [a, b] k2 pt2) pos.line X.env = pure false := by rfl) :
    PS X (.Assign [.Tuple [.Name x px, .Name y py] kt pt] (.Tuple [a, b] k2 pt2) pos) (tS c (sPar [i, j] ms)) := ps_conseq (ps_par hc hN hi hj hij hx hy ha hw hs) fun D σ H ⟨F, ρ, G, S, a⟩ => by
  refine tPs_ev S ((SAsk.sr a).imp (GLe.refl G) fun ds ρ1 k vs H1 G1 S1 gl1 pv n => ?_)
  have h2 := pv.len
  rw [List.length_map, hl] at h2
  match vs, h2, pv, n with
  | [v, u], _, pv, n => exact ⟨v, u, rfl, k _ H1 G1 (setP_state (is := [i, j]) S1 (by rw [List.length_map, hl]; rfl) pv n hio) gl1⟩
theorem st_par3 {i j l : Nat} {x y z : Str} {a b d : Expr} {ms : List (Bool × ME)} {px py pz pt : Pos} {kt k2 : Nat} {pt2 : Pos} (hc : X.calm = true) (hN : X.N.Nodup) (hi : X.N[i]? = some x) (hj : X.N[j]? = some y) (hl : X.N[l]? = some z) (hij : i ≠ j) (hil : i ≠ l) (hjl : j ≠ l)
    (hx : X.env.scope.names.lookup x = some .local) (hy : X.env.scope.names.lookup y = some .local) (hz : X.env.scope.names.lookup z = some .local) (ha : PA X [a, b, d] (tPs c ms)) (hio : ∀ k ∈ [i, j, l], k ∉ c.ios) (hln : ms.length = 3)
    (hw : swappedStores [.Tuple [.Name x px, .Name y py, .Name z pz] kt pt] (.Tuple [a, b, d] k2 pt2) X.env = pure (some [x, y, z]))
    (hs : swapsWithSole [.Tuple [.Name x px, .Name y py, .Name z pz] kt pt] (.Tuple [a, b, d] k2 pt2) pos.line X.env = pure false := by rfl) :
    PS X (.Assign [.Tuple [.Name x px, .Name y py, .Name z pz] kt pt] (.Tuple [a, b, d] k2 pt2) pos) (tS c (sPar [i, j, l] ms)) := ps_conseq (ps_par3 hc hN hi hj hl hij hil hjl hx hy hz ha hw hs) fun D σ H ⟨F, ρ, G, S, a⟩ => by
  refine tPs_ev S ((SAsk.sr a).imp (GLe.refl G) fun ds ρ1 k vs H1 G1 S1 gl1 pv n => ?_)
  have h2 := pv.len
  rw [List.length_map, hln] at h2
  match vs, h2, pv, n with
  | [v, u, w], _, pv, n => exact ⟨v, u, w, rfl, k _ H1 G1 (setP_state (is := [i, j, l]) S1 (by rw [List.length_map, hln]; rfl) pv n hio) gl1⟩
end

set_option autoImplicit true
def toK1 : D → Option Key
  | .int i => some (.inl i)
  | .str x => some (.inr x)
  | _ => none
def toKs : List D → Option (List Key)
  | [] => some []
  | d :: ds => (toK1 d).bind fun k => (toKs ds).map fun r => k :: r
def toKT : D → Option (List Key)
  | .tuple ds => toKs ds
  | _ => none
def dkEq (a b : D) : Bool := match toK1 a, toK1 b with
  | some x, some y => decide (x = y)
  | none, none => (match toKT a, toKT b with
    | some x, some y => decide (x = y)
    | _, _ => false)
  | _, _ => false
theorem toK1_keyD (x : Key) : toK1 (keyD x) = some x := by cases x <;> rfl
theorem of_toK1 {d : D} {x : Key} (h : toK1 d = some x) : d = keyD x := by
  cases d <;> simp only [toK1] at h <;> cases h <;> rfl
theorem toKs_keyD : ∀ xs : List Key, toKs (xs.map keyD) = some xs
  | [] => rfl
  | x :: xs => by
    show (toK1 (keyD x)).bind _ = _
    rw [toK1_keyD, toKs_keyD xs]
    rfl
theorem of_toKs : ∀ {ds : List D} {xs : List Key}, toKs ds = some xs → ds = xs.map keyD
  | [], _, h => by cases h; rfl
  | d :: ds, xs, h => by
    unfold toKs at h
    cases e : toK1 d with
    | none => rw [e] at h; cases h
    | some k =>
      rw [e] at h
      cases e2 : toKs ds with
      | none => rw [e2] at h; cases h
      | some r =>
        rw [e2] at h
        cases h
        rw [of_toK1 e, of_toKs e2]
        rfl
theorem of_toKT {d : D} {xs : List Key} (h : toKT d = some xs) : d = .tuple (xs.map keyD) := by
  cases d <;> simp only [toKT] at h <;> first | cases h | skip
  rw [of_toKs h]
theorem toKT_keyD (xs : List Key) : toKT (.tuple (xs.map keyD)) = some xs := toKs_keyD xs
theorem toK1_tup (ds : List D) : toK1 (.tuple ds) = none := rfl
theorem dkEq_1 (x y : Key) : dkEq (keyD x) (keyD y) = decide (x = y) := by
  unfold dkEq
  rw [toK1_keyD, toK1_keyD]
theorem dkEq_T (xs ys : List Key) : dkEq (.tuple (xs.map keyD)) (.tuple (ys.map keyD)) = decide (xs = ys) := by
  unfold dkEq
  rw [toK1_tup, toK1_tup, toKT_keyD, toKT_keyD]
def dGetV (kvs : List (D × D)) (k : D) : Option D := (kvs.find? fun p => dkEq p.1 k).map (·.2)
def dPutV (kvs : List (D × D)) (k d : D) : List (D × D) := if (kvs.any fun p => dkEq p.1 k) = true then kvs.map (fun p => if dkEq p.1 k = true then (p.1, d) else p) else kvs ++ [(k, d)]
/-- all keys are of the kind of k -/
def keyFits (kvs : List (D × D)) (k : D) : Bool := match toK1 k with
  | some _ => kvs.all fun p => (toK1 p.1).isSome
  | none => (toKT k).isSome && kvs.all fun p => (toKT p.1).isSome
section
variable {K : PySem.W.Frag} {G H : Hp}
theorem RpK.length : ∀ {kvs : List (D × D)} {es : List (Key × V)}, RpK K G kvs es → es.length = kvs.length
  | [], _, h => by cases h; rfl
  | (k, d) :: kvs, _, ⟨x, v, r, e, _, _, t⟩ => by rw [e, List.length_cons, List.length_cons, RpK.length t]
theorem RpT.length : ∀ {kvs : List (D × D)} {es : List (List Key × V)}, RpT K G kvs es → es.length = kvs.length
  | [], _, h => by cases h; rfl
  | (k, d) :: kvs, _, ⟨x, v, r, e, _, _, t⟩ => by rw [e, List.length_cons, List.length_cons, RpT.length t]
theorem RpK.get : ∀ {kvs : List (D × D)} {es : List (Key × V)} {x : Key}, RpK K G kvs es → match dGetV kvs (keyD x) with
    | some d => ∃ v, valV es x = some v ∧ Rp K G d v
    | none => valV es x = none
  | [], _, x, h => by cases h; rfl
  | (k, d) :: kvs, _, x, ⟨y, v, r, e, ek, h, t⟩ => by
    subst e
    subst ek
    have ih := RpK.get (x := x) t
    unfold dGetV at ih ⊢
    simp only [List.find?_cons, dkEq_1]
    by_cases q : y = x
    · rw [valV_pos (p := (y, v)) q]
      simp only [q, decide_true, Option.map_some]
      exact ⟨v, rfl, h⟩
    · rw [valV_neg (p := (y, v)) q]
      simp only [q, decide_false]
      exact ih
theorem RpT.get : ∀ {kvs : List (D × D)} {es : List (List Key × V)} {x : List Key}, RpT K G kvs es → match dGetV kvs (.tuple (x.map keyD)) with
    | some d => ∃ v, valV es x = some v ∧ Rp K G d v
    | none => valV es x = none
  | [], _, x, h => by cases h; rfl
  | (k, d) :: kvs, _, x, ⟨y, v, r, e, ek, h, t⟩ => by
    subst e
    subst ek
    have ih := RpT.get (x := x) t
    unfold dGetV at ih ⊢
    simp only [List.find?_cons, dkEq_T]
    by_cases q : y = x
    · rw [valV_pos (p := (y, v)) q]
      simp only [q, decide_true, Option.map_some]
      exact ⟨v, rfl, h⟩
    · rw [valV_neg (p := (y, v)) q]
      simp only [q, decide_false]
      exact ih
theorem RpK.any : ∀ {kvs : List (D × D)} {es : List (Key × V)} (x : Key), RpK K G kvs es → (kvs.any fun p => dkEq p.1 (keyD x)) = es.any fun kv => decide (kv.1 = x)
  | [], _, x, h => by cases h; rfl
  | (k, d) :: kvs, _, x, ⟨y, v, r, e, ek, h, t⟩ => by
    subst e
    subst ek
    rw [List.any_cons, List.any_cons, RpK.any x t, dkEq_1]
theorem RpT.any : ∀ {kvs : List (D × D)} {es : List (List Key × V)} (x : List Key), RpT K G kvs es → (kvs.any fun p => dkEq p.1 (.tuple (x.map keyD))) = es.any fun kv => decide (kv.1 = x)
  | [], _, x, h => by cases h; rfl
  | (k, d) :: kvs, _, x, ⟨y, v, r, e, ek, h, t⟩ => by
    subst e
    subst ek
    rw [List.any_cons, List.any_cons, RpT.any x t, dkEq_T]
theorem RpK.append : ∀ {kvs ks : List (D × D)} {es fs : List (Key × V)}, RpK K G kvs es → RpK K G ks fs → RpK K G (kvs ++ ks) (es ++ fs)
  | [], _, _, _, h, h' => by cases h; exact h'
  | (k, d) :: kvs, ks, _, fs, ⟨y, v, r, e, ek, h, t⟩, h' => ⟨y, v, r ++ fs, by rw [e]; rfl, ek, h, RpK.append t h'⟩
theorem RpT.append : ∀ {kvs ks : List (D × D)} {es fs : List (List Key × V)}, RpT K G kvs es → RpT K G ks fs → RpT K G (kvs ++ ks) (es ++ fs)
  | [], _, _, _, h, h' => by cases h; exact h'
  | (k, d) :: kvs, ks, _, fs, ⟨y, v, r, e, ek, h, t⟩, h' => ⟨y, v, r ++ fs, by rw [e]; rfl, ek, h, RpT.append t h'⟩
theorem RpK.put {kvs : List (D × D)} {es : List (Key × V)} {x : Key} {d : D} {v : V} (h : RpK K G kvs es) (r : Rp K G d v) : RpK K G (dPutV kvs (keyD x) d) (putK es x v) := by
  unfold dPutV putK
  rw [h.any x]
  split
  · have key : ∀ {kvs : List (D × D)} {es : List (Key × V)}, RpK K G kvs es → RpK K G (kvs.map fun p => if dkEq p.1 (keyD x) = true then (p.1, d) else p) (es.map fun kv => if kv.1 = x then (kv.1, v) else kv) := by
      intro kvs
      induction kvs with
      | nil => intro es h; cases h; rfl
      | cons p kvs ih =>
        obtain ⟨k, d'⟩ := p
        intro es ⟨y, u, rr, e, ek, h, t⟩
        subst e
        subst ek
        simp only [List.map_cons, dkEq_1]
        by_cases q : y = x
        · simp only [q, decide_true, if_true]
          exact ⟨x, v, _, rfl, rfl, r, ih t⟩
        · simp only [q, decide_false, Bool.false_eq_true, if_false]
          exact ⟨y, u, _, rfl, rfl, h, ih t⟩
    exact key h
  · exact h.append ⟨x, v, [], rfl, rfl, r, rfl⟩
theorem RpT.put {kvs : List (D × D)} {es : List (List Key × V)} {x : List Key} {d : D} {v : V} (h : RpT K G kvs es) (r : Rp K G d v) : RpT K G (dPutV kvs (.tuple (x.map keyD)) d) (putK es x v) := by
  unfold dPutV putK
  rw [h.any x]
  split
  · have key : ∀ {kvs : List (D × D)} {es : List (List Key × V)}, RpT K G kvs es → RpT K G (kvs.map fun p => if dkEq p.1 (.tuple (x.map keyD)) = true then (p.1, d) else p) (es.map fun kv => if kv.1 = x then (kv.1, v) else kv) := by
      intro kvs
      induction kvs with
      | nil => intro es h; cases h; rfl
      | cons p kvs ih =>
        obtain ⟨k, d'⟩ := p
        intro es ⟨y, u, rr, e, ek, h, t⟩
        subst e
        subst ek
        simp only [List.map_cons, dkEq_T]
        by_cases q : y = x
        · simp only [q, decide_true, if_true]
          exact ⟨x, v, _, rfl, rfl, r, ih t⟩
        · simp only [q, decide_false, Bool.false_eq_true, if_false]
          exact ⟨y, u, _, rfl, rfl, h, ih t⟩
    exact key h
  · exact h.append ⟨x, v, [], rfl, rfl, r, rfl⟩
theorem RpL.keys : ∀ {ks : List Key} {vs : List V}, RpL K G (ks.map keyD) vs → vs = ks.map kV
  | [], _, h => h
  | k :: ks, _, ⟨v, r, e, h, t⟩ => by
    rw [e, RpL.keys t]
    cases k with
    | inl i => rw [show v = V.int i from h]; rfl
    | inr x => rw [show v = V.str x from h]; rfl
theorem Rp.key {x : Key} {v : V} (h : Rp K G (keyD x) v) : v = kV x := by cases x <;> exact h
theorem Vw.key {x : Key} {v : V} (h : Vw K G H (keyD x) v) : v = kV x := by
  rcases h with h | ⟨p, _, _, o, _, hd, _⟩
  · exact h.key
  · cases x <;> cases hd
theorem Vw.lst {ds : List D} {v : V} (s : Sub G H) (h : Vw K G H (.list ds) v) : ∃ a xs, v = .ref a ∧ H a = some (.lst xs) ∧ RpL K G ds xs := by
  rcases h with ⟨a, xs, e, q, r⟩ | ⟨p, e, _, o, ho, hd, _⟩
  · exact ⟨a, xs, e, s.lst q, r⟩
  · cases hd with
    | lst r => exact ⟨p, _, e, ho, r⟩
theorem Vw.tup {ds : List D} {v : V} (s : Sub G H) (h : Vw K G H (.tuple ds) v) : ∃ a xs, v = .ref a ∧ H a = some (.tup xs) ∧ G a = some (.tup xs) ∧ RpL K G ds xs := by
  rcases h with ⟨a, xs, e, q, r⟩ | ⟨p, e, _, o, ho, hd, hm⟩
  · exact ⟨a, xs, e, s.tup q, q, r⟩
  · cases hd
    exact hm.elim
theorem Vw.keyT {ks : List Key} {v : V} (s : Sub G H) (h : Vw K G H (.tuple (ks.map keyD)) v) : ∃ a, v = .ref a ∧ H a = some (.tup (ks.map kV)) := by
  obtain ⟨a, xs, e, q, _, r⟩ := h.tup s
  exact ⟨a, e, by rw [q, r.keys]⟩
end
theorem Inv.dKT {X : Cx} {pins : List (Addr × Obj)} {σ : L2.St} {H : Hp} {s : Shared} {a : Addr} (I : Inv X pins σ H s) (h : H a = some (.dK [])) : Inv X pins σ (upd H a (.dT [])) s := by
  have new : ObjOk X.prog X.w (upd H a (.dT [])) s.heap a (.dT []) := by
    obtain ⟨z, hs, vs, kv, o, es, ep, ho, hx, hd, hr⟩ := I.hok a _ h
    cases kv
    refine ⟨z, hs, [], .nil, o, es, ep, ho, hx, hd, ?_, List.nodup_nil⟩
    obtain ⟨_, hp, _⟩ := hr
    generalize es.toList = l at hp
    cases hp
    rfl
  exact I.write (t' := s.toks) (by rw [h]; trivial) (.inl rfl) (fun b u _ q => q) (by
    obtain ⟨z, hs, vs, kv, o, es, ep, ho, hx⟩ := I.hok a _ h
    exact ⟨o, ho⟩) new
theorem Inv.dTK {X : Cx} {pins : List (Addr × Obj)} {σ : L2.St} {H : Hp} {s : Shared} {a : Addr} (I : Inv X pins σ H s) (h : H a = some (.dT [])) : Inv X pins σ (upd H a (.dK [])) s := by
  have new : ObjOk X.prog X.w (upd H a (.dK [])) s.heap a (.dK []) := by
    obtain ⟨z, hs, xs, kv, o, es, ep, ho, hx, hd, hr, _⟩ := I.hok a _ h
    cases kv
    have e0 : es.toList = [] := hr
    have e1 : es = #[] := by
      cases es
      simp at e0
      rw [e0]
    subst e1
    exact ⟨z, hs, [], .nil, o, #[], ep, ho, hx, hd, fun e he => absurd he (by simp), .nil, List.nodup_nil⟩
  exact I.write (t' := s.toks) (by rw [h]; trivial) (.inl rfl) (fun b u _ q => q) (by
    obtain ⟨z, hs, xs, kv, o, es, ep, ho, hx⟩ := I.hok a _ h
    exact ⟨o, ho⟩) new
theorem set_either {X : Cx} {t t' : TSet} (h : PSet X t) (h' : PSet X t') : PSet X (fun o i v H Q => t o i v H Q ∨ t' o i v H Q) := fun pins s σ H o i v ov iv u Q I ro ri rv q =>
  q.elim (h pins s σ H o i v ov iv u Q I ro ri rv) (h' pins s σ H o i v ov iv u Q I ro ri rv)
theorem set_conv {X : Cx} {t : TSet} (h : PSet X t) : PSet X (fun o i v H Q => ∃ a, H a = some (.dK []) ∧ t o i v (upd H a (.dT [])) Q) := fun pins s σ H o i v ov iv u Q I ro ri rv ⟨a, ha, q⟩ =>
  h pins s σ _ o i v ov iv u Q (Inv.dKT I ha) ro ri rv q
theorem set_conv2 {X : Cx} {t : TSet} (h : PSet X t) : PSet X (fun o i v H Q => ∃ a, H a = some (.dT []) ∧ t o i v (upd H a (.dK [])) Q) := fun pins s σ H o i v ov iv u Q I ro ri rv ⟨a, ha, q⟩ =>
  h pins s σ _ o i v ov iv u Q (Inv.dTK I ha) ro ri rv q
abbrev rSetA : TSet := fun o i v H Q => rSetL o i v H Q ∨ rSetD o i v H Q ∨ (∃ a, H a = some (.dK []) ∧ rSetD o i v (upd H a (.dT [])) Q) ∨ ∃ a, H a = some (.dT []) ∧ rSetD o i v (upd H a (.dK [])) Q
theorem set_any {X : Cx} (hu : X.A.units + 1 < cLine) : PSet X rSetA := set_either set_list (set_either (set_dict hu) (set_either (set_conv (set_dict hu)) (set_conv2 (set_dict hu))))
def dPutAt : D → D → D → Option D
  | .list ds, .int k, d => (ixN ds.length k).map fun j => .list (ds.set j d)
  | .dict kvs, k, d => if kvs.length < sizeLine ∧ keyFits kvs k = true then some (.dict (dPutV kvs k d)) else none
  | _, _, _ => none
def mPutAt (i : Nat) (ix : Opd) : TM := fun d ρ => match at_ ρ i with
  | none => .stuck
  | some _ => (ix.ev ρ).then fun k ρ' => match ix.fin k ρ', ρ'[i]? with
    | some kd, some (.own c) => (match dPutAt c kd d with
      | some c' => .ok () (ρ'.set i (.own c'))
      | none => .stuck)
    | _, _ => .stuck
section
variable {X : Cx} {c : Ct} {F : Fr} {ρ : Env} {σ : L2.St} {G H : Hp} {e tg : Expr} {es : List Expr} {pos : Pos}
/-- what dPutAt says, at the heap -/
theorem put_at {K : PySem.W.Frag} {p : Addr} {o : HO} {cd kd d c' : D} {y v : V} {Q : Hp → Prop} (s : Sub G H) (ho : H p = some o) (hd : ObjD K G cd o) (hm : Mut (some o)) (hk : Vw K G H kd y) (r : Rp K G d v) (e : dPutAt cd kd d = some c')
    (q : ∀ o' H', (H' = H ∨ ∃ u, H' = upd H p u) → ObjD K G c' o' → Mut (some o') → Q (upd H' p o')) : rSetA (.ref p) y v H Q := by
  cases hd with
  | tup h => exact hm.elim
  | @lst ds xs h =>
    cases kd <;> simp only [dPutAt] at e <;> first | cases e | skip
    rename_i k
    have ey := hk.int
    subst ey
    cases ej : ixN ds.length k with
    | none => rw [ej] at e; cases e
    | some j =>
      rw [ej] at e
      cases e
      exact .inl ⟨p, xs, k, j, rfl, rfl, ho, by rw [h.length]; exact ej, q _ H (.inl rfl) (.lst (h.set j r)) trivial⟩
  | @dK kvs es h =>
    have e' : (if kvs.length < sizeLine ∧ keyFits kvs kd = true then some (PyData.dict (dPutV kvs kd d)) else none) = some c' := by
      cases kd <;> exact e
    by_cases hc : kvs.length < sizeLine ∧ keyFits kvs kd = true
    · rw [if_pos hc] at e'
      cases e'
      obtain ⟨hl, hf⟩ := hc
      unfold keyFits at hf
      cases ek : toK1 kd with
      | some x =>
        have ed := of_toK1 ek
        subst ed
        have ey := hk.key
        subst ey
        exact .inr (.inl ⟨p, _, rfl, DPut.k ho (by rw [h.length]; exact hl), q _ H (.inl rfl) (.dK (h.put r)) trivial⟩)
      | none =>
        simp only [ek, Bool.and_eq_true] at hf
        obtain ⟨h1, h2⟩ := hf
        cases kvs with
        | cons a b =>
          exfalso
          obtain ⟨ak, ad⟩ := a
          obtain ⟨x, u, r2, _, ek2, _, _⟩ := h
          subst ek2
          rw [List.all_cons, Bool.and_eq_true] at h2
          have z : (toKT (keyD x)).isSome = true := h2.1
          cases x <;> cases z
        | nil =>
          have h' : es = [] := h
          subst h'
          cases et : toKT kd with
          | none => rw [et] at h1; cases h1
          | some ks =>
            have ed := of_toKT et
            subst ed
            obtain ⟨b, eb, hb⟩ := hk.keyT s
            subst eb
            have ne : b ≠ p := fun z => by rw [z, ho] at hb; cases hb
            refine .inr (.inr (.inl ⟨p, ho, p, _, rfl, DPut.t upd_same (by rw [upd_ne ne]; exact hb) (by show 0 < sizeLine; decide), ?_⟩))
            exact q _ _ (.inr ⟨_, rfl⟩) (.dT (RpT.put (kvs := []) (es := []) rfl r)) trivial
    · rw [if_neg hc] at e'
      cases e'
  | @dT kvs es h =>
    have e' : (if kvs.length < sizeLine ∧ keyFits kvs kd = true then some (PyData.dict (dPutV kvs kd d)) else none) = some c' := by
      cases kd <;> exact e
    by_cases hc : kvs.length < sizeLine ∧ keyFits kvs kd = true
    · rw [if_pos hc] at e'
      cases e'
      obtain ⟨hl, hf⟩ := hc
      unfold keyFits at hf
      cases ek : toK1 kd with
      | some x =>
        simp only [ek] at hf
        have ed := of_toK1 ek
        subst ed
        have ey := hk.key
        subst ey
        cases kvs with
        | cons a b =>
          exfalso
          obtain ⟨ak, ad⟩ := a
          obtain ⟨x2, u, r2, _, ek2, _, _⟩ := h
          subst ek2
          rw [List.all_cons, Bool.and_eq_true] at hf
          have z : (toK1 (.tuple (x2.map keyD))).isSome = true := hf.1
          cases z
        | nil =>
          have h' : es = [] := h
          subst h'
          refine .inr (.inr (.inr ⟨p, ho, p, _, rfl, DPut.k upd_same (by show 0 < sizeLine; decide), ?_⟩))
          exact q _ _ (.inr ⟨_, rfl⟩) (.dK (RpK.put (kvs := []) (es := []) rfl r)) trivial
      | none =>
        simp only [ek, Bool.and_eq_true] at hf
        cases et : toKT kd with
        | none => rw [et] at hf; cases hf.1
        | some ks =>
          have ed := of_toKT et
          subst ed
          obtain ⟨b, eb, hb⟩ := hk.keyT s
          subst eb
          exact .inr (.inl ⟨p, _, rfl, DPut.t ho hb (by rw [h.length]; exact hl), q _ H (.inl rfl) (.dT (h.put r)) trivial⟩)
    · rw [if_neg hc] at e'
      cases e'
/-- o[ix] = .. as a target, o an owned slot; h: pg_sub's -/
theorem tg_put {i : Nat} {ix : Opd} (h : PG X tg (gSub (tVar i) (tO c ix) rSetA)) : PG X tg (tG c [] (mPutAt i ix)) := pg_conseq h fun v σ H Q ⟨F, ρ, G, d, S, r, k⟩ => by
  unfold mPutAt at k
  cases ea : at_ ρ i with
  | none => simp only [ea] at k
  | some d0 =>
    simp only [ea] at k
    obtain ⟨v0, e0, _⟩ := S.vw ea
    refine ⟨v0, e0, ?_⟩
    refine tO_ev S ?_
    cases ei : ix.ev ρ with
    | stuck => rw [ei] at k; exact k
    | ex x ρ' =>
      rw [ei] at k
      exact fun cls dx H' G' S' gl x => k cls dx σ H' G' S' gl x
    | ok kx ρ1 =>
      rw [ei] at k
      intro y H1 G1 S1 gl1 ov
      have k' : match (match ix.fin kx ρ1, ρ1[i]? with
        | some kd, some (.own cd) => (match dPutAt cd kd d with
          | some c' => Rs.ok () (ρ1.set i (.own c'))
          | none => .stuck)
        | _, _ => .stuck) with
        | .ok _ ρ' => ∀ σ' H' G', State c F ρ' σ' G' H' → GLe G G' → σ'.length = σ.length ∧ (∀ i, i ∉ ([] : List Nat) → σ'[i]? = σ[i]?) → Q σ' H'
        | .ex e ρ' => ∀ cls dx σ' H' G', State c F ρ' σ' G' H' → GLe G G' → ExOk c G' e cls dx H' → c.W cls dx σ' H'
        | .stuck => False := k
      cases ef : ix.fin kx ρ1 with
      | none => rw [ef] at k'; exact k'.elim
      | some kd =>
        rw [ef] at k'
        cases er : ρ1[i]? with
        | none => rw [er] at k'; exact k'.elim
        | some s =>
          rw [er] at k'
          cases s with
          | no => exact k'.elim
          | fz _ => exact k'.elim
          | own cd =>
            cases ep : dPutAt cd kd d with
            | none => simp only [ep] at k'
            | some c' =>
              simp only [ep] at k'
              obtain ⟨p, es, ow, _⟩ := S1.own_at er
              rw [e0] at es
              cases es
              obtain ⟨hg, o, ho, hd, hm⟩ := id ow
              refine put_at S1.sub ho hd hm (ov.vw S1 ef) (Rp.mono gl1 d v r) ep fun o' H' eH hd' hm' => ?_
              have e2 : upd H' p o' = upd H1 p o' := by
                rcases eH with e | ⟨u, e⟩
                · rw [e]
                · rw [e, upd_upd]
              rw [e2]
              exact k' σ _ G1 (S1.change er e0 hd' hm') gl1 ⟨rfl, fun _ _ => rfl⟩
def mApp (i : Nat) (m : ME) : ME := fun ρ => match ρ[i]? with
  | some (.own (.list _)) => (m ρ).then fun d ρ' => (match ρ'[i]? with
    | some (.own (.list ds)) => if ds.length < sizeLine then .ok .none (ρ'.set i (.own (.list (ds ++ [d])))) else .stuck
    | _ => .stuck)
  | _ => .stuck
theorem me_app {i : Nat} {m : ME} (h : PE X e (tBM X.K "list" rAppend (tVar i) (tMs c [m]))) : PE X e (tE c (mApp i m)) := pe_conseq h fun σ H Q ⟨F, ρ, G, S, a⟩ => by
  unfold mApp at a
  split at a
  · rename_i ds0 e0
    obtain ⟨p, es, ow, _⟩ := S.own_at e0
    obtain ⟨hg, o, ho, hd, _⟩ := id ow
    cases hd with
    | @lst _ xs r0 =>
      refine ⟨.ref p, es, .inl ⟨rfl, xs, .of ho⟩, F, ρ, G, S, (Ask.then a).imp (GLe.refl G) fun d ρ1 k v H1 G1 S1 gl1 r1 => ?_⟩
      split at k
      · rename_i ds e1
        obtain ⟨p', es', ow', _⟩ := S1.own_at e1
        rw [es] at es'
        cases es'
        obtain ⟨hg', o', ho', hd', _⟩ := id ow'
        cases hd' with
        | @lst _ ys r2 =>
          by_cases hz : ds.length < sizeLine
          · rw [if_pos hz] at k
            refine ⟨p, ys, v, rfl, rfl, ho', by rw [r2.length]; exact hz, ?_⟩
            exact k .non _ G1 (S1.change e1 es (.lst (r2.append (.one r1))) trivial) gl1 rfl
          · rw [if_neg hz] at k
            exact k.elim
      · exact k.elim
  · exact a.elim
def sRaise (x : Str) : SM := fun ρ => .ex ⟨x, none⟩ ρ
theorem pmk_own0 {C : Addr} {bmB : List Value} {B newId initId : String} {x : Str} {p : Pos} (Fc : ExcBaseFacts B newId initId bmB) (q : PySem.W.excIn X.K C bmB newId = true) (gC : X.mg x = some (.ref C))
    (kC : PySem.W.keepIn X.K (.ref C) = true) (r : Raises X (.ref C)) (hg : Gl X x) (hdb : (x == ("__debug__" : Str)) = false := by decide) : PMk X (.Call (.Name x p) [] [] pos) (fun _ H Q => Q (.ref C) none H) := by
  intro pins s σ H Q I q1
  refine wpAny_Call_Name_kw (ld_glob I hg gC ?_ hdb)
  refine PySem.W.callWith_K0 I.kIn kC ?_
  show wpAny _ _ (call (.ref C) []) _ _ _
  obtain ⟨bm, N, nm, qn, bs, hdct, sn, sub, ab, col, dd, k0, k1, k2, k3, k5, mN, hC, hN, hni, T⟩ := exc_obj I.kIn q
  exact wpAny_call_exc_subT Fc T hC hN hni (fun h' e hm => mk_of I hm r q1 (I.hok.gone hm.new)) (Nat.zero_le _)
theorem st_raise0 {C : Addr} {bmB : List Value} {B newId initId : String} {x : Str} {p pos' : Pos} (hc : X.calm = true) (tk : Takes X c.W) (Fc : ExcBaseFacts B newId initId bmB) (q : PySem.W.excIn X.K C bmB newId = true) (gC : X.mg x = some (.ref C)) (gm : c.mg x = some (.ref C))
    (kC : PySem.W.keepIn X.K (.ref C) = true) (r : Raises X (.ref C)) (hg : Gl X x) (hdb : (x == ("__debug__" : Str)) = false := by decide) : PS X (.Raise (some (.Call (.Name x p) [] [] pos)) none pos') (tS c (sRaise x)) :=
  ps_conseq (ps_raise hc tk (pmk_own0 Fc q gC kC r hg hdb)) fun D σ H ⟨F, ρ, G, S, a⟩ => a (.ref C) none σ H G S (GLe.refl G) ⟨C, gm, rfl, rfl⟩
end

set_option autoImplicit true
mutual
def noDi : D → Bool
  | .dict _ => false
  | .list ds => noDiL ds
  | .tuple ds => noDiL ds
  | _ => true
def noDiL : List D → Bool
  | [] => true
  | d :: ds => noDi d && noDiL ds
end
mutual
theorem noDi_lay : ∀ d : D, d.canLay0 = true → noDi d = true
  | .none, _ => rfl
  | .bool _, _ => rfl
  | .int _, _ => rfl
  | .str _, _ => rfl
  | .list ds, h => by
    have h' : PyData.canLayAll0 ds = true := by simpa [PyData.canLay0] using h
    exact noDiL_lay ds h'
  | .tuple ds, h => by
    have h' : PyData.canLayAll0 ds = true := by simpa [PyData.canLay0] using h
    exact noDiL_lay ds h'
  | .dict _, h => by simp [PyData.canLay0] at h
theorem noDiL_lay : ∀ ds : List D, PyData.canLayAll0 ds = true → noDiL ds = true
  | [], _ => rfl
  | d :: ds, h => by
    have h' : d.canLay0 = true ∧ PyData.canLayAll0 ds = true := by simpa [PyData.canLayAll0] using h
    simp only [noDiL, noDi_lay d h'.1, noDiL_lay ds h'.2, Bool.and_self]
end
section
variable {K : PySem.W.Frag} {G H : Hp}
mutual
theorem Rp.dp (s : Sub G H) : ∀ (d : D) (v : V), noDi d = true → Rp K G d v → Dp K H v d
  | .none, _, _, h => by cases (show _ = _ from h); exact .non
  | .bool b, _, _, h => by cases (show _ = _ from h); exact .bl b
  | .int b, _, _, h => by cases (show _ = _ from h); exact .int b
  | .str b, _, _, h => by cases (show _ = _ from h); exact .str b
  | .list ds, _, n, ⟨a, xs, e, q, r⟩ => by
    subst e
    exact .lst (.inl (.inl (s.lst q))) (RpL.dp s ds xs n r)
  | .tuple ds, _, n, ⟨a, xs, e, q, r⟩ => by
    subst e
    exact .tup (.inl (.inl (s.tup q))) (RpL.dp s ds xs n r)
  | .dict _, _, n, _ => by cases n
theorem RpL.dp (s : Sub G H) : ∀ (ds : List D) (vs : List V), noDiL ds = true → RpL K G ds vs → DpAll K H vs ds
  | [], _, _, h => by cases (show _ = _ from h); exact .nil
  | d :: ds, _, n, ⟨v, r, e, h, t⟩ => by
    subst e
    have n' := Bool.and_eq_true_iff.mp (show (noDi d && noDiL ds) = true from n)
    exact .cons (Rp.dp s d v n'.1 h) (RpL.dp s ds r n'.2 t)
end
theorem Vw.dp {d : D} {v : V} (s : Sub G H) (n : noDi d = true) (h : Vw K G H d v) : Dp K H v d := by
  rcases h with h | ⟨p, rfl, _, o, ho, hd, _⟩
  · exact Rp.dp s d v n h
  · cases hd with
    | lst r => exact .lst (.inl (.inl ho)) (RpL.dp s _ _ n r)
    | tup r => exact .tup (.inl (.inl ho)) (RpL.dp s _ _ n r)
    | dK _ => cases n
    | dT _ => cases n
def okD (d : D) : Bool := SeqAt.shaped d
theorem okD.no {d : D} (h : okD d = true) : noDi d = true := noDi_lay d (SeqAt.canLay_of_shaped h)
def dEq (a b : D) : Option D := if okD a && okD b then some (.bool (PyData.eqv a b)) else none
def dNe (a b : D) : Option D := if okD a && okD b then some (.bool (!PyData.eqv a b)) else none
theorem p_eq : Prim2 K dEq (rEqD K) := fun G H x y d1 d2 d Q s v1 v2 e q => by
  unfold dEq at e
  split at e
  · rename_i h
    cases e
    rw [Bool.and_eq_true] at h
    exact ⟨d1, d2, v1.dp s (okD.no h.1), v2.dp s (okD.no h.2), h.1, h.2, q _ H (.inl ⟨rfl, rfl⟩)⟩
  · cases e
theorem p_ne : Prim2 K dNe (rNeD K) := fun G H x y d1 d2 d Q s v1 v2 e q => by
  unfold dNe at e
  split at e
  · rename_i h
    cases e
    rw [Bool.and_eq_true] at h
    exact ⟨d1, d2, v1.dp s (okD.no h.1), v2.dp s (okD.no h.2), h.1, h.2, q _ H (.inl ⟨rfl, rfl⟩)⟩
  · cases e
theorem Vw.lst' {ds : List D} {v : V} (s : Sub G H) (h : Vw K G H (.list ds) v) : ∃ a xs, v = .ref a ∧ H a = some (.lst xs) ∧ True ∧ RpL K G ds xs := by
  obtain ⟨a, xs, e, h, r⟩ := h.lst s
  exact ⟨a, xs, e, h, trivial, r⟩
def dLt : D → D → Option D
  | .int i, .int j => some (.bool (decide (i < j)))
  | _, _ => none
def dLe : D → D → Option D
  | .int i, .int j => some (.bool (decide (i ≤ j)))
  | _, _ => none
def dGt : D → D → Option D
  | .int i, .int j => some (.bool (decide (j < i)))
  | _, _ => none
/-- >= of ints, of tuples of ints -/
def dInts : List D → Option (List Int)
  | [] => some []
  | .int i :: r => (dInts r).map fun is => i :: is
  | _ :: _ => none
def geI : List Int → List Int → Bool
  | _, [] => true
  | [], _ :: _ => false
  | x :: xs, y :: ys => if x = y then geI xs ys else decide (y ≤ x)
def dGe : D → D → Option D
  | .int i, .int j => some (.bool (decide (j ≤ i)))
  | .tuple ds, .tuple es => (match dInts ds, dInts es with
    | some is, some js => some (.bool (geI is js))
    | _, _ => none)
  | _, _ => none
theorem dInts_map : ∀ {ds : List D} {is : List Int}, dInts ds = some is → ds = is.map PyData.int
  | [], _, h => by cases h; rfl
  | .int i :: r, _, h => by
    simp only [dInts] at h
    cases e : dInts r with
    | none => rw [e] at h; cases h
    | some is' =>
      rw [e] at h
      cases h
      rw [dInts_map e]; rfl
  | .none :: _, _, h => by cases h
  | .bool _ :: _, _, h => by cases h
  | .str _ :: _, _, h => by cases h
  | .list _ :: _, _, h => by cases h
  | .tuple _ :: _, _, h => by cases h
  | .dict _ :: _, _, h => by cases h
theorem dInts_of : ∀ is : List Int, dInts (is.map PyData.int) = some is
  | [] => rfl
  | i :: is => by
    show (dInts (is.map PyData.int)).map _ = _
    rw [dInts_of is]; rfl
theorem p_lt : Prim2 K dLt (rI0 fun i j => .bl (decide (i < j))) := fun G H x y d1 d2 d Q s v1 v2 e q => by
  cases d1 <;> cases d2 <;> simp only [dLt] at e <;> first | cases e | skip
  exact ⟨_, _, v1.int, v2.int, q _ H (.inl ⟨rfl, rfl⟩)⟩
theorem p_le : Prim2 K dLe (rI0 fun i j => .bl (decide (i ≤ j))) := fun G H x y d1 d2 d Q s v1 v2 e q => by
  cases d1 <;> cases d2 <;> simp only [dLe] at e <;> first | cases e | skip
  exact ⟨_, _, v1.int, v2.int, q _ H (.inl ⟨rfl, rfl⟩)⟩
theorem p_gt : Prim2 K dGt (rI0 fun i j => .bl (decide (j < i))) := fun G H x y d1 d2 d Q s v1 v2 e q => by
  cases d1 <;> cases d2 <;> simp only [dGt] at e <;> first | cases e | skip
  exact ⟨_, _, v1.int, v2.int, q _ H (.inl ⟨rfl, rfl⟩)⟩
def rGeT (K : PySem.W.Frag) : R2 := fun x y H Q => ∃ (a b : Addr) (ns ms : List Int), x = .ref a ∧ y = .ref b ∧ SqT K H a (ns.map V.int) ∧ SqT K H b (ms.map V.int) ∧
  Q (.bl (Ob.lexAt (fun j => decide (ns.getD j 0 = ms.getD j 0)) (fun j => decide (ms.getD j 0 ≤ ns.getD j 0)) (decide (ns.length ≥ ms.length)) 0 (min ns.length ms.length))) H
theorem op_geT {X : Cx} (hu : X.A.units < cLine) : OpR X (compareOp .GtE) (rGeT X.K) := by
  intro pins s σ H x y v u Q I rx ry h
  obtain ⟨a, b, ns, ms, rfl, rfl, ha, hb, q⟩ := h
  cases rx
  cases ry
  obtain ⟨itA, r1, p1, _⟩ := I.tuple ha
  obtain ⟨itB, r2, p2, _⟩ := I.tuple hb
  have i1 : IntsAre itA ns := Vals.ints r1
  have i2 : IntsAre itB ms := Vals.ints r2
  have e1 : itA.toArray.size = ns.length := by rw [List.size_toArray]; exact i1.length
  have e2 : itB.toArray.size = ms.length := by rw [List.size_toArray]; exact i2.length
  have at1 : ∀ j (h1 : j < itA.toArray.size), ∃ t, itA.toArray[j] = .int (ns.getD j 0) t := fun j h1 => IntsAre.int_at i1 _ _ (by simp at h1; simp [h1])
  have at2 : ∀ j (h1 : j < itB.toArray.size), ∃ t, itB.toArray[j] = .int (ms.getD j 0) t := fun j h1 => IntsAre.int_at i2 _ _ (by simp at h1; simp [h1])
  have R := Ob.RcOp.tuples_ge (A := X.A) (s := s) (e := fun j => decide (ns.getD j 0 = ms.getD j 0)) (r := fun j => decide (ms.getD j 0 ≤ ns.getD j 0)) p1 p2 hu (fun j h1 h2 => by
    obtain ⟨t, et⟩ := at1 j h1
    obtain ⟨t', et'⟩ := at2 j h2
    have z : decide (ns.getD j 0 = ms.getD j 0) = (ns.getD j 0 == ms.getD j 0) := by
      by_cases q : ns.getD j 0 = ms.getD j 0
      · rw [q]; simp
      · rw [decide_eq_false q, beq_eq_false_iff_ne.mpr q]
    rw [et, et', z]
    exact SeqAt.EqAt.int_int _ _ _ _) (fun j h1 h2 _ => by
    obtain ⟨t, et⟩ := at1 j h1
    obtain ⟨t', et'⟩ := at2 j h2
    rw [et, et']
    exact Ob.RcOp.ge_int _ _ _ _)
  rw [e1, e2] at R
  exact R X.prog X.w X.xe (EP X pins σ Q) ⟨.bl _, H, I, rfl, q⟩
theorem ge_lex : ∀ (ns ms : List Int) (k : Nat), k ≤ min ns.length ms.length → Ob.lexAt (fun j => decide (ns.getD j 0 = ms.getD j 0)) (fun j => decide (ms.getD j 0 ≤ ns.getD j 0)) (decide (ns.length ≥ ms.length)) k (min ns.length ms.length - k) = geI (ns.drop k) (ms.drop k) := by
  intro ns ms k hk
  generalize hm : min ns.length ms.length - k = m
  induction m generalizing k with
  | zero =>
    rw [Ob.lexAt_zero]
    by_cases h : ms.length ≤ k
    · rw [List.drop_eq_nil_of_le h]
      have z : ns.length ≥ ms.length ∨ ns.length < ms.length := by omega
      rcases z with z | z
      · rw [decide_eq_true z]
        cases ns.drop k <;> rfl
      · have h2 : ns.length ≤ k := by omega
        omega
    · have h2 : ns.length ≤ k := by omega
      rw [List.drop_eq_nil_of_le h2, decide_eq_false (by omega)]
      rw [List.drop_eq_getElem_cons (show k < ms.length by omega)]
      rfl
  | succ m ih =>
    have h1 : k < ns.length := by omega
    have h2 : k < ms.length := by omega
    rw [Ob.lexAt_succ, List.drop_eq_getElem_cons h1, List.drop_eq_getElem_cons h2, ih (k + 1) (by omega) (by omega)]
    have g1 : ns.getD k 0 = ns[k] := by simp [h1]
    have g2 : ms.getD k 0 = ms[k] := by simp [h2]
    simp only [geI, g1, g2, decide_eq_true_eq]
theorem p_ge : Prim2 K dGe (fun x y H Q => rI0 (fun i j => .bl (decide (j ≤ i))) x y H Q ∨ rGeT K x y H Q) := fun G H x y d1 d2 d Q s v1 v2 e q => by
  cases d1 <;> cases d2 <;> simp only [dGe] at e <;> first | cases e | skip
  · exact .inl ⟨_, _, v1.int, v2.int, q _ H (.inl ⟨rfl, rfl⟩)⟩
  · rename_i ds es
    split at e
    · rename_i is js e1 e2
      cases e
      obtain ⟨a, xs, rfl, ha, _, ra⟩ := v1.tup s
      obtain ⟨b, ys, rfl, hb, _, rb⟩ := v2.tup s
      rw [dInts_map e1] at ra
      rw [dInts_map e2] at rb
      rw [ra.ints] at ha
      rw [rb.ints] at hb
      refine .inr ⟨a, b, is, js, rfl, rfl, .inl (.inl ha), .inl (.inl hb), q _ H (.inl ⟨rfl, ?_⟩)⟩
      have z := ge_lex is js 0 (Nat.zero_le _)
      rw [Nat.sub_zero, List.drop_zero, List.drop_zero] at z
      rw [z]
      rfl
    · cases e
abbrev rIsNo : R2 := fun x y H Q => y = .non ∧ Q (.bl (decide (x = .non))) H
abbrev rNotNo : R2 := fun x y H Q => y = .non ∧ Q (.bl (!decide (x = .non))) H
def dIsN : D → D → Option D
  | d, .none => some (.bool (match d with | .none => true | _ => false))
  | _, _ => none
def dNotN : D → D → Option D
  | d, .none => some (.bool (match d with | .none => false | _ => true))
  | _, _ => none
theorem vw_non {d : D} {v : V} (h : Vw K G H d v) : decide (v = .non) = (match d with | .none => true | _ => false) := by
  rcases h with h | ⟨p, rfl, ow⟩
  · cases d with
    | none => cases (show _ = _ from h); rfl
    | bool b => cases (show _ = _ from h); rfl
    | int b => cases (show _ = _ from h); rfl
    | str b => cases (show _ = _ from h); rfl
    | list ds => obtain ⟨a, xs, rfl, _⟩ := h; rfl
    | tuple ds => obtain ⟨a, xs, rfl, _⟩ := h; rfl
    | dict kvs => obtain ⟨a, rfl, _⟩ := h; rfl
  · obtain ⟨_, o, _, hd, _⟩ := ow
    cases hd <;> rfl
theorem p_isN : Prim2 K dIsN rIsNo := fun G H x y d1 d2 d Q s v1 v2 e q => by
  cases d2 <;> simp only [dIsN] at e <;> first | cases e | skip
  refine ⟨v2.non, ?_⟩
  rw [vw_non v1]
  cases d1 <;> exact q _ H (.inl ⟨rfl, rfl⟩)
theorem p_notN : Prim2 K dNotN rNotNo := fun G H x y d1 d2 d Q s v1 v2 e q => by
  cases d2 <;> simp only [dNotN] at e <;> first | cases e | skip
  refine ⟨v2.non, ?_⟩
  rw [vw_non v1]
  cases d1 <;> exact q _ H (.inl ⟨rfl, rfl⟩)
def dAdd : D → D → Option D
  | .int i, .int j => some (.int (i + j))
  | .str a, .str b => if a.length + b.length ≤ sizeLine then some (.str (a ++ b)) else none
  | .tuple a, .tuple b => if a.length + b.length ≤ sizeLine then some (.tuple (a ++ b)) else none
  | .list a, .list b => if a.length + b.length ≤ sizeLine then some (.list (a ++ b)) else none
  | _, _ => none
def dCat : D → D → Option D
  | .list a, .list b => if a.length + b.length ≤ sizeLine then some (.list (a ++ b)) else none
  | _, _ => none
abbrev rAddA (K : PySem.W.Frag) : R2 := fun x y H Q => rI0 (fun i j => .int (i + j)) x y H Q ∨ (∃ i j, x = .str i ∧ y = .str j ∧ i.length + j.length ≤ sizeLine ∧ Q (.str (i ++ j)) H) ∨ rCatA K x y H Q ∨ rCat x y H Q
theorem op_addA {X : Cx} : OpR X (binaryOp .Add) (rAddA X.K) := op_add.or (op_add_str.or (op_catA.or op_cat))
theorem p_add : Prim2 K dAdd (rAddA K) := fun G H x y d1 d2 d Q s v1 v2 e q => by
  cases d1 <;> cases d2 <;> simp only [dAdd] at e <;> first | cases e | skip
  · exact .inl ⟨_, _, v1.int, v2.int, q _ H (.inl ⟨rfl, rfl⟩)⟩
  · split at e
    · rename_i h
      cases e
      exact .inr (.inl ⟨_, _, v1.str, v2.str, h, q _ H (.inl ⟨rfl, rfl⟩)⟩)
    · cases e
  · split at e
    · rename_i h
      cases e
      obtain ⟨a, xs, rfl, ha, _, ra⟩ := v1.lst' s
      obtain ⟨b, ys, rfl, hb, _, rb⟩ := v2.lst' s
      exact .inr (.inr (.inr ⟨a, b, xs, ys, rfl, rfl, ha, hb, by rw [ra.length, rb.length]; exact h, fun p hp => q _ _ (.inr ⟨p, _, rfl, hp, rfl, .lst (ra.append rb)⟩)⟩))
    · cases e
  · split at e
    · rename_i h
      cases e
      obtain ⟨a, xs, rfl, ha, ga, ra⟩ := v1.tup s
      obtain ⟨b, ys, rfl, hb, gb, rb⟩ := v2.tup s
      refine .inr (.inr (.inl ⟨a, b, xs, ys, rfl, rfl, .inl (.inl ha), .inl (.inl hb), by rw [ra.length, rb.length]; exact h, fun hx => ?_, fun hx hy => ?_, fun _ _ p hp => q _ _ (.inr ⟨p, _, rfl, hp, rfl, .tup (ra.append rb)⟩)⟩))
      · refine q _ H (.inl ⟨rfl, b, ys, rfl, gb, ?_⟩)
        have z := ra.append rb
        rw [hx] at z
        exact z
      · refine q _ H (.inl ⟨rfl, a, xs, rfl, ga, ?_⟩)
        have z := ra.append rb
        rw [hy, List.append_nil] at z
        exact z
    · cases e
theorem p_cat : PrimN2 K dCat rCat := fun G H x y d1 d2 d Q s v1 v2 e q => by
  cases d1 <;> cases d2 <;> simp only [dCat] at e <;> first | cases e | skip
  split at e
  · rename_i h
    cases e
    obtain ⟨a, xs, rfl, ha, _, ra⟩ := v1.lst' s
    obtain ⟨b, ys, rfl, hb, _, rb⟩ := v2.lst' s
    exact ⟨a, b, xs, ys, rfl, rfl, ha, hb, by rw [ra.length, rb.length]; exact h, fun p hp => q _ _ ⟨p, _, rfl, hp, rfl, .lst (ra.append rb), trivial⟩⟩
  · cases e
def dSub : D → D → Option D
  | .int i, .int j => some (.int (i - j))
  | _, _ => none
theorem p_sub : Prim2 K dSub (rI0 fun i j => .int (i - j)) := fun G H x y d1 d2 d Q s v1 v2 e q => by
  cases d1 <;> cases d2 <;> simp only [dSub] at e <;> first | cases e | skip
  exact ⟨_, _, v1.int, v2.int, q _ H (.inl ⟨rfl, rfl⟩)⟩
def dMod : D → D → Option D
  | .int i, .int j => if 0 < j then some (.int (i % j)) else none
  | _, _ => none
theorem p_mod : Prim2 K dMod (rI (fun _ j => 0 < j) fun i j => .int (i % j)) := fun G H x y d1 d2 d Q s v1 v2 e q => by
  cases d1 <;> cases d2 <;> simp only [dMod] at e <;> first | cases e | skip
  split at e
  · rename_i h
    cases e
    exact ⟨_, _, v1.int, v2.int, h, q _ H (.inl ⟨rfl, rfl⟩)⟩
  · cases e
def dFdiv : D → D → Option D
  | .int i, .int j => if 0 < j ∧ j.natAbs.log2 < 9000 then some (.int (i / j)) else none
  | _, _ => none
theorem p_fdiv : Prim2 K dFdiv (rI CDivW fun i j => .int (i / j)) := fun G H x y d1 d2 d Q s v1 v2 e q => by
  cases d1 <;> cases d2 <;> simp only [dFdiv] at e <;> first | cases e | skip
  split at e
  · rename_i h
    cases e
    exact ⟨_, _, v1.int, v2.int, h, q _ H (.inl ⟨rfl, rfl⟩)⟩
  · cases e
def dPow : D → D → Option D
  | .int i, .int j => if 0 ≤ j ∧ j ≤ 1000000 ∧ i.natAbs < 2 ^ 64 then some (.int (i ^ j.toNat)) else none
  | _, _ => none
theorem p_pow : Prim2 K dPow (rI CPow fun i j => .int (i ^ j.toNat)) := fun G H x y d1 d2 d Q s v1 v2 e q => by
  cases d1 <;> cases d2 <;> simp only [dPow] at e <;> first | cases e | skip
  split at e
  · rename_i h
    cases e
    exact ⟨_, _, v1.int, v2.int, h, q _ H (.inl ⟨rfl, rfl⟩)⟩
  · cases e
def reps (ds : List D) (k : Int) : List D := (List.replicate k.toNat ds).flatten
theorem RpL.reps {ds : List D} {vs : List V} (h : RpL K G ds vs) : ∀ n : Nat, RpL K G (List.replicate n ds).flatten (List.replicate n vs).flatten
  | 0 => rfl
  | n + 1 => by
    rw [List.replicate_succ, List.replicate_succ, List.flatten_cons, List.flatten_cons]
    exact h.append (RpL.reps h n)
def repFits (n : Nat) (k : Int) : Bool := decide (-(2 ^ 63) ≤ k) && decide (k < 2 ^ 63) && decide (n * k.toNat ≤ sizeLine)
def dRep : D → D → Option D
  | .list a, .int k => if repFits a.length k then some (.list (reps a k)) else none
  | _, _ => none
theorem p_repL : PrimN2 K dRep rRep := fun G H x y d1 d2 d Q s v1 v2 e q => by
  cases d1 <;> cases d2 <;> simp only [dRep] at e <;> first | cases e | skip
  split at e
  · rename_i h
    cases e
    unfold repFits at h
    rw [Bool.and_eq_true, Bool.and_eq_true, decide_eq_true_eq, decide_eq_true_eq, decide_eq_true_eq] at h
    obtain ⟨a, xs, rfl, ha, _, ra⟩ := v1.lst' s
    exact ⟨a, _, xs, rfl, v2.int, ha, h.1.1, h.1.2, by rw [ra.length]; exact h.2, fun p hp => q _ _ ⟨p, _, rfl, hp, rfl, .lst (ra.reps _), trivial⟩⟩
  · cases e
def mulFits (i j : Int) : Bool := (decide (-(2 ^ 64) < i) && decide (i < 2 ^ 64)) || (decide (-(2 ^ 64) < j) && decide (j < 2 ^ 64))
def dMul : D → D → Option D
  | .int i, .int j => if mulFits i j then some (.int (i * j)) else none
  | .list a, .int k => if repFits a.length k then some (.list (reps a k)) else none
  | _, _ => none
abbrev rMulA (K : PySem.W.Frag) : R2 := fun x y H Q => rI CMul (fun i j => .int (i * j)) x y H Q ∨ rRep x y H Q
theorem op_mulA {X : Cx} : OpR X (binaryOp .Mult) (rMulA X.K) := op_mul.or op_rep
theorem p_mul : Prim2 K dMul (rMulA K) := fun G H x y d1 d2 d Q s v1 v2 e q => by
  cases d1 <;> cases d2 <;> simp only [dMul] at e <;> first | cases e | skip
  · split at e
    · rename_i h
      cases e
      unfold mulFits at h
      rw [Bool.or_eq_true, Bool.and_eq_true, Bool.and_eq_true, decide_eq_true_eq, decide_eq_true_eq, decide_eq_true_eq, decide_eq_true_eq] at h
      exact .inl ⟨_, _, v1.int, v2.int, h, q _ H (.inl ⟨rfl, rfl⟩)⟩
    · cases e
  · exact .inr (p_repL G H x y _ _ d Q s v1 v2 e fun v H' po => q v H' po.out)
end

set_option autoImplicit false
section
variable {X : Cx} {K : PySem.W.Frag} {G H : Hp}
def inAny (ds : List D) (x : D) : Bool := ds.any fun z => PyData.eqv z x
def dHas : D → D → Option Bool
  | x, .list ds => if okD x && okD (.list ds) then some (inAny ds x) else none
  | x, .tuple ds => if okD x && okD (.tuple ds) then some (inAny ds x) else none
  | .str x, .str z => (match x.cps.toList with
    | [c] => some (decide (c ∈ z.cps.toList))
    | _ => none)
  | k, .dict kvs => if keyFits kvs k then some (dGetV kvs k).isSome else none
  | _, _ => none
def dIn (x y : D) : Option D := (dHas x y).map PyData.bool
def dNotIn (x y : D) : Option D := (dHas x y).map fun b => .bool (!b)
def rInT2 (K : PySem.W.Frag) (f : Bool → Bool) : R2 := fun x y H Q => ∃ d ds, Dp K H x d ∧ Dp K H y (.tuple ds) ∧ SeqAt.shaped d = true ∧ SeqAt.shaped (.tuple ds) = true ∧ Q (.bl (f (ds.any fun z => PyData.eqv z d))) H
theorem op_inT2 (hu : X.A.units + 65 < cLine) : OpR X (compareOp .In) (rInT2 X.K id) := by
  intro pins s σ H x y v u Q I rx ry h
  obtain ⟨d, ds, hd, he, sd, se, q⟩ := h
  obtain ⟨as, r1⟩ := Dp.reads I d x v hd rx
  obtain ⟨bs, r2⟩ := Dp.reads I (.tuple ds) y u he ry
  exact SeqAt.in_tuple_reads r2 r1 (SeqAt.canLay_of_shaped se) (SeqAt.canLay_of_shaped sd) (room_in_shaped sd hu) ⟨.bl _, H, I, rfl, q⟩
theorem op_notInT2 (hu : X.A.units + 65 < cLine) : OpR X (compareOp .NotIn) (rInT2 X.K not) := by
  intro pins s σ H x y v u Q I rx ry h
  obtain ⟨d, ds, hd, he, sd, se, q⟩ := h
  obtain ⟨as, r1⟩ := Dp.reads I d x v hd rx
  obtain ⟨bs, r2⟩ := Dp.reads I (.tuple ds) y u he ry
  exact SeqAt.notIn_tuple_reads r2 r1 (SeqAt.canLay_of_shaped se) (SeqAt.canLay_of_shaped sd) (room_in_shaped sd hu) ⟨.bl _, H, I, rfl, q⟩
def AskD (H : Hp) (a : Addr) (y : V) (o : Option V) : Prop := DGet H a y o ∨ (H a = some (.dK []) ∧ DGet (upd H a (.dT [])) a y o) ∨ (H a = some (.dT []) ∧ DGet (upd H a (.dK [])) a y o)
theorem upd_back {H : Hp} {a : Addr} {o o' : HO} (h : H a = some o) : upd (upd H a o') a o = H := by
  funext b
  by_cases z : b = a
  · subst z; rw [upd_same, h]
  · rw [upd_ne z, upd_ne z]
def rInK (f : Bool → Bool) : R2 := fun x y H Q => ∃ a o, y = .ref a ∧ AskD H a x o ∧ Q (.bl (f o.isSome)) H
theorem op_inK (hu : X.A.units + 1 < cLine) : OpR X (compareOp .In) (rInK id) := by
  intro pins s σ H x y v u Q I rx ry h
  obtain ⟨a, o, rfl, hd, q⟩ := h
  cases ry
  rcases hd with hd | ⟨e, hd⟩ | ⟨e, hd⟩
  · exact d_in hu I hd rx fun s3 I3 => ⟨.bl o.isSome, H, I3, rfl, q⟩
  · exact d_in hu (Inv.dKT I e) hd rx fun s3 I3 => ⟨.bl o.isSome, H, by have z := Inv.dTK I3 upd_same; rw [upd_back e] at z; exact z, rfl, q⟩
  · exact d_in hu (Inv.dTK I e) hd rx fun s3 I3 => ⟨.bl o.isSome, H, by have z := Inv.dKT I3 upd_same; rw [upd_back e] at z; exact z, rfl, q⟩
theorem op_notInK (hu : X.A.units + 1 < cLine) : OpR X (compareOp .NotIn) (rInK not) := by
  intro pins s σ H x y v u Q I rx ry h
  obtain ⟨a, o, rfl, hd, q⟩ := h
  cases ry
  rcases hd with hd | ⟨e, hd⟩ | ⟨e, hd⟩
  · exact d_notIn hu I hd rx fun s3 I3 => ⟨.bl (!o.isSome), H, I3, rfl, q⟩
  · exact d_notIn hu (Inv.dKT I e) hd rx fun s3 I3 => ⟨.bl (!o.isSome), H, by have z := Inv.dTK I3 upd_same; rw [upd_back e] at z; exact z, rfl, q⟩
  · exact d_notIn hu (Inv.dTK I e) hd rx fun s3 I3 => ⟨.bl (!o.isSome), H, by have z := Inv.dKT I3 upd_same; rw [upd_back e] at z; exact z, rfl, q⟩
/-- a dict's object, and what a key finds -/
theorem Vw.dict {kvs : List (D × D)} {v : V} (s : Sub G H) (h : Vw K G H (.dict kvs) v) : ∃ a, v = .ref a ∧ ((∃ es, Rd H a (.dK es) ∧ (es = [] → H a = some (.dK es)) ∧ RpK K G kvs es) ∨ (∃ es, Rd H a (.dT es) ∧ (es = [] → H a = some (.dT es)) ∧ RpT K G kvs es) ∨ ∃ ns : List Int, kvs = [(.none, .list (ns.map PyData.int))] ∧ SqL K H a (ns.map V.int)) := by
  rcases h with ⟨a, e, ⟨es, q, r⟩ | ⟨es, q, r⟩ | ⟨ns, q, r⟩⟩ | ⟨p, e, _, o, ho, hd, _⟩
  · exact ⟨a, e, .inl ⟨es, s.rd q, (fun z => by subst z; rcases s.1 a _ q with h | ⟨z, _⟩ <;> first | exact h | cases z), r⟩⟩
  · exact ⟨a, e, .inr (.inl ⟨es, s.rd q, (fun z => by subst z; rcases s.1 a _ q with h | ⟨z, _⟩ <;> first | exact h | cases z), r⟩)⟩
  · exact ⟨a, e, .inr (.inr ⟨ns, q, s.sqL r⟩)⟩
  · cases hd with
    | dK r => exact ⟨p, e, .inl ⟨_, .inl ho, fun _ => ho, r⟩⟩
    | dT r => exact ⟨p, e, .inr (.inl ⟨_, .inl ho, fun _ => ho, r⟩)⟩
/-- what the reading of a key gives -/
theorem ask_dict {kvs : List (D × D)} {k : D} {x y : V} (s : Sub G H) (hd : Vw K G H (.dict kvs) y) (hk : Vw K G H k x) (hf : keyFits kvs k = true) :
    ∃ a o, y = .ref a ∧ AskD H a x o ∧ o.isSome = (dGetV kvs k).isSome ∧ ∀ d, dGetV kvs k = some d → ∃ v, o = some v ∧ Rp K G d v := by
  obtain ⟨a, rfl, h⟩ := hd.dict s
  refine ⟨a, ?_⟩
  unfold keyFits at hf
  rcases h with ⟨es, hr, hl, r⟩ | ⟨es, hr, hl2, r⟩ | ⟨ns, e, _⟩
  · cases ek : toK1 k with
    | some z =>
      have ed := of_toK1 ek
      subst ed
      have ey := hk.key
      subst ey
      refine ⟨valV es z, rfl, .inl (.inl ⟨es, z, hr, rfl, rfl⟩), ?_, fun d hd => ?_⟩
      · have g := r.get (x := z)
        cases e : dGetV kvs (keyD z) with
        | none => rw [e] at g; rw [g]; rfl
        | some d => rw [e] at g; obtain ⟨v, g1, _⟩ := g; rw [g1]; rfl
      · have g := r.get (x := z)
        rw [hd] at g
        exact g
    | none =>
      simp only [ek, Bool.and_eq_true] at hf
      cases kvs with
      | cons p q =>
        exfalso
        obtain ⟨ak, ad⟩ := p
        obtain ⟨x0, u, r2, _, ek2, _, _⟩ := r
        subst ek2
        rw [List.all_cons, Bool.and_eq_true] at hf
        have z : (toKT (keyD x0)).isSome = true := hf.2.1
        cases x0 <;> cases z
      | nil =>
        have h' : es = [] := r
        subst h'
        cases et : toKT k with
        | none => rw [et] at hf; cases hf.1
        | some ks =>
          have ed := of_toKT et
          subst ed
          obtain ⟨b, eb, hb⟩ := hk.keyT s
          subst eb
          have ha := hl rfl
          have ne : b ≠ a := fun z => by rw [z, ha] at hb; cases hb
          exact ⟨none, rfl, .inr (.inl ⟨ha, .inr ⟨[], ks, b, .inl upd_same, rfl, by rw [upd_ne ne]; exact hb, rfl⟩⟩), rfl, fun d hd => by cases hd⟩
  · cases ek : toK1 k with
    | some z =>
      simp only [ek] at hf
      have ed := of_toK1 ek
      subst ed
      have ey := hk.key
      subst ey
      cases kvs with
      | cons p q =>
        exfalso
        obtain ⟨ak, ad⟩ := p
        obtain ⟨x2, u, r2, _, ek2, _, _⟩ := r
        subst ek2
        rw [List.all_cons, Bool.and_eq_true] at hf
        have z : (toK1 (.tuple (x2.map keyD))).isSome = true := hf.1
        cases z
      | nil =>
        have h' : es = [] := r
        subst h'
        have ha := hl2 rfl
        exact ⟨none, rfl, .inr (.inr ⟨ha, .inl ⟨[], z, .inl upd_same, rfl, rfl⟩⟩), rfl, fun d hd => by cases hd⟩
    | none =>
      simp only [ek, Bool.and_eq_true] at hf
      cases et : toKT k with
      | none => rw [et] at hf; cases hf.1
      | some ks =>
        have ed := of_toKT et
        subst ed
        obtain ⟨b, eb, hb⟩ := hk.keyT s
        subst eb
        refine ⟨valV es ks, rfl, .inl (.inr ⟨es, ks, b, hr, rfl, hb, rfl⟩), ?_, fun d hd => ?_⟩
        · have g := r.get (x := ks)
          cases e : dGetV kvs (.tuple (ks.map keyD)) with
          | none => rw [e] at g; rw [g]; rfl
          | some d => rw [e] at g; obtain ⟨v, g1, _⟩ := g; rw [g1]; rfl
        · have g := r.get (x := ks)
          rw [hd] at g
          exact g
  · exfalso
    subst e
    cases ek : toK1 k with
    | some z =>
      simp only [ek, List.all_cons, Bool.and_eq_true] at hf
      cases hf.1
    | none =>
      simp only [ek, List.all_cons, Bool.and_eq_true] at hf
      cases hf.2.1
theorem p_inAny {f : Bool → Bool} : Prim2 K (fun x y => (dHas x y).map fun b => .bool (f b)) (fun x y H Q =>
    (∃ d ds, Dp K H x d ∧ Dp K H y (.list ds) ∧ SeqAt.shaped d = true ∧ SeqAt.shaped (.list ds) = true ∧ Q (.bl (f (ds.any fun z => PyData.eqv z d))) H) ∨ rInT2 K f x y H Q ∨
    (∃ (c : Nat) (z : Str), x = .str ⟨#[c]⟩ ∧ y = .str z ∧ Q (.bl (f (decide (c ∈ z.cps.toList)))) H) ∨ rInK f x y H Q) := fun G H x y d1 d2 d Q s v1 v2 e q => by
  cases eh : dHas d1 d2 with
  | none => simp only [eh] at e; cases e
  | some b =>
    simp only [eh] at e
    cases e
    have q := q (.bl (f b)) H (.inl ⟨rfl, rfl⟩)
    unfold dHas at eh
    split at eh
    · split at eh
      · rename_i h
        cases eh
        rw [Bool.and_eq_true] at h
        exact .inl ⟨d1, _, v1.dp s (okD.no h.1), v2.dp s (okD.no h.2), h.1, h.2, q⟩
      · cases eh
    · split at eh
      · rename_i h
        cases eh
        rw [Bool.and_eq_true] at h
        exact .inr (.inl ⟨d1, _, v1.dp s (okD.no h.1), v2.dp s (okD.no h.2), h.1, h.2, q⟩)
      · cases eh
    · rename_i x' z
      split at eh
      · rename_i c hc
        cases eh
        have ex : x' = ⟨#[c]⟩ := by
          obtain ⟨a⟩ := x'
          have : a = #[c] := Array.ext' hc
          rw [this]
        subst ex
        exact .inr (.inr (.inl ⟨c, z, v1.str, v2.str, q⟩))
      · cases eh
    · split at eh
      · rename_i h
        cases eh
        obtain ⟨a, o, ea, hk, hs, _⟩ := ask_dict s v2 v1 h
        exact .inr (.inr (.inr ⟨a, o, ea, hk, by rw [hs]; exact q⟩))
      · cases eh
    · cases eh
theorem op_inAny (hu : X.A.units + 65 < cLine) : OpR X (compareOp .In) (fun x y H Q =>
    (∃ d ds, Dp X.K H x d ∧ Dp X.K H y (.list ds) ∧ SeqAt.shaped d = true ∧ SeqAt.shaped (.list ds) = true ∧ Q (.bl (id (ds.any fun z => PyData.eqv z d))) H) ∨ rInT2 X.K id x y H Q ∨
    (∃ (c : Nat) (z : Str), x = .str ⟨#[c]⟩ ∧ y = .str z ∧ Q (.bl (id (decide (c ∈ z.cps.toList)))) H) ∨ rInK id x y H Q) := (op_inD hu).or ((op_inT2 hu).or (op_in_sign.or (op_inK (by omega))))
theorem op_notInAny (hu : X.A.units + 65 < cLine) : OpR X (compareOp .NotIn) (fun x y H Q =>
    (∃ d ds, Dp X.K H x d ∧ Dp X.K H y (.list ds) ∧ SeqAt.shaped d = true ∧ SeqAt.shaped (.list ds) = true ∧ Q (.bl (not (ds.any fun z => PyData.eqv z d))) H) ∨ rInT2 X.K not x y H Q ∨
    (∃ (c : Nat) (z : Str), x = .str ⟨#[c]⟩ ∧ y = .str z ∧ Q (.bl (not (decide (c ∈ z.cps.toList)))) H) ∨ rInK not x y H Q) := (op_notInD hu).or ((op_notInT2 hu).or (op_notIn_sign.or (op_notInK (by omega))))
def dAt : D → D → Option D
  | .list ds, .int i => atI ds i
  | .tuple ds, .int i => atI ds i
  | .str z, .int i => if z.length ≤ sizeLine then (atI z.cps.toList i).map fun c => .str ⟨#[c]⟩ else none
  | .dict [(.none, .list ds)], .int i => atI ds i
  | .dict kvs, k => if keyFits kvs k then dGetV kvs k else none
  | _, _ => none
def rIxK : R2 := fun x y H Q => ∃ a v, x = .ref a ∧ DGet H a y (some v) ∧ Q v H
theorem ix_dict (hu : X.A.units + 1 < cLine) : IxR X rIxK := by
  intro value slice pins s σ H x y v u Q I rx ry h hs
  obtain ⟨a, z, rfl, g, q⟩ := h
  obtain rfl : v = Value.ref a := rx
  exact tail_any (dict_typeIs I g) slot_dict_getitem.lookup (d_getItem hu I g ry fun w' s3 I3 rw' => ⟨z, H, I3, rw', q⟩) hs
theorem ix_any (hu : X.A.units + 1 < cLine) : IxR X (fun x y H Q => rIx X.K x y H Q ∨ rIxK x y H Q) := ix_seq.or (ix_dict hu)
theorem RpL.atI {ds : List D} {vs : List V} {i : Int} {d : D} (h : RpL K G ds vs) (e : L2.atI ds i = some d) : ∃ v, L2.atI vs i = some v ∧ Rp K G d v := by
  unfold L2.atI at e ⊢
  rw [h.length]
  cases ej : ixN ds.length i with
  | none => rw [ej] at e; cases e
  | some j =>
    rw [ej] at e
    exact h.get e
theorem p_at : Prim2 K dAt (fun x y H Q => rIx K x y H Q ∨ rIxK x y H Q) := fun G H x y d1 d2 d Q s v1 v2 e q => by
  have dictCase : ∀ kvs, d1 = .dict kvs → keyFits kvs d2 = true → dGetV kvs d2 = some d → rIxK x y H Q := fun kvs e1 hf hg => by
    subst e1
    obtain ⟨a, o, ea, hk, hs, hv⟩ := ask_dict s v1 v2 hf
    obtain ⟨v, ev, rv⟩ := hv d hg
    subst ev
    rcases hk with hk | ⟨_, hk⟩ | ⟨_, hk⟩
    · exact ⟨a, v, ea, hk, q v H (.inl ⟨rfl, rv⟩)⟩
    · rcases hk with ⟨kvs2, k, e2, _, l⟩ | ⟨kvs2, k, b, e2, _, _, l⟩
      · rcases e2 with e2 | ⟨_, e2⟩ <;> (rw [upd_same] at e2; cases e2)
      · rcases e2 with e2 | ⟨_, e2⟩ <;> (rw [upd_same] at e2; cases e2 <;> cases l)
    · rcases hk with ⟨kvs2, k, e2, _, l⟩ | ⟨kvs2, k, b, e2, _, _, l⟩
      · rcases e2 with e2 | ⟨_, e2⟩ <;> (rw [upd_same] at e2; cases e2 <;> cases l)
      · rcases e2 with e2 | ⟨_, e2⟩ <;> (rw [upd_same] at e2; cases e2)
  unfold dAt at e
  split at e
  · rename_i ds i
    obtain ⟨a, xs, rfl, ha, ra⟩ := v1.lst s
    obtain ⟨v, ev, rv⟩ := ra.atI e
    exact .inl (.inl ⟨a, xs, i, v, rfl, v2.int, .inl (.inl ha), ev, q v H (.inl ⟨rfl, rv⟩)⟩)
  · rename_i ds i
    obtain ⟨a, xs, rfl, ha, _, ra⟩ := v1.tup s
    obtain ⟨v, ev, rv⟩ := ra.atI e
    exact .inl (.inr (.inl ⟨a, xs, i, v, rfl, v2.int, .inl (.inl ha), ev, q v H (.inl ⟨rfl, rv⟩)⟩))
  · rename_i z i
    split at e
    · rename_i hz
      cases ec : L2.atI z.cps.toList i with
      | none => rw [ec] at e; cases e
      | some c =>
        rw [ec] at e
        cases e
        exact .inl (.inr (.inr ⟨z, i, c, v1.str, v2.int, hz, ec, q _ H (.inl ⟨rfl, rfl⟩)⟩))
    · cases e
  · rename_i ds i
    obtain ⟨a, rfl, h⟩ := v1.dict s
    rcases h with ⟨es, hr, _, r⟩ | ⟨es, hr, _, r⟩ | ⟨ns, e1, h⟩
    · exfalso
      obtain ⟨x0, u, r2, _, ek2, _, _⟩ := r
      cases x0 <;> cases ek2
    · exfalso
      obtain ⟨x0, u, r2, _, ek2, _, _⟩ := r
      cases ek2
    · cases e1
      obtain ⟨v, ev, rv⟩ := (RpL.of_ints (K := K) (G := G) ns).atI e
      exact .inl (.inl ⟨a, _, i, v, rfl, v2.int, h, ev, q v H (.inl ⟨rfl, rv⟩)⟩)
  · rename_i kvs _
    split at e
    · rename_i hf
      exact .inr (dictCase kvs rfl hf e)
    · cases e
  · cases e
def dLen : List D → Option D
  | [.list ds] => some (.int ds.length)
  | [.tuple ds] => some (.int ds.length)
  | [.str z] => if z.length ≤ sizeLine then some (.int z.length) else none
  | [.dict [(.none, .list ds)]] => some (.int ds.length)
  | _ => none
abbrev rLenA (K : PySem.W.Frag) : List V → Hp → VK → Prop := fun xs H Q => (∃ p ys, xs = [.ref p] ∧ (SqL K H p ys ∨ SqT K H p ys) ∧ Q (.int ys.length) H) ∨ (∃ z, xs = [.str z] ∧ z.length ≤ sizeLine ∧ Q (.int z.length) H)
theorem call_lenA : CallR X (.builtin "len") (rLenA X.K) := call_len_seq.or call_len_str
theorem vwl1 {d : D} {xs : List V} (h : VwL K G H [d] xs) : ∃ v, xs = [v] ∧ Vw K G H d v := by
  match xs, h with
  | [v], ⟨h, _⟩ => exact ⟨v, rfl, h⟩
  | [], h => exact h.elim
  | _ :: _ :: _, ⟨_, h⟩ => exact h.elim
theorem p_len : PrimL K dLen (rLenA K) := fun G H xs ds d Q s vw e q => by
  unfold dLen at e
  split at e
  · cases e
    obtain ⟨v, rfl, v⟩ := vwl1 vw
    obtain ⟨a, xs, rfl, ha, ra⟩ := v.lst s
    exact .inl ⟨a, xs, rfl, .inl (.inl (.inl ha)), by rw [ra.length]; exact q _ H (.inl ⟨rfl, rfl⟩)⟩
  · cases e
    obtain ⟨v, rfl, v⟩ := vwl1 vw
    obtain ⟨a, xs, rfl, ha, _, ra⟩ := v.tup s
    exact .inl ⟨a, xs, rfl, .inr (.inl (.inl ha)), by rw [ra.length]; exact q _ H (.inl ⟨rfl, rfl⟩)⟩
  · split at e
    · rename_i hz
      cases e
      obtain ⟨v, rfl, v⟩ := vwl1 vw
      have ev := v.str
      subst ev
      exact .inr ⟨_, rfl, hz, q _ H (.inl ⟨rfl, rfl⟩)⟩
    · cases e
  · cases e
    obtain ⟨v, rfl, v⟩ := vwl1 vw
    obtain ⟨a, rfl, h⟩ := v.dict s
    rcases h with ⟨es, hr, _, r⟩ | ⟨es, hr, _, r⟩ | ⟨ns, e1, h⟩
    · exfalso
      obtain ⟨x0, u, r2, _, ek2, _, _⟩ := r
      cases x0 <;> cases ek2
    · exfalso
      obtain ⟨x0, u, r2, _, ek2, _, _⟩ := r
      cases ek2
    · cases e1
      refine .inl ⟨a, _, rfl, .inl h, ?_⟩
      have z := q (.int (ns.map PyData.int).length) H (.inl ⟨rfl, rfl⟩)
      rw [List.length_map] at z ⊢
      exact z
  · cases e
end

set_option autoImplicit false
section
variable {X : Cx} {c : Ct} {F : Fr} {ρ : Env} {σ : L2.St} {G H : Hp} {K : PySem.W.Frag} {e a b d : Expr} {pos p p2 : Pos}
def mNeg (m : ME) : ME := fun ρ => (m ρ).then fun d ρ' => match d with
  | .int i => .ok (.int (-i)) ρ'
  | _ => .stuck
theorem me_neg {m : ME} (h : PE X a (tE c m)) : PE X (.UnaryOp .USub a pos) (tE c (mNeg m)) := pe_conseq (pe_un un_neg h) fun σ H Q ⟨F, ρ, G, S, q⟩ =>
  ⟨F, ρ, G, S, (Ask.then q).imp (GLe.refl G) fun d ρ' k v H' G' S' gl r => by
    split at k
    · exact ⟨_, r, k _ H' G' S' gl rfl⟩
    · exact k.elim⟩
def mChain (g g' : D → D → Option D) (o1 o2 o3 : Opd) : ME := fun ρ => (o1.ev ρ).then fun x1 ρ1 => (o2.ev ρ1).then fun x2 ρ2 =>
  match o1.fin x1 ρ2, o2.fin x2 ρ2 with
  | some d1, some d2 => (match g d1 d2 with
    | some (.bool true) => (o3.ev ρ2).then fun x3 ρ3 => (match o2.fin x2 ρ3, o3.fin x3 ρ3 with
      | some d2', some d3 => (match g' d2' d3 with
        | some d => .ok d ρ3
        | none => .stuck)
      | _, _ => .stuck)
    | some (.bool false) => .ok (.bool false) ρ2
    | _ => .stuck)
  | _, _ => .stuck
theorem tChain_e {o1 o2 o3 : Opd} {g g' : D → D → Option D} {r r' : R2} (hp : Prim2 c.K g r) (hp' : Prim2 c.K g' r') {Q : VK} (h : tE c (mChain g g' o1 o2 o3) σ H Q) : tChain r r' (tO c o1) (tO c o2) (tO c o3) σ H Q := by
  obtain ⟨F, ρ, G, S, a⟩ := h
  refine tO_ev S ((Ask.then a).imp (GLe.refl G) fun x1 ρ1 a1 v H1 G1 S1 g1 p1 => ?_)
  refine tO_ev S1 ((Ask.then a1).imp g1 fun x2 ρ2 a2 u H2 G2 S2 g2 p2 => ?_)
  cases e1 : o1.fin x1 ρ2 with
  | none => rw [e1] at a2; exact a2.elim
  | some d1 =>
    rw [e1] at a2
    cases e2 : o2.fin x2 ρ2 with
    | none => rw [e2] at a2; exact a2.elim
    | some d2 =>
      rw [e2] at a2
      simp only at a2
      have v1 := (p1.mono g2).vw S2 e1
      have v2 := p2.vw S2 e2
      split at a2
      · rename_i eg
        refine hp G2 H2 v u d1 d2 _ _ S2.sub v1 v2 eg fun z H3 po => ?_
        obtain ⟨G3, S3, g3, r3⟩ := po.state S2
        have ez : z = .bl true := r3
        subst ez
        refine ⟨true, rfl, ?_⟩
        rw [if_pos rfl]
        refine tO_ev S3 ((Ask.then a2).imp ((g1.trans g2).trans g3) fun x3 ρ3 a3 w H4 G4 S4 g4 p4 => ?_)
        cases e4 : o2.fin x2 ρ3 with
        | none => rw [e4] at a3; exact a3.elim
        | some d2' =>
          rw [e4] at a3
          cases e5 : o3.fin x3 ρ3 with
          | none => rw [e5] at a3; exact a3.elim
          | some d3 =>
            rw [e5] at a3
            cases e6 : g' d2' d3 with
            | none => simp only [e6] at a3; exact a3.elim
            | some d =>
              simp only [e6] at a3
              refine hp' G4 H4 u w d2' d3 d Q S4.sub (((p2.mono g3).mono g4).vw S4 e4) (p4.vw S4 e5) e6 fun v' H' po' => ?_
              obtain ⟨G', S', gl', r⟩ := po'.state S4
              exact a3 v' H' G' S' ((((g1.trans g2).trans g3).trans g4).trans gl') r
      · rename_i eg
        refine hp G2 H2 v u d1 d2 _ _ S2.sub v1 v2 eg fun z H3 po => ?_
        obtain ⟨G3, S3, g3, r3⟩ := po.state S2
        have ez : z = .bl false := r3
        subst ez
        refine ⟨false, rfl, ?_⟩
        rw [if_neg Bool.false_ne_true]
        exact a2 _ H3 G3 S3 ((g1.trans g2).trans g3) rfl
      · exact a2.elim
theorem me_chain {op op' : CmpOp} {o1 o2 o3 : Opd} {g g' : D → D → Option D} {r r' : R2} (ho : OpR X (compareOp op) r) (ho' : OpR X (compareOp op') r') (hp : Prim2 c.K g r) (hp' : Prim2 c.K g' r') (ha : PE X a (tO c o1)) (hb : PE X b (tO c o2)) (hd : PE X d (tO c o3))
    (hm : lastMarks [op, op'] [b, d] = false := by with_unfolding_all rfl) : PE X (.Compare a [op, op'] [b, d] pos) (tE c (mChain g g' o1 o2 o3)) :=
  pe_conseq (pe_chain ho ho' ha hb hd hm) fun _ _ _ h => tChain_e hp hp' h
theorem mt_chain {op op' : CmpOp} {o1 o2 o3 : Opd} {g g' : D → D → Option D} {r r' : R2} (ho : OpR X (compareOp op) r) (ho' : OpR X (compareOp op') r') (hp : Prim2 c.K g r) (hp' : Prim2 c.K g' r') (ha : PE X a (tO c o1)) (hb : PE X b (tO c o2)) (hd : PE X d (tO c o3))
    (hm : lastMarks [op, op'] [b, d] = false := by with_unfolding_all rfl) : PT X (.Compare a [op, op'] [b, d] pos) (tT c (mB (mChain g g' o1 o2 o3))) :=
  pt_conseq (pt_chain ho ho' ha hb hd hm) fun _ _ _ h => tChain_e hp hp' (tB_e h)
theorem me_at {o1 o2 : Opd} (hu : X.A.units + 1 < cLine) (hK : X.K = c.K) (ha : PE X a (tO c o1)) (hb : PE X b (tO c o2)) (hs : PlainIx b := by intro _ _; rfl) : PE X (.Subscript a b pos) (tE c (mOp2 dAt o1 o2)) :=
  pe_conseq (pe_ix (ix_any hu) ha hb hs) fun _ _ _ h => by rw [hK]; exact tOp_e p_at h
def oI : Option ME → Env → Rs (Option Int)
  | none, ρ => .ok none ρ
  | some m, ρ => (m ρ).then fun d ρ' => match d with
    | .int i => .ok (some i) ρ'
    | _ => .stuck
def tOI (c : Ct) : Option ME → TO
  | none => tNoPart
  | some m => tPart (tE c m)
theorem tOI_ev {m : Option ME} {R : Option Int → Hp → Prop} (S : State c F ρ σ G H) (a : Ask c F σ G (fun x ρ' => ∀ H' G', State c F ρ' σ G' H' → GLe G G' → R x H') (oI m ρ)) : tOI c m σ H R := by
  cases m with
  | none => exact a H G S (GLe.refl G)
  | some m =>
    refine ⟨F, ρ, G, S, (Ask.then a).imp (GLe.refl G) fun d ρ' k v H' G' S' gl r => ?_⟩
    split at k
    · exact ⟨_, r, k H' G' S' gl⟩
    · exact k.elim
def dCut (d : D) (lo hi : Option Int) : Option D := match d with
  | .list ds => some (.list (cutV' ds lo hi))
  | .tuple ds => some (.tuple (cutV' ds lo hi))
  | .str z => if z.length ≤ sizeLine then some (.str (cutS z lo hi)) else none
  | _ => none
where cutV' (ds : List D) (lo hi : Option Int) : List D := (ds.drop (HT.sIx ds.length 0 lo)).take (HT.sIx ds.length ds.length hi - HT.sIx ds.length 0 lo)
def mCut (o : Opd) (lo hi : Option ME) : ME := fun ρ => (o.ev ρ).then fun x ρ1 => (oI lo ρ1).then fun l ρ2 => (oI hi ρ2).then fun h ρ3 => match (o.fin x ρ3).bind fun d => dCut d l h with
  | some d => .ok d ρ3
  | none => .stuck
abbrev rSlAll (K : PySem.W.Frag) : V → Option Int → Option Int → Hp → VK → Prop := fun x lo hi H Q => rSlL K x lo hi H Q ∨ rSlA K x lo hi H Q ∨ rSlS x lo hi H Q
theorem sl_all : L2.SlR X (rSlAll X.K) := SlR.or sl_list (SlR.or sl_tupA sl_str)
theorem RpL.cut {ds : List D} {vs : List V} (h : RpL K G ds vs) (lo hi : Option Int) : RpL K G (dCut.cutV' ds lo hi) (cutV vs lo hi) := by
  unfold dCut.cutV' cutV
  rw [h.length]
  exact (h.drop _).take _
theorem p_cut {x : V} {d d' : D} {lo hi : Option Int} {Q : VK} (s : Sub G H) (v : Vw K G H d x) (e : dCut d lo hi = some d') (q : ∀ v H', POut K G H d' v H' → Q v H') : rSlAll K x lo hi H Q := by
  cases d <;> simp only [dCut] at e <;> first | cases e | skip
  · split at e
    · rename_i z hz
      cases e
      exact .inr (.inr ⟨_, v.str, hz, q _ H (.inl ⟨rfl, rfl⟩)⟩)
    · cases e
  · obtain ⟨a, xs, rfl, ha, ra⟩ := v.lst s
    exact .inl ⟨a, xs, rfl, .inl (.inl ha), fun p hp => q _ _ (.inr ⟨p, _, rfl, hp, rfl, .lst (ra.cut lo hi)⟩)⟩
  · obtain ⟨a, xs, rfl, ha, ga, ra⟩ := v.tup s
    refine .inr (.inl ⟨a, xs, rfl, .inl (.inl ha), fun hw => ?_, fun hw p hp => q _ _ (.inr ⟨p, _, rfl, hp, rfl, .tup (ra.cut lo hi)⟩)⟩)
    refine q _ H (.inl ⟨rfl, a, xs, rfl, ga, ?_⟩)
    have z := ra.cut lo hi
    unfold cutV at z
    rw [hw.1, hw.2] at z
    simpa using z
theorem me_cut {o : Opd} {lo hi : Option Expr} {ml mh : Option ME} (hK : X.K = c.K) (he : PE X e (tO c o)) (hl : PO X lo (tOI c ml)) (hh : PO X hi (tOI c mh)) : PE X (.Subscript e (.Slice lo hi none p2) pos) (tE c (mCut o ml mh)) :=
  pe_conseq (pe_slice sl_all he hl hh) fun σ H Q ⟨F, ρ, G, S, a⟩ => by
    rw [hK]
    refine tO_ev S ((Ask.then a).imp (GLe.refl G) fun x ρ1 a1 v H1 G1 S1 g1 p1 => ?_)
    refine tOI_ev S1 ((Ask.then a1).imp g1 fun l ρ2 a2 H2 G2 S2 g2 => ?_)
    refine tOI_ev S2 ((Ask.then a2).imp (g1.trans g2) fun h ρ3 a3 H3 G3 S3 g3 => ?_)
    cases ef : o.fin x ρ3 with
    | none => rw [ef] at a3; exact a3.elim
    | some d =>
      rw [ef] at a3
      cases ec : dCut d l h with
      | none => simp only [Option.bind_some, ec] at a3; exact a3.elim
      | some d' =>
        simp only [Option.bind_some, ec] at a3
        refine p_cut S3.sub (((p1.mono g2).mono g3).vw S3 ef) ec fun v' H' po => ?_
        obtain ⟨G', S', gl', r⟩ := po.state S3
        exact a3 v' H' G' S' (((g1.trans g2).trans g3).trans gl') r
theorem po_no : PO X none (tOI c none) := po_none
theorem po_at {m : ME} (h : PE X e (tE c m)) : PO X (some e) (tOI c (some m)) := po_some h
end

set_option autoImplicit false
section
variable {X : Cx} {c : Ct} {F : Fr} {ρ : Env} {σ : L2.St} {G H : Hp} {K : PySem.W.Frag} {e a b d : Expr} {es : List Expr} {pos p p2 : Pos}
theorem vwl2 {d e : D} {xs : List V} (h : VwL K G H [d, e] xs) : ∃ v u, xs = [v, u] ∧ Vw K G H d v ∧ Vw K G H e u := by
  match xs, h with
  | [v, u], ⟨h, h2, _⟩ => exact ⟨v, u, rfl, h, h2⟩
  | [], h => exact h.elim
  | [_], ⟨_, h⟩ => exact h.elim
  | _ :: _ :: _ :: _, ⟨_, _, h⟩ => exact h.elim
theorem me_fnB {x : Str} {id : String} {os : List Opd} {g : List D → Option D} {r : List V → Hp → VK → Prop} (hc : CallR X (.builtin id) r) (hp : PrimL c.K g r) (hg : Gl X x) (hm : X.mg x = none) (hv : bootBuiltins x = some (.builtin id)) (ha : PA X (e :: es) (tOs c os)) (hn : x ≠ "__name__" := by decide) (hdb : (x == ("__debug__" : Str)) = false := by decide)
    (he : starEach (e :: es) X.env = (false, eval e X.env) :: starEach es X.env := by rfl) (hpl : (backTo pos (starEach es X.env)).any (·.1) = false := by rfl) : PE X (.Call (.Name x p) (e :: es) [] pos) (tE c (mFn g os)) :=
  pe_conseq (pe_callB hc hg hm hv ha hn hdb he hpl) fun _ _ _ h => tCB_e hp h
theorem fe_fnB {x : Str} {id : String} {os : List Opd} {g : List D → Option D} {r : List V → Hp → VK → Prop} (hc : CallR X (.builtin id) r) (hp : PrimNL c.K g r) (hg : Gl X x) (hm : X.mg x = none) (hv : bootBuiltins x = some (.builtin id)) (ha : PA X (e :: es) (tOs c os)) (hn : x ≠ "__name__" := by decide) (hdb : (x == ("__debug__" : Str)) = false := by decide)
    (he : starEach (e :: es) X.env = (false, eval e X.env) :: starEach es X.env := by rfl) (hpl : (backTo pos (starEach es X.env)).any (·.1) = false := by rfl) : PE X (.Call (.Name x p) (e :: es) [] pos) (tF c (mFn g os)) :=
  pe_conseq (pe_callB hc hg hm hv ha hn hdb he hpl) fun _ _ _ h => tCB_f hp h
theorem me_fnT {x : Str} {T : String} {os : List Opd} {g : List D → Option D} {r : List V → Hp → VK → Prop} (hc : CallR X (.type T) r) (hp : PrimL c.K g r) (hg : Gl X x) (hm : X.mg x = none) (hv : bootBuiltins x = some (.type T)) (ha : PA X (e :: es) (tOs c os)) (hn : x ≠ "__name__" := by decide) (hdb : (x == ("__debug__" : Str)) = false := by decide)
    (he : starEach (e :: es) X.env = (false, eval e X.env) :: starEach es X.env := by rfl) (hpl : (backTo pos (starEach es X.env)).any (·.1) = false := by rfl) : PE X (.Call (.Name x p) (e :: es) [] pos) (tE c (mFn g os)) :=
  pe_conseq (pe_callTy hc hg hm hv ha hn hdb he hpl) fun _ _ _ h => tCB_e hp h
def TG (G H : Hp) : Prop := ∀ (q : Addr) (ks : List Key), H q = some (.tup (ks.map kV)) → G q = some (.tup (ks.map kV))
def dList : List D → Option D
  | [.list ds] => some (.list ds)
  | [.tuple ds] => some (.list ds)
  | _ => none
/-- list(d) of an owned or frozen dict -/
def mKeys (o : Opd) : ME := fun ρ => (o.ev ρ).then fun x ρ' => match o.fin x ρ' with
  | some (.dict kvs) => if (kvs.all fun p => (toK1 p.1).isSome) || (kvs.all fun p => (toKT p.1).isSome) then .ok (.list (kvs.map (·.1))) ρ' else .stuck
  | _ => .stuck
theorem RpK.keys : ∀ {kvs : List (D × D)} {es : List (Key × V)}, RpK K G kvs es → RpL K G (kvs.map (·.1)) (es.map fun kv => kV kv.1)
  | [], _, h => by cases (show _ = _ from h); rfl
  | (k, d) :: r, _, ⟨x, v, r', e, ek, h, t⟩ => by
    subst e ek
    exact ⟨kV x, _, rfl, by cases x <;> rfl, RpK.keys t⟩
theorem RpL.of_keys : ∀ ks : List Key, RpL K G (ks.map keyD) (ks.map kV)
  | [] => rfl
  | k :: ks => ⟨kV k, _, rfl, by cases k <;> rfl, RpL.of_keys ks⟩
theorem RpT.keys (hg : TG G H) : ∀ {kvs : List (D × D)} {es : List (List Key × V)} {bs : List Addr}, RpT K G kvs es → IsKeys H es bs → RpL K G (kvs.map (·.1)) (bs.map V.ref)
  | [], _, bs, h, q => by
    cases (show _ = _ from h)
    cases q
    rfl
  | (k, d) :: r, _, bs, ⟨x, v, r', e, ek, h, t⟩, q => by
    subst e ek
    cases q with
    | cons q1 q2 => exact ⟨V.ref _, _, rfl, ⟨_, _, rfl, hg _ _ q1, .of_keys x⟩, RpT.keys hg t q2⟩
theorem call_listK (hc : X.calm = true) : CallR X (.type "list") (fun xs H Q => ∃ p kvs, xs = [.ref p] ∧ Rd H p (.dK kvs) ∧ ∀ q, H q = none → Q (.ref q) (upd H q (.lst (kvs.map fun kv => kV kv.1)))) := by
  intro pins s σ H xs us Q I r ⟨p, kvs, e0, hrd, q⟩
  subst e0
  obtain ⟨u, eu, rx⟩ := vals1 r
  subst eu
  obtain rfl : u = Value.ref p := rx
  obtain ⟨z0, lo0, vs0, rk0, hd0⟩ := (show ObjOk X.prog X.w H s.heap p (.dK kvs) from hrd.ok I.hok)
  obtain ⟨ep0, at0⟩ := hd0.dictAt
  have len0 : kvs.length = vs0.length := Paired.length rk0
  refine PySem.W.kdl_call (PySem.W.kdl_dict (knd := mixKind X.prog X.w) (kvs := vs0) (ep := ep0) lo0) (I.ok.hd hc) at0 (len0 ▸ z0) fun h2 tk2 acc2 c2 keep2 S2 got2 => ?_
  have vals2 : Vals (kvs.map fun kv => kV kv.1) acc2.toList := by
    have sz2 : acc2.toList.length = acc2.size := by simp
    refine vals_of_at (by rw [List.length_map, sz2, got2.1, len0]) fun j x w h1 h2 => ?_
    obtain ⟨k, y, ky, hi⟩ := got2.2 j w (by rw [← Array.getElem?_toList]; exact h2)
    have e1 : (kvs.map (·.1))[j]? = some k := by
      rw [KV.keys rk0, List.getElem?_map, ky]; rfl
    have e2 : (kvs.map fun kv => kV kv.1) = (kvs.map (·.1)).map kV := by rw [List.map_map]; rfl
    rw [e2, List.getElem?_map, e1] at h1
    cases h1
    exact keyIs_rel hi
  exact ⟨.ref s.heap.objs.size, _, I.laid keep2 (Nat.le_refl _) (show ObjOk X.prog X.w _ _ _ (.lst (kvs.map fun kv => kV kv.1)) from ⟨by rw [List.length_map]; exact z0, acc2.toList, c2, vals2, by rw [Array.toArray_toList]; exact S2⟩), rfl, q _ (I.hok.fresh (Nat.le_refl _))⟩
abbrev rKeysA : List V → Hp → VK → Prop := fun xs H Q => (∃ p kvs, xs = [.ref p] ∧ Rd H p (.dK kvs) ∧ ∀ q, H q = none → Q (.ref q) (upd H q (.lst (kvs.map fun kv => kV kv.1)))) ∨
  (∃ d kvs, xs = [V.ref d] ∧ Rd H d (.dT kvs) ∧ ∀ p bs, H p = none → IsKeys H kvs bs → Q (.ref p) (upd H p (.lst (bs.map V.ref))))
theorem tKeys {o : Opd} {Q : VK} (hK : X.K = c.K) (h : tF c (mKeys o) σ H Q) : tCB rKeysA (tOs c [o]) σ H Q := by
  obtain ⟨F, ρ, G, S, a⟩ := h
  refine tO_ev S ((Ask.then a).imp (GLe.refl G) fun x ρ1 a1 v H1 G1 S1 g1 p1 => ?_)
  split at a1
  · rename_i kvs ef
    split at a1
    · rename_i hk
      obtain ⟨a, ev, h⟩ := (p1.vw S1 ef).dict S1.sub
      subst ev
      rcases h with ⟨es, hr, _, r⟩ | ⟨es, hr, _, r⟩ | ⟨ns, e1, h⟩
      · refine .inl ⟨a, es, rfl, hr, fun q hq => ?_⟩
        exact a1 q _ G1 (S1.alloc hq trivial) g1 (NewAt.of S1 hq (.lst r.keys) trivial)
      · refine .inr ⟨a, es, rfl, hr, fun q bs hq hb => ?_⟩
        exact a1 q _ G1 (S1.alloc hq trivial) g1 (NewAt.of S1 hq (.lst (r.keys S1.tupG hb)) trivial)
      · exfalso
        subst e1
        cases hk
    · exact a1.elim
  · exact a1.elim
theorem fe_keys {o : Opd} (hK : X.K = c.K) (hc : X.calm = true) (hg : Gl X "list") (hm : X.mg "list" = none) (ha : PA X [e] (tOs c [o]))
    (he : starEach [e] X.env = (false, eval e X.env) :: starEach [] X.env := by rfl) : PE X (.Call (.Name "list" p) [e] [] pos) (tF c (mKeys o)) :=
  pe_conseq (pe_callTy ((call_listK hc).or (call_list_dT hc)) hg hm boot_list ha (he := he)) fun _ _ _ h => tKeys hK h
def dTuple : List D → Option D
  | [.list ds] => some (.tuple ds)
  | [.tuple ds] => some (.tuple ds)
  | _ => none
abbrev rTupleA (K : PySem.W.Frag) : List V → Hp → VK → Prop := fun xs H Q => ∃ p ys, xs = [.ref p] ∧ ((SqL K H p ys ∧ ∀ l, H l = none → Q (.ref l) (upd H l (.tup ys))) ∨ (SqT K H p ys ∧ Q (.ref p) H))
theorem p_tuple : PrimL K dTuple (rTupleA K) := fun G H xs ds d Q s vw e q => by
  unfold dTuple at e
  split at e
  · cases e
    obtain ⟨v, rfl, v⟩ := vwl1 vw
    obtain ⟨a, xs, rfl, ha, ra⟩ := v.lst s
    exact ⟨a, xs, rfl, .inl ⟨.inl (.inl ha), fun l hl => q _ _ (.inr ⟨l, _, rfl, hl, rfl, .tup ra⟩)⟩⟩
  · cases e
    obtain ⟨v, rfl, v⟩ := vwl1 vw
    obtain ⟨a, xs, rfl, ha, ga, ra⟩ := v.tup s
    exact ⟨a, xs, rfl, .inr ⟨.inl (.inl ha), q _ H (.inl ⟨rfl, a, xs, rfl, ga, ra⟩)⟩⟩
  · cases e
def dInt : List D → Option D
  | [.int i] => some (.int i)
  | [.bool b] => some (.int (if b then 1 else 0))
  | _ => none
theorem p_int : PrimL K dInt (fun xs H Q => (∃ i, xs = [.int i] ∧ Q (.int i) H) ∨ ∃ k, xs = [.bl k] ∧ Q (.int (if k then 1 else 0)) H) := fun G H xs ds d Q s vw e q => by
  unfold dInt at e
  split at e
  · cases e
    obtain ⟨v, rfl, v⟩ := vwl1 vw
    exact .inl ⟨_, by rw [v.int], q _ H (.inl ⟨rfl, rfl⟩)⟩
  · cases e
    obtain ⟨v, rfl, v⟩ := vwl1 vw
    exact .inr ⟨_, by rw [v.bl], q _ H (.inl ⟨rfl, rfl⟩)⟩
  · cases e
def dAbs : List D → Option D
  | [.int i] => some (.int (if i < 0 then -i else i))
  | _ => none
def dStrI : List D → Option D
  | [.int i] => if i.natAbs.log2 < 1920 then some (.str (toString i)) else none
  | _ => none
theorem p_strI : PrimL K dStrI (fun xs H Q => ∃ i, xs = [.int i] ∧ i.natAbs.log2 < 1920 ∧ Q (.str (toString i)) H) := fun G H xs ds d Q s vw e q => by
  unfold dStrI at e
  split at e
  · split at e
    · rename_i h
      cases e
      obtain ⟨v, rfl, v⟩ := vwl1 vw
      exact ⟨_, by rw [v.int], h, q _ H (.inl ⟨rfl, rfl⟩)⟩
    · cases e
  · cases e
def dMin2 : List D → Option D
  | [.int i, .int j] => some (.int (if j < i then j else i))
  | _ => none
def dMax2 : List D → Option D
  | [.int i, .int j] => some (.int (if j > i then j else i))
  | _ => none
theorem p_min2 : PrimL K dMin2 (fun xs H Q => ∃ i j, xs = [.int i, .int j] ∧ Q (.int (if j < i then j else i)) H) := fun G H xs ds d Q s vw e q => by
  unfold dMin2 at e
  split at e
  · cases e
    obtain ⟨v, u, rfl, v, u⟩ := vwl2 vw
    exact ⟨_, _, by rw [v.int, u.int], q _ H (.inl ⟨rfl, rfl⟩)⟩
  · cases e
theorem p_max2 : PrimL K dMax2 (fun xs H Q => ∃ i j, xs = [.int i, .int j] ∧ Q (.int (if j > i then j else i)) H) := fun G H xs ds d Q s vw e q => by
  unfold dMax2 at e
  split at e
  · cases e
    obtain ⟨v, u, rfl, v, u⟩ := vwl2 vw
    exact ⟨_, _, by rw [v.int, u.int], q _ H (.inl ⟨rfl, rfl⟩)⟩
  · cases e
def maxI : List Int → Option Int
  | [] => none
  | i :: r => some (r.foldl max i)
theorem foldl_max_of : ∀ (r : List Int) (i m : Int), m ∈ i :: r → (∀ y ∈ i :: r, y ≤ m) → r.foldl max i = m
  | [], i, m, h, _ => (List.mem_singleton.mp h).symm
  | j :: r, i, m, h, hm => by
    refine foldl_max_of r (max i j) m ?_ fun y hy => ?_
    · have h1 := hm i List.mem_cons_self
      have h2 := hm j (List.mem_cons_of_mem _ List.mem_cons_self)
      rcases List.mem_cons.mp h with e | h
      · rw [e] at h2 ⊢
        rw [show max i j = i by omega]; exact List.mem_cons_self
      · rcases List.mem_cons.mp h with e | h
        · rw [e] at h1 ⊢
          rw [show max i j = j by omega]; exact List.mem_cons_self
        · exact List.mem_cons_of_mem _ h
    · rcases List.mem_cons.mp hy with e | hy
      · have h1 := hm i List.mem_cons_self
        have h2 := hm j (List.mem_cons_of_mem _ List.mem_cons_self)
        omega
      · exact hm y (List.mem_cons_of_mem _ (List.mem_cons_of_mem _ hy))
def dFold (f : List Int → Option Int) : List D → Option D
  | [.list ds] => ((dInts ds).bind f).map PyData.int
  | _ => none
theorem fold_ints {f : List Int → Option Int} {ds : List D} {d : D} {xs : List V} (e : dFold f ds = some d) (s : Sub G H) (vw : VwL K G H ds xs) : ∃ (a : Addr) (ns : List Int) (i : Int), xs = [.ref a] ∧ SqL K H a (ns.map V.int) ∧ f ns = some i ∧ d = .int i := by
  unfold dFold at e
  split at e
  · rename_i ds
    obtain ⟨v, rfl, v⟩ := vwl1 vw
    obtain ⟨a, xs, rfl, ha, ra⟩ := v.lst s
    cases ei : dInts ds with
    | none => rw [ei] at e; cases e
    | some ns =>
      rw [ei] at e
      rw [dInts_map ei] at ra
      rw [ra.ints] at ha
      cases ef : f ns with
      | none => simp only [Option.bind_some, ef] at e; cases e
      | some i =>
        simp only [Option.bind_some, ef] at e
        cases e
        exact ⟨a, ns, i, rfl, .inl (.inl ha), ef, rfl⟩
  · cases e
theorem p_max : PrimL K (dFold maxI) (rMax K) := fun G H xs ds d Q s vw e q => by
  obtain ⟨a, ns, i, ex, ha, ef, ed⟩ := fold_ints e s vw
  subst ed
  cases ns with
  | nil => cases ef
  | cons n r =>
    refine ⟨a, n :: r, ex, ha, Nat.succ_pos _, fun m hm hy => ?_⟩
    rw [← foldl_max_of r n m hm hy]
    cases ef
    exact q _ H (.inl ⟨rfl, rfl⟩)
def dBls : List D → Option (List Bool)
  | [] => some []
  | .bool i :: r => (dBls r).map fun is => i :: is
  | _ :: _ => none
theorem dBls_vals : ∀ {ds : List D} {bs : List Bool} {vs : List V}, dBls ds = some bs → RpL K G ds vs → vs = bs.map V.bl
  | [], _, _, h, r => by cases h; exact r
  | .bool i :: ds, _, vs, h, ⟨v, r', e, h1, t⟩ => by
    simp only [dBls] at h
    cases eb : dBls ds with
    | none => rw [eb] at h; cases h
    | some bs =>
      rw [eb] at h
      cases h
      rw [e, (show v = .bl i from h1), dBls_vals eb t]; rfl
  | .none :: _, _, _, h, _ => by cases h
  | .int _ :: _, _, _, h, _ => by cases h
  | .str _ :: _, _, _, h, _ => by cases h
  | .list _ :: _, _, _, h, _ => by cases h
  | .tuple _ :: _, _, _, h, _ => by cases h
  | .dict _ :: _, _, _, h, _ => by cases h
def dAll : List D → Option D
  | [.list ds] => (dBls ds).map fun bs => .bool (bs.all id)
  | _ => none
def dAny : List D → Option D
  | [.list ds] => (dBls ds).map fun bs => .bool (bs.any id)
  | _ => none
theorem p_all : PrimL K dAll (rAll K) := fun G H xs ds d Q s vw e q => by
  unfold dAll at e
  split at e
  · rename_i ds
    obtain ⟨v, rfl, v⟩ := vwl1 vw
    obtain ⟨a, xs, rfl, ha, ra⟩ := v.lst s
    cases eb : dBls ds with
    | none => rw [eb] at e; cases e
    | some bs =>
      rw [eb] at e
      cases e
      rw [dBls_vals eb ra] at ha
      exact ⟨a, bs, rfl, .inl (.inl ha), q _ H (.inl ⟨rfl, rfl⟩)⟩
  · cases e
theorem p_any : PrimL K dAny (rAny K) := fun G H xs ds d Q s vw e q => by
  unfold dAny at e
  split at e
  · rename_i ds
    obtain ⟨v, rfl, v⟩ := vwl1 vw
    obtain ⟨a, xs, rfl, ha, ra⟩ := v.lst s
    cases eb : dBls ds with
    | none => rw [eb] at e; cases e
    | some bs =>
      rw [eb] at e
      cases e
      rw [dBls_vals eb ra] at ha
      exact ⟨a, bs, rfl, .inl (.inl ha), q _ H (.inl ⟨rfl, rfl⟩)⟩
  · cases e
end

set_option autoImplicit false
section
variable {X : Cx} {c : Ct} {F : Fr} {ρ : Env} {σ : L2.St} {G H : Hp} {K : PySem.W.Frag} {e a b d : Expr} {es : List Expr} {pos p p2 p3 tpos : Pos}
def dTy : D → Option String
  | .none => some "NoneType"
  | .bool _ => some "bool"
  | .int _ => some "int"
  | .str _ => some "str"
  | .list _ => some "list"
  | .tuple _ => some "tuple"
  | .dict _ => none
def isB (t T : String) : Bool := t == T || (t == "bool" && T == "int")
theorem Vw.ty {d : D} {v : V} {t : String} (s : Sub G H) (h : Vw K G H d v) (e : dTy d = some t) : TyX K H v (.type t) := by
  cases d with
  | none => cases e; rw [h.non]; exact .base .non
  | bool b => cases e; rw [h.bl]; exact .base (.bl b)
  | int b => cases e; rw [h.int]; exact .base (.int b)
  | str b => cases e; rw [h.str]; exact .base (.str b)
  | list ds => cases e; obtain ⟨a, xs, rfl, ha, _⟩ := h.lst s; exact .base (.lst ha)
  | tuple ds => cases e; obtain ⟨a, xs, rfl, ha, _⟩ := h.tup s; exact .base (.tup ha)
  | dict _ => cases e
theorem kit_isB {d : D} {t T : String} (e : dTy d = some t) (hT : T = "int" ∨ T = "bool" ∨ T = "str" ∨ T = "list" ∨ T = "tuple") : PySem.W.kitOne K (.type t) (.type T) = some (isB t T) := by
  refine kit_ty ?_
  cases d <;> cases e <;> rcases hT with rfl | rfl | rfl | rfl | rfl <;> decide +kernel
def mIsi (Ts : List String) (o : Opd) : ME := fun ρ => (o.ev ρ).then fun x ρ' => match (o.fin x ρ').bind dTy with
  | some t => .ok (.bool (Ts.any fun T => isB t T)) ρ'
  | none => .stuck
theorem pa_ty {T : String} {x : Str} (hg : Gl X x) (hm : X.mg x = none) (hv : bootBuiltins x = some (.type T)) (hn : x ≠ "__name__" := by decide) (hd : (x == ("__debug__" : Str)) = false := by decide) : PE X (.Name x pos) (tC (.ty T)) := pe_bltn hg hm hv rfl hn hd
theorem me_isi {o : Opd} {T : String} {x : Str} (hK : X.K = c.K) (hi : Gl X "isinstance") (hmi : X.mg "isinstance" = none) (hg : Gl X x) (hm : X.mg x = none) (hv : bootBuiltins x = some (.type T)) (he : PE X e (tO c o)) (hT : T = "int" ∨ T = "bool" ∨ T = "str" ∨ T = "list" ∨ T = "tuple" := by decide) (hn : x ≠ "__name__" := by decide) (hd : (x == ("__debug__" : Str)) = false := by decide)
    (hs : starEach [e, .Name x p2] X.env = (false, eval e X.env) :: starEach [.Name x p2] X.env := by rfl) (hs2 : starEach [.Name x p2] X.env = (false, eval (.Name x p2) X.env) :: starEach [] X.env := by rfl) (hpl : (backTo pos (starEach [.Name x p2] X.env)).any (·.1) = false := by rfl) :
    PE X (.Call (.Name "isinstance" p) [e, .Name x p2] [] pos) (tE c (mIsi [T] o)) :=
  pe_conseq (pe_callB call_isi hi hmi boot_isinstance (pa_cons he (pa_cons (pa_ty hg hm hv hn hd) pa_nil hs2) hs) (he := hs) (hpl := hpl)) fun σ H Q ⟨F, ρ, G, S, a⟩ => by
    show tO c o σ H fun x H1 => rIsi X.K [x, .ty T] H1 Q
    refine tO_ev S ((Ask.then a).imp (GLe.refl G) fun x ρ1 a1 v H1 G1 S1 g1 p1 => ?_)
    cases ef : o.fin x ρ1 with
    | none => rw [ef] at a1; exact a1.elim
    | some d =>
      rw [ef] at a1
      cases et : dTy d with
      | none => simp only [Option.bind_some, et] at a1; exact a1.elim
      | some t =>
        simp only [Option.bind_some, et] at a1
        rw [hK]
        refine ⟨v, .ty T, .type t, .type T, isB t T, rfl, .ty T, (p1.vw S1 ef).ty S1.sub et, kit_isB et hT, ?_⟩
        have z := a1 (.bl (isB t T)) H1 G1 S1 g1
        simp only [List.any_cons, List.any_nil, Bool.or_false] at z
        exact z rfl
variable {α : Type}
def ins (le : α → α → Bool) (a : α) : List α → List α
  | [] => [a]
  | b :: l => if le a b = true then a :: b :: l else b :: ins le a l
def isort (le : α → α → Bool) : List α → List α
  | [] => []
  | a :: l => ins le a (isort le l)
theorem ins_perm (le : α → α → Bool) (a : α) : ∀ l : List α, (ins le a l).Perm (a :: l)
  | [] => List.Perm.refl _
  | b :: l => by
    unfold ins
    by_cases h : le a b = true
    · rw [if_pos h]
    · rw [if_neg h]
      exact ((ins_perm le a l).cons b).trans (List.Perm.swap a b l)
theorem isort_perm (le : α → α → Bool) : ∀ l : List α, (isort le l).Perm l
  | [] => List.Perm.refl _
  | a :: l => (ins_perm le a (isort le l)).trans ((isort_perm le l).cons a)
theorem ins_sorted {le : α → α → Bool} (tr : ∀ a b c, le a b = true → le b c = true → le a c = true) (tot : ∀ a b, le a b = true ∨ le b a = true) (a : α) : ∀ {l : List α}, l.Pairwise (fun x y => le x y = true) → (ins le a l).Pairwise fun x y => le x y = true
  | [], _ => List.pairwise_singleton _ _
  | b :: l, h => by
    unfold ins
    have hb := List.pairwise_cons.mp h
    by_cases q : le a b = true
    · rw [if_pos q]
      refine List.pairwise_cons.mpr ⟨fun z hz => ?_, h⟩
      rcases List.mem_cons.mp hz with e | hz
      · rw [e]; exact q
      · exact tr _ _ _ q (hb.1 z hz)
    · rw [if_neg q]
      refine List.pairwise_cons.mpr ⟨fun z hz => ?_, ins_sorted tr tot a hb.2⟩
      rcases List.mem_cons.mp ((ins_perm le a l).mem_iff.mp hz) with e | hz
      · rw [e]; exact (tot a b).resolve_left q
      · exact hb.1 z hz
theorem isort_sorted {le : α → α → Bool} (tr : ∀ a b c, le a b = true → le b c = true → le a c = true) (tot : ∀ a b, le a b = true ∨ le b a = true) : ∀ l : List α, (isort le l).Pairwise fun x y => le x y = true
  | [] => List.Pairwise.nil
  | a :: l => ins_sorted tr tot a (isort_sorted tr tot l)
def sortI (ns : List Int) : List Int := isort (fun a b => decide (a ≤ b)) ns
theorem sortI_uniq {ns ms : List Int} (h : ms.Perm ns) (hs : ms.Pairwise (· ≤ ·)) : ms = sortI ns := by
  refine List.Perm.eq_of_pairwise (le := (· ≤ ·)) (fun a b _ _ h1 h2 => Int.le_antisymm h1 h2) hs ?_ (h.trans (isort_perm _ _).symm)
  exact (isort_sorted (le := fun a b : Int => decide (a ≤ b)) (fun a b c h1 h2 => by simp at *; omega) (fun a b => by simp; omega) ns).imp fun h => by simpa using h
def leP (p q : Int × Int) : Bool := !SrtO.lexB q p
theorem leP_iff {p q : Int × Int} : leP p q = true ↔ p.1 < q.1 ∨ (p.1 = q.1 ∧ p.2 ≤ q.2) := by
  unfold leP
  rw [Bool.not_eq_true', SrtO.lexB_no]
  omega
def sortP (ps : List (Int × Int)) : List (Int × Int) := isort leP ps
theorem sortP_uniq {ns ms : List (Int × Int)} (h : ms.Perm ns) (hs : ms.Pairwise fun x y => leP x y = true) : ms = sortP ns := by
  refine List.Perm.eq_of_pairwise (le := fun x y => leP x y = true) (fun a b _ _ h1 h2 => ?_) hs (isort_sorted (fun a b c h1 h2 => ?_) (fun a b => ?_) ns) (h.trans (isort_perm _ _).symm)
  · rw [leP_iff] at h1 h2
    obtain ⟨a1, a2⟩ := a
    obtain ⟨b1, b2⟩ := b
    simp only at h1 h2
    rw [show a1 = b1 by omega, show a2 = b2 by omega]
  · rw [leP_iff] at *
    omega
  · rw [leP_iff, leP_iff]
    omega
def pairD (p : Int × Int) : D := .tuple [.int p.1, .int p.2]
def dPairs : List D → Option (List (Int × Int))
  | [] => some []
  | .tuple [.int i, .int j] :: r => (dPairs r).map fun is => (i, j) :: is
  | _ :: _ => none
theorem dPairs_of : ∀ is : List (Int × Int), dPairs (is.map pairD) = some is
  | [] => rfl
  | i :: is => by
    show (dPairs (is.map pairD)).map _ = _
    rw [dPairs_of is]; rfl
theorem dPairs_map : ∀ {ds : List D} {is : List (Int × Int)}, dPairs ds = some is → ds = is.map pairD
  | [], _, h => by cases h; rfl
  | d :: r, is, h => by
    unfold dPairs at h
    split at h
    · rename_i e0; cases e0
    · rename_i i j r' e1
      cases e1
      cases e : dPairs r with
      | none => rw [e] at h; cases h
      | some is' =>
        rw [e] at h
        cases h
        rw [dPairs_map e]; rfl
    · cases h
def dSort : List D → Option D
  | [.list ds] => (match dInts ds with
    | some is => some (.list ((sortI is).map PyData.int))
    | none => (match dPairs ds with
      | some ps => some (.list ((sortP ps).map pairD))
      | none => none))
  | _ => none
/-- the ints of a pair's value -/
noncomputable def keyOf (H : Hp) : V → Int × Int
  | .ref a => (match H a with
    | some (.tup [.int i, .int j]) => (i, j)
    | _ => (0, 0))
  | _ => (0, 0)
theorem RpL.pairs (s : Sub G H) : ∀ {ps : List (Int × Int)} {vs : List V}, RpL K G (ps.map pairD) vs → vs.map (keyOf H) = ps ∧ ∀ x ∈ vs, ∃ t, x = V.ref t ∧ H t = some (.tup [.int (keyOf H x).1, .int (keyOf H x).2]) ∧ Rp K G (pairD (keyOf H x)) x
  | [], _, h => by cases (show _ = _ from h); exact ⟨rfl, fun x hx => by cases hx⟩
  | p :: ps, _, ⟨v, r, e, h, t⟩ => by
    subst e
    obtain ⟨h1, h2⟩ := RpL.pairs s t
    have h' := h
    obtain ⟨a, xs, e, q, v1, r1, ex, e1, v2, r2, ey, e2, e3⟩ := h
    have e3' : r2 = [] := e3
    have e1' : v1 = .int p.1 := e1
    have e2' : v2 = .int p.2 := e2
    subst e ex ey e3' e1' e2'
    have ha := s.tup q
    have ek : keyOf H (V.ref a) = p := by
      show (match H a with
        | some (.tup [.int i, .int j]) => (i, j)
        | _ => (0, 0)) = p
      rw [ha]
    refine ⟨by rw [List.map_cons, h1, ek], fun x hx => ?_⟩
    rcases List.mem_cons.mp hx with e | hx
    · subst e
      exact ⟨a, rfl, by rw [ek]; exact ha, by rw [ek]; exact h'⟩
    · exact h2 x hx
theorem RpL.build {f : V → D} : ∀ {vs : List V}, (∀ v ∈ vs, Rp K G (f v) v) → RpL K G (vs.map f) vs
  | [], _ => rfl
  | v :: vs, h => ⟨v, vs, rfl, h v List.mem_cons_self, RpL.build fun u hu => h u (List.mem_cons_of_mem _ hu)⟩
theorem p_sort : PrimNL K dSort (fun vs H Q => rSortedI K vs H Q ∨ rSortedPO K vs H Q) := fun G H xs ds d Q s vw e q => by
  unfold dSort at e
  split at e
  · rename_i ds
    obtain ⟨v, rfl, v⟩ := vwl1 vw
    obtain ⟨a, xs, rfl, ha, ra⟩ := v.lst s
    split at e
    · rename_i is ei
      cases e
      rw [dInts_map ei] at ra
      rw [ra.ints] at ha
      refine .inl ⟨a, is, rfl, .inl (.inl ha), fun ns p hp hs hn => ?_⟩
      rw [sortI_uniq hp hs]
      exact q _ _ ⟨p, _, rfl, hn, rfl, .lst (.of_ints _), trivial⟩
    · split at e
      · rename_i ps ep
        cases e
        rw [dPairs_map ep] at ra
        obtain ⟨h1, h2⟩ := ra.pairs s
        refine .inr ⟨a, xs, keyOf H, rfl, .inl (.inl ha), fun x hx => ?_, fun ys p hs hb hn => ?_⟩
        · obtain ⟨t, e1, e2, _⟩ := h2 x hx
          exact ⟨t, e1, e2⟩
        · have er : (ys.map (keyOf H)) = sortP ps := by
            refine sortP_uniq (by rw [← h1]; exact hb.perm.map _) ?_
            refine List.pairwise_map.mpr (hs.imp fun {x y} h => ?_)
            have h' : SrtO.lexB (keyOf H y) (keyOf H x) = false := h
            unfold leP
            rw [h']; rfl
          refine q _ _ ⟨p, _, rfl, hn, rfl, .lst ?_, trivial⟩
          rw [← er, List.map_map]
          exact RpL.build fun v hv => (h2 v (hb.perm.mem_iff.mp hv)).choose_spec.2.2
      · cases e
  · cases e
theorem fe_sort {o : Opd} (hK : X.K = c.K) (hg : Gl X "sorted") (hm : X.mg "sorted" = none) (ha : PA X [e] (tOs c [o]))
    (he : starEach [e] X.env = (false, eval e X.env) :: starEach [] X.env := by rfl) : PE X (.Call (.Name "sorted" p) [e] [] pos) (tF c (mFn dSort [o])) := by
  refine fe_fnB (c := c) (r := fun vs H Q => rSortedI X.K vs H Q ∨ rSortedPO X.K vs H Q) (cr_sortedI.or cr_sortedPO) ?_ hg hm boot_sorted ha (he := he)
  rw [hK]
  exact p_sort
end

set_option autoImplicit false
section
variable {X : Cx} {c : Ct} {F : Fr} {ρ : Env} {σ : L2.St} {G H : Hp} {K : PySem.W.Frag} {e a b d : Expr} {es : List Expr} {pos p p2 p3 tpos : Pos}
def mDict0 : ME := fun ρ => .ok (.dict []) ρ
theorem fe_dict0 : PE X (.Dict [] [] pos) (tF c mDict0) := pe_conseq pe_dnewK fun σ H Q ⟨F, ρ, G, S, a⟩ p hp =>
  a p _ G (S.alloc (o := .dK []) hp trivial) (GLe.refl G) (NewAt.of S hp (.dK rfl) trivial)
def evp : List (ME × ME) → Env → Rs (List (D × D))
  | [], ρ => .ok [] ρ
  | (k, v) :: r, ρ => (k ρ).then fun kd ρ1 => (v ρ1).then fun vd ρ2 => (evp r ρ2).then fun ps ρ3 => .ok ((kd, vd) :: ps) ρ3
def mDict (ms : List (ME × ME)) : ME := fun ρ => (evp ms ρ).then fun ps ρ' => if (ps.all fun p => (toK1 p.1).isSome) = true ∧ ps.length ≤ 15 then .ok (.dict (ps.foldl (fun acc p => dPutV acc p.1 p.2) [])) ρ' else .stuck
def Cal (P : Program) (w : World) (K : PySem.W.Frag) (mg : Str → Option Value) (base : Heap) (T : List (Addr × Str)) (x : Str) (k n : Nat) (f : FM) : Prop :=
  ∃ (fa : Addr) (fd : FuncData) (ps : List Str), FnOk P w K mg base (L2.CX P w) k fa fd ps (spM K T mg n f) ∧ mg x = some (.ref fa) ∧ PySem.W.keepIn K (.ref fa) = true ∧ Binds K fd ps []
theorem me_cal {k j : Nat} {x : Str} {n : Nat} {m : FM} {as : List Arg} (C : Cal X.prog X.w X.K X.mg X.base c.T x j n m) (hK : c.K = X.K) (hG : c.mg = X.mg) (hr : Room k X.A) (tk : Takes X c.W) (hg : Gl X x) (ha : PA X (e :: es) (tAs c as)) (hj : j ≤ k := by decide) (hl : as.length = n := by rfl) (hnd : (ioIx as).Nodup := by decide)
    (hdb : (x == ("__debug__" : Str)) = false := by decide) (he : starEach (e :: es) X.env = (false, eval e X.env) :: starEach es X.env := by rfl) (hpl : (backTo pos (starEach es X.env)).any (·.1) = false := by rfl) :
    PE X (.Call (.Name x p) (e :: es) [] pos) (tE c (mCall m as)) := by
  obtain ⟨fa, fd, ps, Fn, hm, hk, hb⟩ := C
  rw [← hK, ← hG] at Fn
  refine me_call (k := j) ?_ (hr.mono hj) tk hg hm hk hb ha hl hnd hdb he hpl
  rw [hK, hG] at Fn ⊢
  exact Fn
theorem room65 {k : Nat} {A : Around} (hr : Room k A) : A.units + 65 < cLine := by have := hr.un; omega
theorem room1 {k : Nat} {A : Around} (hr : Room k A) : A.units + 1 < cLine := by have := hr.un; omega
theorem room64 {k : Nat} {A : Around} (hr : Room k A) : A.units + 64 < cLine := by have := hr.un; omega
theorem room0 {k : Nat} {A : Around} (hr : Room k A) : A.units < cLine := by have := hr.un; omega
end

set_option autoImplicit false
section
variable {X : Cx} {c : Ct} {F : Fr} {ρ : Env} {σ : L2.St} {G H : Hp} {e a b d : Expr} {es : List Expr} {pos pos' p p2 p3 tpos : Pos}
def vbm : List Value := [.type "ValueError", .type "Exception", .type "BaseException", .type "object"]
/-- an own error of the text, without an __init__ -/
def ER (K : PySem.W.Frag) (mg : Str → Option Value) (x : Str) : Prop := ∃ C : Addr, mg x = some (.ref C) ∧ PySem.W.excIn K C vbm "ValueError.__new__" = true ∧ PySem.W.keepIn K (.ref C) = true ∧
  PySem.W.subIn K (.ref C) (.type "BaseException") = some true ∧ PySem.W.typeIn K (.ref C) = some (.type "type")
theorem st_raiseE {x : Str} (hc : X.calm = true) (tk : Takes X c.W) (h : ER X.K X.mg x) (hG : c.mg = X.mg) (hg : Gl X x) (hdb : (x == ("__debug__" : Str)) = false := by decide) : PS X (.Raise (some (.Call (.Name x p) [] [] pos)) none pos') (tS c (sRaise x)) := by
  obtain ⟨C, gC, q, kC, bC, tC⟩ := h
  exact st_raise0 hc tk PySem.F.excBase_ValueError q gC (by rw [hG]; exact gC) kC (raises_own bC tC) hg hdb
theorem me_gstr {x z : Str} {pos : Pos} (hg : Gl X x) (hm : ∃ t, X.mg x = some (.str z t)) (hd : (x == ("__debug__" : Str)) = false := by decide) : PE X (.Name x pos) (tE c (mLit (.str z))) := by
  obtain ⟨t, hm⟩ := hm
  exact pe_conseq (pe_glob (v := .str z) hg hm ⟨t, rfl⟩ hd) fun _ _ _ h => tE_lit (d := .str z) (fun _ => rfl) h
theorem takes_no : Takes X (fun _ _ _ _ => False) := fun u s' ⟨a, B, sI, pins, σ, H, cls, d, e, I, nb, up, sky, na, os, ag, w⟩ => w.elim
end

set_option autoImplicit false
structure FrLe (F F' : Fr) : Prop where
  fg : ∀ a u, F.fg a = some u → F'.fg a = some u
  dom : ∀ a, F.dom a → F'.dom a
  io : F'.io = F.io
  wf : ∀ a u, F.fg a = some u → F.dom a
  ioD : ∀ q ∈ F.io, F.dom q.2
theorem FrLe.plus {F F' : Fr} (h : FrLe F F') {q : Addr} {o : HO} (n : ¬ F.dom q) : FrLe F (F'.plus q o) := by
  refine ⟨fun a u e => ?_, fun a e => .inl (h.dom a e), h.io, h.wf, h.ioD⟩
  have ne : a ≠ q := fun z => n (by rw [← z]; exact h.wf a u e)
  show upd F'.fg q o a = some u
  rw [upd_ne ne]
  exact h.fg a u e
section
variable {X : Cx} {c : Ct} {F F' : Fr} {ρ : Env} {σ : L2.St} {G H : Hp} {e a b : Expr} {pos pos' p2 p3 apos : Pos}
theorem State.down (h : FrLe F F') (S : State c F' ρ σ G H) : State c F ρ σ G H where
  sub := S.sub
  fg := fun a u e => S.fg a u (h.fg a u e)
  wf := fun a u e => by
    obtain ⟨_, h2, h3⟩ := S.wf a u (h.fg a u e)
    exact ⟨h.wf a u e, fun i => by rw [← h.io]; exact h2 i, h3⟩
  dom := fun a e => S.dom a (h.dom a e)
  tab := S.tab
  tabG := S.tabG
  len := S.len
  sl := fun i s e => by
    have z := S.sl i s e
    cases s with
    | no => trivial
    | fz d => exact z
    | own d =>
      obtain ⟨p, e1, e2, e3⟩ := z
      exact ⟨p, e1, e2, e3.imp (fun n hd => n (h.dom p hd)) fun m => by rw [← h.io]; exact m⟩
  apart := S.apart
  io := fun q hq => S.io q (by rw [h.io]; exact hq)
  ios := by rw [← h.io]; exact S.ios
  ioD := h.ioD
  tupG := S.tupG
theorem State.frLe (S : State c F ρ σ G H) : FrLe F F := ⟨fun _ _ h => h, fun _ h => h, rfl, fun a u e => (S.wf a u e).1, S.ioD⟩
theorem plus_same {q : Addr} {o : HO} (h : F.fg q = some o) (hd : F.dom q) : F.plus q o = F := by
  have e1 : upd F.fg q o = F.fg := by
    funext a
    by_cases z : a = q
    · subst z; rw [upd_same, h]
    · rw [upd_ne z]
  have e2 : (fun a => F.dom a ∨ a = q) = F.dom := by
    funext a
    exact propext ⟨fun z => z.elim id fun e => by rw [e]; exact hd, .inl⟩
  show (⟨upd F.fg q o, fun a => F.dom a ∨ a = q, F.io⟩ : Fr) = F
  rw [e1, e2]
/-- a foreign object's contents change -/
theorem State.reFg {q : Addr} {o o' : HO} (S : State c F ρ σ G H) (h : F.fg q = some o) (hm : Mut (some o)) (hm' : Mut (some o')) (ht : ∀ ps, o' ≠ .tbl ps) (hcd : ∀ k r, o ≠ CodeO k r) : State c (F.plus q o') ρ σ G (upd H q o') := by
  rw [← plus_same h (S.wf q o h).1] at S
  have z := State.rePlus hm hm' ht hcd S
  have e : (F.plus q o).plus q o' = F.plus q o' := by
    have e1 : upd (upd F.fg q o) q o' = upd F.fg q o' := upd_upd
    have e2 : (fun a => (F.dom a ∨ a = q) ∨ a = q) = fun a => F.dom a ∨ a = q := by
      funext a
      exact propext ⟨fun z => z.elim id .inr, .inl⟩
    show (⟨upd (upd F.fg q o) q o', fun a => (F.dom a ∨ a = q) ∨ a = q, F.io⟩ : Fr) = ⟨upd F.fg q o', fun a => F.dom a ∨ a = q, F.io⟩
    rw [e1, e2]
  exact z
theorem nodup_ix {α : Type} {l : List α} (h : l.Nodup) {i j : Nat} {a : α} (hi : l[i]? = some a) (hj : l[j]? = some a) : i = j := by
  obtain ⟨l1, g1⟩ := List.getElem?_eq_some_iff.mp hi
  obtain ⟨l2, g2⟩ := List.getElem?_eq_some_iff.mp hj
  have q := List.pairwise_iff_getElem.mp h
  rcases Nat.lt_trichotomy i j with z | z | z
  · exact absurd (g1.trans g2.symm) (q i j l1 l2 z)
  · exact z
  · exact absurd (g2.trans g1.symm) (q j i l2 l1 z)
/-- the list of lists at p, its lists at qs -/
structure DL (K : PySem.W.Frag) (F' : Fr) (G : Hp) (p : Addr) (qs : List Addr) (dss : List (List D)) : Prop where
  top : F'.fg p = some (.lst (qs.map V.ref))
  nd : (p :: qs).Nodup
  len : qs.length = dss.length
  inn : ∀ (j : Nat) (q : Addr) (ds : List D), qs[j]? = some q → dss[j]? = some ds → ∃ xs, F'.fg q = some (.lst xs) ∧ RpL K G ds xs
theorem DL.mono {K : PySem.W.Frag} {G G' : Hp} {p : Addr} {qs : List Addr} {dss : List (List D)} (h : DL K F' G p qs dss) (g : GLe G G') : DL K F' G' p qs dss :=
  ⟨h.top, h.nd, h.len, fun j q ds e1 e2 => by
    obtain ⟨xs, h1, h2⟩ := h.inn j q ds e1 e2
    exact ⟨xs, h1, RpL.mono g _ _ h2⟩⟩
/-- one of its lists changes -/
theorem DL.set {K : PySem.W.Frag} {p q : Addr} {qs : List Addr} {dss : List (List D)} {j : Nat} {ds : List D} {xs : List V} (h : DL K F' G p qs dss) (ej : qs[j]? = some q) (r : RpL K G ds xs) : DL K (F'.plus q (.lst xs)) G p qs (dss.set j ds) := by
  have nd := List.nodup_cons.mp h.nd
  have mq : q ∈ qs := List.mem_of_getElem? ej
  refine ⟨?_, h.nd, by rw [List.length_set]; exact h.len, fun i r' es e1 e2 => ?_⟩
  · show upd F'.fg q (.lst xs) p = _
    rw [upd_ne (fun z => nd.1 (by rw [z]; exact mq))]
    exact h.top
  · by_cases z : i = j
    · subst z
      rw [ej] at e1
      cases e1
      have hl : i < dss.length := by rw [← h.len]; exact (List.getElem?_eq_some_iff.mp ej).1
      rw [List.getElem?_set_self hl] at e2
      cases e2
      exact ⟨xs, by show upd F'.fg q (.lst xs) q = _; exact upd_same, r⟩
    · rw [List.getElem?_set_ne (fun w => z w.symm)] at e2
      obtain ⟨ys, h1, h2⟩ := h.inn i r' es e1 e2
      refine ⟨ys, ?_, h2⟩
      have ne : r' ≠ q := fun w => by
        subst w
        exact z (nodup_ix nd.2 e1 ej)
      show upd F'.fg q (.lst xs) r' = _
      rw [upd_ne ne]
      exact h1
inductive DR where
  | nx (dss : List (List D)) (ρ : Env) | stuck
abbrev DM := List (List D) → Env → DR
def Rs.dr {α : Type} : Rs α → (α → Env → DR) → DR
  | .ok a ρ, f => f a ρ
  | _, _ => .stuck
structure DS (c : Ct) (i : Nat) (F F' : Fr) (ρ : Env) (σ : L2.St) (G H : Hp) (p : Addr) (qs : List Addr) (dss : List (List D)) : Prop where
  st : State c F' ρ σ G H
  le : FrLe F F'
  dl : DL c.K F' G p qs dss
  nd : ∀ a ∈ p :: qs, ¬ F.dom a
  at_ : σ[i]? = some (some (.ref p))
def DAsk (c : Ct) (i : Nat) (F : Fr) (G : Hp) (p : Addr) (qs : List Addr) (D : Ends) : DR → Prop
  | .nx dss ρ => ∀ F' σ H G', DS c i F F' ρ σ G' H p qs dss → GLe G G' → D.nx σ H
  | .stuck => False
theorem DAsk.mono {i : Nat} {G1 : Hp} {p : Addr} {qs : List Addr} {D : Ends} {r : DR} (g : GLe G G1) (h : DAsk c i F G p qs D r) : DAsk c i F G1 p qs D r := by
  cases r with
  | nx dss ρ => exact fun F' σ H G' d gl => h F' σ H G' d (g.trans gl)
  | stuck => exact h
def tD (c : Ct) (i : Nat) (m : DM) : TS := fun D σ H => ∃ F F' ρ G p qs dss, DS c i F F' ρ σ G H p qs dss ∧ DAsk c i F G p qs D (m dss ρ)
theorem DAsk.dr {i : Nat} {p : Addr} {qs : List Addr} {D : Ends} {α : Type} {r : Rs α} {f : α → Env → DR} (h : DAsk c i F G p qs D (r.dr f)) : Ask c F' σ G (fun a ρ => DAsk c i F G p qs D (f a ρ)) r := by
  cases r with
  | ok a ρ => exact h
  | ex e ρ => exact False.elim h
  | stuck => exact h
def dSeq (a b : DM) : DM := fun dss ρ => match a dss ρ with
  | .nx dss' ρ' => b dss' ρ'
  | .stuck => .stuck
theorem sd_cons {i : Nat} {st : Stmt} {rest : List Stmt} {m n : DM} (h : PS X st (tD c i m)) (h2 : PSs X rest (tD c i n)) : PSs X (st :: rest) (tD c i (dSeq m n)) := pss_conseq (pss_cons h h2) fun D σ H ⟨F, F', ρ, G, p, qs, dss, S, q⟩ => by
  unfold dSeq at q
  refine ⟨F, F', ρ, G, p, qs, dss, S, ?_⟩
  cases em : m dss ρ with
  | stuck => rw [em] at q; exact False.elim q
  | nx dss' ρ' =>
    rw [em] at q
    exact fun F2 σ' H' G' S' gl => ⟨F, F2, ρ', G', p, qs, dss', S', DAsk.mono gl q⟩
theorem sd_one {i : Nat} {st : Stmt} {m : DM} (h : PS X st (tD c i m)) : PSs X [st] (tD c i m) := pss_one h
def dForM (tm : TM) (b : DM) : List D → DM
  | [], dss, ρ => .nx dss ρ
  | d :: ds, dss, ρ => (tm d ρ).dr fun _ ρ1 => match b dss ρ1 with
    | .nx dss' ρ2 => dForM tm b ds dss' ρ2
    | .stuck => .stuck
def dFor (it : MI) (tm : TM) (b : DM) : DM := fun dss ρ => (it ρ).dr fun ds ρ' => dForM tm b ds dss ρ'
theorem sd_for {i : Nat} {tg iter : Expr} {body : List Stmt} {it : MI} {ts : List Nat} {tm : TM} {b : DM} (hp : PassesOwn (model X.prog X.w) X.A X.env X.xe) (hc : X.calm = true) (hi : PI X tg iter (tI c it)) (hg : PG X tg (tG c ts tm)) (hb : PSs X body (tD c i b)) (hit : i ∉ ts := by decide)
    (hs : ∀ x, foldedSetIterable iter X.env x = pure x := by intro _; rfl) : PS X (.For tg iter body [] pos) (tD c i (dFor it tm b)) := ps_conseq (ps_for hp hc hi hg hb hs) fun D σ H ⟨F, F', ρ, G, p, qs, dss, S, a⟩ => by
  refine ⟨F', ρ, G, S.st, (DAsk.dr a).imp (GLe.refl G) fun ds ρ1 k J H1 G1 S1 gl1 ito => ?_⟩
  refine ⟨fun n m σ H => m = ds.length - n ∧ n ≤ ds.length ∧ ∃ F' ρ G dss, DS c i F F' ρ σ G H p qs dss ∧ GLe G1 G ∧ DAsk c i F G p qs D (dForM tm b (ds.drop n) dss ρ), ⟨ds.length, rfl, Nat.zero_le _, F', ρ1, G1, dss, ⟨S1, S.le, S.dl.mono gl1, S.nd, S.at_⟩, GLe.refl _, DAsk.mono gl1 k⟩, ?_⟩
  rintro n m σ2 H2 ⟨rfl, hile, F2, ρ2, G2, dss2, S2, gl2, a2⟩
  obtain ⟨h1, h2⟩ := ito n H2 G2 gl2 S2.st.sub
  by_cases hlt : n < ds.length
  · obtain ⟨d, ed, edr⟩ := drop_at hlt
    rw [edr] at a2
    obtain ⟨hgo, hy⟩ := h1 d ed
    refine .inr ⟨hgo, fun σ' H' => ∃ F' ρ' G' dss', DS c i F F' ρ' σ' G' H' p qs dss' ∧ GLe G1 G' ∧ DAsk c i F G' p qs D (dForM tm b (ds.drop (n + 1)) dss' ρ'), fun σ' H' ⟨F', ρ', G', dss', S', gl', a'⟩ => ⟨ds.length - (n + 1), by omega, rfl, hlt, F', ρ', G', dss', S', gl', a'⟩, fun x H' y => ?_⟩
    obtain ⟨G3, S3, gl3, r3⟩ := (hy x H' y).state S2.st
    refine ⟨F2, ρ2, G3, d, S3, r3, ?_⟩
    have a3 : DAsk c i F G2 p qs D ((tm d ρ2).dr fun _ ρ1 => match b dss2 ρ1 with
      | .nx dss' ρ2 => dForM tm b (ds.drop (n + 1)) dss' ρ2
      | .stuck => .stuck) := a2
    cases et : tm d ρ2 with
    | stuck => rw [et] at a3; exact a3
    | ex e ρ' => rw [et] at a3; exact False.elim a3
    | ok u ρ' =>
      rw [et] at a3
      intro σ' H4 G4 S4 gl4 ⟨_, hk⟩
      have g34 := gl3.trans gl4
      refine ⟨F, F2, ρ', G4, p, qs, dss2, ⟨S4, S2.le, S2.dl.mono g34, S2.nd, by rw [hk i hit]; exact S2.at_⟩, ?_⟩
      have a4 : DAsk c i F G2 p qs D (match b dss2 ρ' with
        | .nx dss' ρ2 => dForM tm b (ds.drop (n + 1)) dss' ρ2
        | .stuck => .stuck) := a3
      cases eb : b dss2 ρ' with
      | nx dss' ρ5 =>
        rw [eb] at a4
        exact fun F5 σ5 H5 G5 S5 gl5 => ⟨F5, ρ5, G5, dss', S5, gl2.trans (g34.trans gl5), DAsk.mono (g34.trans gl5) a4⟩
      | stuck => rw [eb] at a4; exact a4
  · have e : n = ds.length := by omega
    subst e
    rw [List.drop_length] at a2
    exact .inl ⟨h2 rfl, a2 F2 σ2 H2 G2 S2 (GLe.refl _)⟩
/-- the list that is meant -/
theorem DS.get {i : Nat} {p : Addr} {qs : List Addr} {dss : List (List D)} {k : Int} {j : Nat} {ds : List D} (S : DS c i F F' ρ σ G H p qs dss) (ek : ixN dss.length k = some j) (ed : dss[j]? = some ds) :
    ∃ q xs, H p = some (.lst (qs.map V.ref)) ∧ L2.atI (qs.map V.ref) k = some (.ref q) ∧ qs[j]? = some q ∧ F'.fg q = some (.lst xs) ∧ H q = some (.lst xs) ∧ RpL c.K G ds xs := by
  have hp := (S.st.fg p _ S.dl.top).1
  have hl : j < qs.length := by rw [S.dl.len]; exact (List.getElem?_eq_some_iff.mp ed).1
  have eq : qs[j]? = some qs[j] := List.getElem?_eq_getElem hl
  obtain ⟨xs, h1, h2⟩ := S.dl.inn j _ ds eq ed
  refine ⟨qs[j], xs, hp, ?_, eq, h1, (S.st.fg _ _ h1).1, h2⟩
  unfold L2.atI
  rw [List.length_map, S.dl.len, ek]
  show (qs.map V.ref)[j]? = _
  rw [List.getElem?_map, eq]
  rfl
/-- l[ix].append(e) -/
def dApp (ix : Opd) (m : ME) : DM := fun dss ρ => (ix.ev ρ).dr fun kx ρ1 => match ix.fin kx ρ1 with
  | some (.int k) => (match ixN dss.length k with
    | some j => (m ρ1).dr fun d ρ2 => (match dss[j]? with
      | some ds => if ds.length < sizeLine then .nx (dss.set j (ds ++ [d])) ρ2 else .stuck
      | none => .stuck)
    | none => .stuck)
  | _ => .stuck
theorem sd_app {i : Nat} {ix : Opd} {m : ME} {st : Stmt} (hK : X.K = c.K) (h : PS X st (tDrop (tBM X.K "list" rAppend (tOp (fun x y H Q => rIx X.K x y H Q ∨ rIxK x y H Q) (tVar i) (tO c ix)) (tMs c [m])))) : PS X st (tD c i (dApp ix m)) := ps_conseq h fun D σ H ⟨F, F', ρ, G, p, qs, dss, S, a⟩ => by
  rw [hK]
  refine ⟨.ref p, S.at_, ?_⟩
  refine tO_ev S.st ((DAsk.dr (F' := F') (σ := σ) a).imp (GLe.refl G) fun kx ρ1 a1 v H1 G1 S1 g1 p1 => ?_)
  have S1' : DS c i F F' ρ1 σ G1 H1 p qs dss := ⟨S1, S.le, S.dl.mono g1, S.nd, S.at_⟩
  split at a1
  · rename_i k ef
    split at a1
    · rename_i j ej
      have hj : j < dss.length := (ixN_seq ej).2.1
      obtain ⟨q, xs, hp, hat, hq, hf, hx, rx⟩ := S1'.get ej (List.getElem?_eq_getElem hj)
      have ev := (p1.vw S1 ef).int
      subst ev
      refine .inl (.inl ⟨p, _, k, _, rfl, rfl, .inl (.inl hp), hat, .inl ⟨rfl, xs, .inl (.inl hx)⟩, ?_⟩)
      refine ⟨F', ρ1, G1, S1, (DAsk.dr (F' := F') (σ := σ) a1).imp g1 fun d ρ2 a2 u H2 G2 S2 g2 r2 => ?_⟩
      have S2' : DS c i F F' ρ2 σ G2 H2 p qs dss := ⟨S2, S.le, S1'.dl.mono g2, S.nd, S.at_⟩
      rw [List.getElem?_eq_getElem hj] at a2
      simp only at a2
      by_cases hz : dss[j].length < sizeLine
      · rw [if_pos hz] at a2
        obtain ⟨q', xs', _, _, hq', hf', hx', rx'⟩ := S2'.get ej (List.getElem?_eq_getElem hj)
        rw [hq] at hq'
        cases hq'
        refine ⟨q, xs', u, rfl, rfl, hx', by rw [rx'.length]; exact hz, ?_⟩
        refine a2 _ σ _ G2 ⟨S2.reFg hf' trivial trivial (fun _ z => nomatch z) (fun k r z => by unfold CodeO at z; cases z), S.le.plus (S.nd q (List.mem_cons_of_mem _ (List.mem_of_getElem? hq))), S2'.dl.set hq (rx'.append (.one r2)), S.nd, S.at_⟩ (g1.trans g2)
      · rw [if_neg hz] at a2
        exact a2.elim
    · exact a1.elim
  · exact a1.elim
/-- l[ix][ix2] = e -/
def dPut (ix ix2 : Opd) (m : ME) : DM := fun dss ρ => (m ρ).dr fun d ρ0 => (ix.ev ρ0).dr fun kx ρ1 => match ix.fin kx ρ1 with
  | some (.int k) => (match ixN dss.length k with
    | some j => (ix2.ev ρ1).dr fun kx2 ρ2 => (match ix2.fin kx2 ρ2, dss[j]? with
      | some (.int k2), some ds => (match ixN ds.length k2 with
        | some j2 => .nx (dss.set j (ds.set j2 d)) ρ2
        | none => .stuck)
      | _, _ => .stuck)
    | none => .stuck)
  | _ => .stuck
theorem sd_put {i : Nat} {ix ix2 : Opd} {m : ME} {st : Stmt} (hK : X.K = c.K) (h : PS X st (tAsg (tE c m) (gSub (tOp (fun x y H Q => rIx X.K x y H Q ∨ rIxK x y H Q) (tVar i) (tO c ix)) (tO c ix2) rSetL))) : PS X st (tD c i (dPut ix ix2 m)) := ps_conseq h fun D σ H ⟨F, F', ρ, G, p, qs, dss, S, a⟩ => by
  rw [hK]
  refine ⟨F', ρ, G, S.st, (DAsk.dr a).imp (GLe.refl G) fun d ρ0 a0 u H0 G0 S0 g0 r0 => ?_⟩
  refine ⟨.ref p, S.at_, ?_⟩
  refine tO_ev S0 ((DAsk.dr (F' := F') (σ := σ) a0).imp g0 fun kx ρ1 a1 v H1 G1 S1 g1 p1 => ?_)
  have g01 := g0.trans g1
  have S1' : DS c i F F' ρ1 σ G1 H1 p qs dss := ⟨S1, S.le, S.dl.mono g01, S.nd, S.at_⟩
  split at a1
  · rename_i k ef
    split at a1
    · rename_i j ej
      have hj : j < dss.length := (ixN_seq ej).2.1
      obtain ⟨q, xs, hp, hat, hq, hf, hx, rx⟩ := S1'.get ej (List.getElem?_eq_getElem hj)
      have ev := (p1.vw S1 ef).int
      subst ev
      refine .inl (.inl ⟨p, _, k, _, rfl, rfl, .inl (.inl hp), hat, ?_⟩)
      refine tO_ev S1 ((DAsk.dr (F' := F') (σ := σ) a1).imp g01 fun kx2 ρ2 a2 w H2 G2 S2 g2 p2 => ?_)
      have S2' : DS c i F F' ρ2 σ G2 H2 p qs dss := ⟨S2, S.le, S1'.dl.mono g2, S.nd, S.at_⟩
      rw [List.getElem?_eq_getElem hj] at a2
      split at a2
      · rename_i k2 ds ef2 eds
        cases eds
        split at a2
        · rename_i j2 ej2
          have ev2 := (p2.vw S2 ef2).int
          subst ev2
          obtain ⟨q', xs', _, _, hq', hf', hx', rx'⟩ := S2'.get ej (List.getElem?_eq_getElem hj)
          rw [hq] at hq'
          cases hq'
          refine ⟨q, xs', k2, j2, rfl, rfl, hx', by rw [rx'.length]; exact ej2, ?_⟩
          refine a2 _ σ _ G2 ⟨S2.reFg hf' trivial trivial (fun _ z => nomatch z) (fun k r z => by unfold CodeO at z; cases z), S.le.plus (S.nd q (List.mem_cons_of_mem _ (List.mem_of_getElem? hq))), S2'.dl.set hq (rx'.set j2 (Rp.mono (g1.trans g2) _ _ r0)), S.nd, S.at_⟩ (g01.trans g2)
        · exact a2.elim
      · exact a2.elim
    · exact a1.elim
  · exact a1.elim
def asList : D → Option (List D)
  | .list l => some l
  | _ => none
theorem asList_eq {d : D} {l : List D} (h : asList d = some l) : d = .list l := by
  cases d <;> cases h
  rfl
def makeM (tm : TM) (mk : ME) (vs : List Nat) : List D → List (List D) → Env → Rs (List (List D))
  | [], acc, ρ => .ok acc ρ
  | d :: ds, acc, ρ => (tm d ρ).then fun _ ρ1 => (mk ρ1).then fun y ρ2 => match asList y with
    | some l => makeM tm mk vs ds (acc ++ [l]) (wipeE ρ2 vs)
    | none => .stuck
def sDeep (i : Nat) (it : MI) (tm : TM) (mk : ME) (vs : List Nat) (b : DM) (m3 : SM) : SM := fun ρ => (it ρ).sr fun ds ρ1 => if ds.length ≤ sizeLine ∧ i < ρ1.length then
    (match makeM tm mk vs ds [] (wipeE ρ1 vs) with
    | .ok dss ρe => (match b dss ((unwipe ρ1 ρe vs).set i .no) with
      | .nx dss' ρ2 => m3 (ρ2.set i (.fz (.list (dss'.map PyData.list))))
      | .stuck => .stuck)
    | _ => .stuck) else .stuck
theorem State.setNo (S : State c F ρ σ G H) {i : Nat} {v : V} (hi : i ∉ c.ios) : State c F (ρ.set i .no) (σ.set i (some v)) G H := by
  refine ⟨S.sub, S.fg, S.wf, S.dom, S.tab, S.tabG, by rw [List.length_set, List.length_set]; exact S.len, fun j s e => ?_, fun j k p x y h1 h2 h3 h4 => ?_, fun q hq => ?_, S.ios, S.ioD, S.tupG⟩
  · rcases get_set e with ⟨rfl, rfl⟩ | ⟨ne, e⟩
    · trivial
    · have q := S.sl j s e
      cases s with
      | no => trivial
      | fz d =>
        obtain ⟨u, e1, e2⟩ := q
        exact ⟨u, by rw [List.getElem?_set_ne ne]; exact e1, e2⟩
      | own d =>
        obtain ⟨p, e1, e2⟩ := q
        exact ⟨p, by rw [List.getElem?_set_ne ne]; exact e1, e2⟩
  · rcases get_set h1 with ⟨_, z⟩ | ⟨n1, h1⟩
    · cases z
    · rcases get_set h2 with ⟨_, z⟩ | ⟨n2, h2⟩
      · cases z
      · rw [List.getElem?_set_ne n1] at h3
        rw [List.getElem?_set_ne n2] at h4
        exact S.apart j k p x y h1 h2 h3 h4
  · rw [List.getElem?_set_ne (fun z => mem_ios S hi q hq z.symm)]
    exact S.io q hq
theorem DL.top_set {K : PySem.W.Frag} {p q : Addr} {qs : List Addr} {dss : List (List D)} {l : List D} {xs : List V} (h : DL K F' G p qs dss) (hq : q ∉ p :: qs) (r : RpL K G l xs) :
    DL K ((F'.plus q (.lst xs)).plus p (.lst ((qs ++ [q]).map V.ref))) G p (qs ++ [q]) (dss ++ [l]) := by
  have nd := List.nodup_cons.mp h.nd
  rw [List.mem_cons, not_or] at hq
  refine ⟨by show upd _ p _ p = _; exact upd_same, ?_, by rw [List.length_append, List.length_append, h.len]; rfl, fun j r' ds e1 e2 => ?_⟩
  · refine List.nodup_cons.mpr ⟨fun z => ?_, List.nodup_append.mpr ⟨nd.2, by simp, fun a ha b hb => ?_⟩⟩
    · rcases List.mem_append.mp z with z | z
      · exact nd.1 z
      · exact hq.1 (List.mem_singleton.mp z).symm
    · rw [List.mem_singleton.mp hb]
      exact fun z => hq.2 (by rw [← z]; exact ha)
  · have lt : j < qs.length + 1 := by
      have := (List.getElem?_eq_some_iff.mp e1).1
      rw [List.length_append] at this
      exact this
    have nep : r' ≠ p := fun z => by
      have m := List.mem_of_getElem? e1
      rw [z] at m
      rcases List.mem_append.mp m with m | m
      · exact nd.1 m
      · exact hq.1 (List.mem_singleton.mp m).symm
    by_cases z : j < qs.length
    · rw [List.getElem?_append_left z] at e1
      rw [List.getElem?_append_left (by rw [← h.len]; exact z)] at e2
      obtain ⟨ys, h1, h2⟩ := h.inn j r' ds e1 e2
      refine ⟨ys, ?_, h2⟩
      show upd (upd F'.fg q _) p _ r' = _
      rw [upd_ne nep, upd_ne (fun w => hq.2 (by rw [← w]; exact List.mem_of_getElem? e1))]
      exact h1
    · have ej : j = qs.length := by omega
      subst ej
      rw [List.getElem?_append_right (Nat.le_refl _), Nat.sub_self] at e1
      rw [h.len, List.getElem?_append_right (Nat.le_refl _), Nat.sub_self] at e2
      cases e1
      cases e2
      refine ⟨xs, ?_, r⟩
      show upd (upd F'.fg q _) p _ q = _
      rw [upd_ne nep, upd_same]
theorem frz_all : ∀ (qs : List Addr) (dss : List (List D)) {F : Fr} {ρ : Env} {G : Hp}, State c F ρ σ G H → qs.Nodup → qs.length = dss.length → (∀ (j : Nat) (q : Addr) (ds : List D), qs[j]? = some q → dss[j]? = some ds → NewAt c F ρ σ G H (.list ds) q) →
    ∃ G', State c F ρ σ G' H ∧ GLe G G' ∧ RpL c.K G' (dss.map PyData.list) (qs.map V.ref) ∧ ∀ a, a ∉ qs → G' a = G a
  | [], dss, F, ρ, G, S, _, hl, _ => by
    cases dss with
    | nil => exact ⟨G, S, GLe.refl _, rfl, fun _ _ => rfl⟩
    | cons _ _ => cases hl
  | q :: qs, dss, F, ρ, G, S, hn, hl, h => by
    cases dss with
    | nil => cases hl
    | cons ds dss =>
      have nd := List.nodup_cons.mp hn
      have n0 := h 0 q ds rfl rfl
      obtain ⟨hg, o, ho, hd, hm⟩ := id n0.1
      obtain ⟨S1, g1, r1⟩ := n0.freezeAt S ho
      have rest : ∀ (j : Nat) (r : Addr) (es : List D), qs[j]? = some r → dss[j]? = some es → NewAt c F ρ σ (upd G q o) H (.list es) r := fun j r es e1 e2 => by
        obtain ⟨⟨h1, o2, h2, h3, h4⟩, h5, h6⟩ := h (j + 1) r es e1 e2
        have ne : r ≠ q := fun z => nd.1 (by rw [← z]; exact List.mem_of_getElem? e1)
        exact ⟨⟨by rw [upd_ne ne]; exact h1, o2, h2, h3.mono g1, h4⟩, h5, h6⟩
      obtain ⟨G2, S2, g2, r2, k2⟩ := frz_all qs dss S1 nd.2 (by simpa using hl) rest
      refine ⟨G2, S2, g1.trans g2, ⟨.ref q, _, rfl, Rp.mono g2 _ _ r1, r2⟩, fun a ha => ?_⟩
      rw [List.mem_cons, not_or] at ha
      rw [k2 a ha.2, upd_ne ha.1]
theorem not_own {i : Nat} {q : Addr} {p : Addr} {qs : List Addr} {dss : List (List D)} (S : DS c i F F' ρ σ G H p qs dss) (hq : q ∈ p :: qs) : ∀ (j : Nat) (e : D), ρ[j]? = some (.own e) → σ[j]? ≠ some (some (V.ref q)) := fun j e ej es => by
  obtain ⟨r, e1, _, e3⟩ := S.st.own_at ej
  rw [es] at e1
  cases e1
  have hd : ∃ u, F'.fg q = some u := by
    rcases List.mem_cons.mp hq with z | z
    · exact ⟨_, by rw [z]; exact S.dl.top⟩
    · obtain ⟨k, hk⟩ := List.getElem?_of_mem z
      have hl : k < dss.length := by rw [← S.dl.len]; exact (List.getElem?_eq_some_iff.mp hk).1
      obtain ⟨xs, h1, _⟩ := S.dl.inn k q _ hk (List.getElem?_eq_getElem hl)
      exact ⟨_, h1⟩
  obtain ⟨u, hu⟩ := hd
  rcases e3 with e3 | e3
  · exact e3 (S.st.wf q u hu).1
  · exact (S.st.wf q u hu).2.1 j e3
/-- behind the loop: all is frozen, the slot holds the whole -/
theorem DS.close {i : Nat} {p : Addr} {qs : List Addr} {dss : List (List D)} (S : DS c i F F' ρ σ G H p qs dss) (hi : i ∉ c.ios) : ∃ G', State c F (ρ.set i (.fz (.list (dss.map PyData.list)))) σ G' H ∧ GLe G G' := by
  have S0 := S.st.down S.le
  have nd := List.nodup_cons.mp S.dl.nd
  have hp := S.st.fg p _ S.dl.top
  obtain ⟨G1, S1, g1, r1, k1⟩ := frz_all qs dss S0 nd.2 S.dl.len fun j q ds e1 e2 => by
    obtain ⟨xs, h1, h2⟩ := S.dl.inn j q ds e1 e2
    have hq := S.st.fg q _ h1
    have mq : q ∈ p :: qs := List.mem_cons_of_mem _ (List.mem_of_getElem? e1)
    exact ⟨⟨hq.2.none (fun _ _ z => nomatch z), _, hq.1, .lst h2, trivial⟩, S.nd q mq, not_own S mq⟩
  have np : NewAt c F ρ σ G1 H (.list (dss.map PyData.list)) p := ⟨⟨by rw [k1 p nd.1]; exact hp.2.none (fun _ _ z => nomatch z), _, hp.1, .lst r1, trivial⟩, S.nd p List.mem_cons_self, not_own S List.mem_cons_self⟩
  obtain ⟨S2, g2, r2⟩ := np.freezeAt S1 hp.1
  have z := S2.setFz (i := i) r2 hi
  have e : σ.set i (some (V.ref p)) = σ := by
    obtain ⟨hl, he⟩ := List.getElem?_eq_some_iff.mp S.at_
    rw [← he]
    exact List.set_getElem_self hl
  rw [e] at z
  exact ⟨_, z, g1.trans g2⟩
theorem ss_deep {i : Nat} {y : Str} {py spos : Pos} {elt tg iter : Expr} {scope : Scope} {own : List (Str × Nat)} {it : MI} {ts : List Nat} {tm : TM} {mk : ME} {st2 : Stmt} {rest : List Stmt} {b : DM} {m3 : SM} (hc : X.calm = true) (hN : X.N.Nodup) (hy : X.N[i]? = some y) (hyl : X.env.scope.names.lookup y = some .local) (hio : i ∉ c.ios) (hv : ∀ v ∈ own.map (·.2), v ∉ c.ios) (hts : ∀ v ∈ ts, v ∈ own.map (·.2))
    (hsw : swapsWith (.ListComp elt [⟨tg, iter, [], 0⟩] scope pos) (some (.Name y py)) spos.line X.env = pure true) (hi : PI X tg iter (tI c it)) (ok : BlkOk X.N X.env.scope scope own)
    (hg : ∀ (s : Shared) (H : Hp) (C : Addr) (cl : List (Str × Addr)) (fp : List Addr), PG (X.blk s H scope (compEnvC scope cl C X.env) fp) tg (tG c.nox ts tm))
    (he : ∀ (s : Shared) (H : Hp) (C : Addr) (cl : List (Str × Addr)) (fp : List Addr), PE (X.blk s H scope (compEnvC scope cl C X.env) fp) elt (tF c.nox mk))
    (h2 : PS X st2 (tD c i b)) (h3 : PSs X rest (tS c m3)) (hs : ∀ x, foldedSetIterable iter X.env x = pure x := by intro _; rfl) :
    PSs X (.Assign [.Name y py] (.ListComp elt [⟨tg, iter, [], 0⟩] scope pos) spos :: st2 :: rest) (tS c (sDeep i it tm mk (own.map (·.2)) b m3)) :=
  pss_conseq (pss_cons (ps_setLc hc hN hy hyl hsw hi ok hg (fun _ _ _ _ _ => mts_nil (c := c.nox)) he hs) (pss_cons h2 h3)) fun D σ H ⟨F, ρ, G, S, a⟩ => by
  generalize own.map (·.2) = vs at *
  refine ⟨F, ρ, G, S, (SAsk.sr a).imp (GLe.refl G) fun ds ρ1 k J H1 G1 S1 gl1 ito P hP => ?_⟩
  by_cases hz0 : ds.length ≤ sizeLine ∧ i < ρ1.length
  · rw [if_pos hz0] at k
    have hz := hz0.1
    cases er : makeM tm mk vs ds [] (wipeE ρ1 vs) with
    | stuck => rw [er] at k; exact False.elim k
    | ex e ρ' => rw [er] at k; exact False.elim k
    | ok dss ρe =>
      rw [er] at k
      simp only at k
      have n0 : NewAt c F ρ1 σ G1 (upd H1 P (.lst [])) (.list []) P := NewAt.of S1 hP (.lst rfl) trivial
      have S1' := S1.alloc (o := .lst []) hP trivial
      have nd := n0.2.1
      refine ⟨fun n m' H => m' = ds.length - n ∧ n ≤ ds.length ∧ ∃ F' ρ G acc qs, State c.nox F' ρ (L2.wipe σ vs) G H ∧ FrLe F F' ∧ F'.io = F.io ∧ DL c.K F' G P qs acc ∧ (∀ a ∈ P :: qs, ¬ F.dom a) ∧ GLe G1 G ∧ acc.length ≤ n ∧ makeM tm mk vs (ds.drop n) acc ρ = .ok dss ρe,
        ⟨ds.length, rfl, Nat.zero_le _, F.plus P (.lst []), wipeE ρ1 vs, G1, [], [], ((S1'.plus n0 upd_same).wipe hv).nox, S1.frLe.plus nd, rfl, ⟨by show upd F.fg P _ P = _; exact upd_same, by simp, rfl, fun j q ds e1 _ => by simp at e1⟩, fun a ha => by rw [List.mem_singleton.mp ha]; exact nd, GLe.refl _, Nat.le_refl _, er⟩, ?_⟩
      rintro n m' H2 ⟨rfl, hile, F2, ρ2, G2, acc, qs, S2, le2, io2, dl2, nd2, gl2, hacc, er2⟩
      obtain ⟨h1, h2'⟩ := ito n H2 G2 gl2 S2.sub
      by_cases hlt : n < ds.length
      · obtain ⟨d, ed, edr⟩ := drop_at hlt
        rw [edr] at er2
        obtain ⟨hgo, hyl2⟩ := h1 d ed
        refine .inr ⟨hgo, fun H => ∃ F' ρ G acc qs, State c.nox F' ρ (L2.wipe σ vs) G H ∧ FrLe F F' ∧ F'.io = F.io ∧ DL c.K F' G P qs acc ∧ (∀ a ∈ P :: qs, ¬ F.dom a) ∧ GLe G1 G ∧ acc.length ≤ n + 1 ∧ makeM tm mk vs (ds.drop (n + 1)) acc ρ = .ok dss ρe,
          fun H' ⟨F', ρ', G', acc', qs', q1, q2, q3, q4, q5, q6, q7, q8⟩ => ⟨ds.length - (n + 1), by omega, rfl, hlt, F', ρ', G', acc', qs', q1, q2, q3, q4, q5, q6, q7, q8⟩, fun x H' yy => ?_⟩
        obtain ⟨G3, S3, gl3, r3⟩ := (hyl2 x H' yy).state S2
        have e3 : (tm d ρ2).then (fun _ ρ1 => (mk ρ1).then fun y ρ2 => match asList y with
          | some l => makeM tm mk vs (ds.drop (n + 1)) (acc ++ [l]) (wipeE ρ2 vs)
          | none => .stuck) = .ok dss ρe := er2
        refine ⟨F2, ρ2, G3, d, S3, r3, ?_⟩
        cases et : tm d ρ2 with
        | stuck => rw [et] at e3; cases e3
        | ex e ρ' => rw [et] at e3; cases e3
        | ok u ρ4 =>
          rw [et] at e3
          intro σ4 H4 G4 S4 gl4 ⟨hl4, hk4⟩
          have ew : L2.wipe σ4 vs = L2.wipe σ vs := wipe_eq hl4 fun j hj => hk4 j fun z => hj (hts j z)
          refine ⟨ew, F2, ρ4, G4, S4, ?_⟩
          have g24 := gl3.trans gl4
          intro H5 G5 S5 gl5
          rw [if_pos rfl]
          have g25 := g24.trans gl5
          have e5 : (mk ρ4).then (fun y ρ2 => match asList y with
            | some l => makeM tm mk vs (ds.drop (n + 1)) (acc ++ [l]) (wipeE ρ2 vs)
            | none => .stuck) = .ok dss ρe := e3
          refine ⟨F2, ρ4, G5, S5, ?_⟩
          cases em : mk ρ4 with
          | stuck => rw [em] at e5; cases e5
          | ex e ρ' => rw [em] at e5; cases e5
          | ok yv ρ6 =>
            rw [em] at e5
            intro q H6 G6 S6 gl6 nq
            have e6 : (match asList yv with
              | some l => makeM tm mk vs (ds.drop (n + 1)) (acc ++ [l]) (wipeE ρ6 vs)
              | none => .stuck) = Rs.ok dss ρe := e5
            cases el : asList yv with
            | none => rw [el] at e6; cases e6
            | some l =>
              rw [el] at e6
              have eyv := asList_eq el
              subst eyv
              have g26 := g25.trans gl6
              obtain ⟨hg6, o6, ho6, hd6, hm6⟩ := id nq.1
              cases hd6 with
              | @lst _ xs rx =>
                have dl6 := dl2.mono g26
                have hqn : q ∉ P :: qs := fun z => by
                  refine nq.2.1 ?_
                  rcases List.mem_cons.mp z with z | z
                  · rw [z]; exact (S6.wf P _ dl6.top).1
                  · obtain ⟨k', hk'⟩ := List.getElem?_of_mem z
                    have hl' : k' < acc.length := by rw [← dl6.len]; exact (List.getElem?_eq_some_iff.mp hk').1
                    obtain ⟨ys, w1, _⟩ := dl6.inn k' q _ hk' (List.getElem?_eq_getElem hl')
                    exact (S6.wf q _ w1).1
                have hqP : q ≠ P := fun z => hqn (by rw [z]; exact List.mem_cons_self)
                have S7 := S6.plus nq ho6
                have top7 : (F2.plus q (.lst xs)).fg P = some (.lst (qs.map V.ref)) := by
                  show upd F2.fg q _ P = _
                  rw [upd_ne (fun z => hqP z.symm)]
                  exact dl6.top
                have S8 := S7.reFg (o' := .lst ((qs ++ [q]).map V.ref)) top7 trivial trivial (fun _ z => nomatch z) (fun k r z => by unfold CodeO at z; cases z)
                have ndq : ¬ F.dom q := fun z => nq.2.1 (le2.dom q z)
                refine ⟨qs.map V.ref, (S6.fg P _ dl6.top).1, ?_, F2.plus q (.lst xs) |>.plus P (.lst ((qs ++ [q]).map V.ref)), wipeE ρ6 vs, G6, acc ++ [l], qs ++ [q], ?_, (le2.plus ndq).plus nd, io2, dl6.top_set hqn rx, fun a ha => ?_, gl2.trans g26, by rw [List.length_append]; simp; omega, e6⟩
                · rw [List.length_map, dl6.len]
                  exact Nat.lt_of_le_of_lt hacc (Nat.lt_of_lt_of_le hlt hz)
                · rw [← ew]
                  have em2 : (qs ++ [q]).map V.ref = qs.map V.ref ++ [V.ref q] := by rw [List.map_append]; rfl
                  rw [em2] at S8 ⊢
                  exact S8.wipe hv
                · rcases List.mem_cons.mp ha with z | z
                  · rw [z]; exact nd
                  · rcases List.mem_append.mp z with z | z
                    · exact nd2 a (List.mem_cons_of_mem _ z)
                    · rw [List.mem_singleton.mp z]; exact ndq
      · have e : n = ds.length := by omega
        subst e
        rw [List.drop_length] at er2
        have e2 : Rs.ok acc ρ2 = Rs.ok dss ρe := er2
        injection e2 with e2a e2b
        rw [← e2a, ← e2b] at k
        clear er
        have Sm := State.unwipe S1 S2.yesx gl2 hv io2
        have Sn := Sm.setNo (i := i) (v := V.ref P) hio
        refine .inl ⟨h2' rfl, ?_⟩
        refine ⟨F, F2, _, G2, P, qs, acc, ⟨Sn, le2, dl2, nd2, ?_⟩, ?_⟩
        · have hl : i < σ.length := by
            rw [← S1.len]
            exact hz0.2
          rw [List.getElem?_set_self hl]
        · cases eb : b acc ((unwipe ρ1 ρ2 vs).set i .no) with
          | stuck => rw [eb] at k; exact False.elim k
          | nx dss' ρ3 =>
            rw [eb] at k
            intro F' σ' H' G' S' gl'
            obtain ⟨G9, S9, g9⟩ := S'.close hio
            exact ⟨F, _, G9, S9, SAsk.mono ((gl1.trans gl2).trans (gl'.trans g9)) k⟩
  · rw [if_neg hz0] at k
    exact k.elim
end

set_option autoImplicit false
section
variable {X : Cx}
end
/-- the codes of errors without a field -/
def errNames : List Str := ["BadState", "BadFolk", "BadNumber", "BadStreet", "BadOrder", "NotResting", "NotText"]
def errCodes : List Str := ["state", "folk", "number", "street", "order", "resting", "text"]
/-- the codes of errors with a field, and the fields -/
def fldNames : List Str := ["BadWeb", "BadWalk", "TooMany", "InvalidText"]
def fldCodes : List Str := ["web", "walk", "many", "word"]
def fldFields : List Str := ["index", "index", "most", "word"]
section
variable {X : Cx} {σ : L2.St} {H : Hp} {K : PySem.W.Frag} {D a c : Addr} {b : Bool} {Q : VK}
end
section
variable {X : Cx}
end
/-- the code of an error without a field -/
def codeOf (x : Str) : Option Str := (errNames.zip errCodes).lookup x
def codeFOf (x : Str) : Option (Str × Str) := (fldNames.zip (fldCodes.zip fldFields)).lookup x
def mRef (m : ME) : ME := fun ρ => match m ρ with
  | .ok _ ρ' => .ok (.str "") ρ'
  | .ex ⟨x, none⟩ ρ' => (match codeOf x with
    | some w => .ok (.str w) ρ'
    | none => .stuck)
  | .ex ⟨x, some (f, d)⟩ ρ' => (match codeFOf x with
    | some (w, f') => if f = f' then .ok (.tuple [.str w, d]) ρ' else .stuck
    | none => .stuck)
  | .stuck => .stuck

set_option autoImplicit false
section
variable {X : Cx} {pins : List (Addr × Obj)} {σ : L2.St} {H : Hp} {s : Shared}
end
section
variable {X : Cx}
end

set_option autoImplicit false
def SqK (K : PySem.W.Frag) (t : Bool) (H : Hp) (a : Addr) (xs : List V) : Prop := if t = true then SqT K H a xs else SqL K H a xs
def IsSq (t : Bool) (h : Heap) (a : Addr) (vs : Array Value) : Prop := if t = true then h.IsTuple a vs else h.IsList a vs
def IsIt (t : Bool) (h : Heap) (it a : Addr) (i : Nat) : Prop := if t = true then h.IsTupleIter it a i else h.IsListIter it a i
def itO (t : Bool) (a : Addr) : Obj := if t = true then { cls := .type "tuple_iterator", data := .fields #[.ref a, .int 0 0] } else { cls := .type "list_iterator", data := .fields #[.ref a, .int 0 0] }
section
variable {X : Cx} {pins : List (Addr × Obj)} {σ : L2.St} {H : Hp} {s : Shared}
theorem sq_of {t : Bool} {a : Addr} {xs : List V} (I : Inv X pins σ H s) (h : SqK X.K t H a xs) : ∃ its : List Value, Vals xs its ∧ IsSq t s.heap a its.toArray ∧ a < s.heap.objs.size := by
  cases t with
  | true =>
    obtain ⟨its, rv, p, _⟩ := I.tuple h
    obtain ⟨o, ho, _⟩ := id p
    exact ⟨its, rv, p, Heap.lt_size ho⟩
  | false =>
    obtain ⟨its, rv, p, _⟩ := I.list h
    exact ⟨its, rv, p.isList, p.lt⟩
theorem sq_inj {t : Bool} {a : Addr} {xs ys : List V} (I : Inv X pins σ H s) (h : SqK X.K t H a xs) (h' : SqK X.K t H a ys) : xs = ys := by
  cases t with
  | true => exact I.tuple_inj h h'
  | false => exact I.list_inj h h'
theorem draws_sq {P : Program} {w : World} {A : Around} (hh : A.handled = none) (t : Bool) (it a : Addr) (ne : a ≠ it) (vs : Array Value) : Draws P w A it [it, a] vs.size (fun i v => vs[i]? = some v) (fun i h => IsIt t h it a i ∧ IsSq t h a vs) := by
  cases t with
  | true => exact .tuple hh it a ne vs
  | false => exact .list hh it a ne vs
theorem begins_sq (t : Bool) (a : Addr) (vs : Array Value) : Begins (.ref a) (itO t a) fun h => IsSq t h a vs := by
  cases t with
  | true => exact begins_tuple a vs
  | false => exact begins_list a vs
theorem isIt_at {t : Bool} {h h' : Heap} {it a : Addr} {i : Nat} (x : IsIt t h it a i) (e : ∀ o, h.get? it = some o → h'.get? it = some o) : IsIt t h' it a i := by
  cases t with
  | true => exact Heap.IsTupleIter.at x e
  | false => exact Heap.IsListIter.at x e
theorem isIt_obj {t : Bool} {h : Heap} {it a : Addr} {i : Nat} (x : IsIt t h it a i) : ∃ o, h.get? it = some o ∧ ∀ v, o.data ≠ .cell v := by
  cases t with
  | true =>
    obtain ⟨o, e, _, d⟩ := (show h.IsTupleIter it a i from x)
    exact ⟨o, e, fun v q => by rw [d] at q; cases q⟩
  | false =>
    obtain ⟨o, e, _, d⟩ := (show h.IsListIter it a i from x)
    exact ⟨o, e, fun v q => by rw [d] at q; cases q⟩
theorem isIt_new {t : Bool} {h : Heap} {it a : Addr} (e : h.get? it = some (itO t a)) : IsIt t h it a 0 := by
  cases t with
  | true => exact ⟨_, e, rfl, rfl⟩
  | false => exact ⟨_, e, rfl, rfl⟩
end
/-- the two as they stand at each turn, the items in new pairs -/
def ItzK (K : PySem.W.Frag) (t u : Bool) (a b : Addr) : It :=
  ⟨fun i H => ∃ (xs ys : List V) (x y : V), SqK K t H a xs ∧ SqK K u H b ys ∧ xs[i]? = some x ∧ ys[i]? = some y,
    fun i H v H' => ∃ T x y, v = .ref T ∧ H T = none ∧ H' = upd H T (.tup [x, y]) ∧ (∀ xs, SqK K t H a xs → xs[i]? = some x) ∧ ∀ ys, SqK K u H b ys → ys[i]? = some y,
    fun i H => ∃ xs ys : List V, SqK K t H a xs ∧ SqK K u H b ys ∧ i ≤ xs.length ∧ i ≤ ys.length ∧ (xs.length = i ∨ ys.length = i)⟩
theorem turn_zipK {P : Program} {w : World} {K : PySem.W.Frag} {t u : Bool} {elts : List Expr} {kk : Nat} {tpos : Pos} {a b z TI TO i1 i2 : Addr} (D : ZipSep2 z TI TO i1 i2 [i1, a] [i2, b]) (na : a ≠ i1) (nb : b ≠ i2) :
    Turn P w K (.Tuple elts kk tpos) (ItzK K t u a b) [z, TI, TO, i1, i2] z (fun i h => IsZip h z TI TO .none ∧ IsTupOf2 h TI (.ref i1) (.ref i2) ∧ (∃ x y, IsTupOf2 h TO x y) ∧ IsIt t h i1 a i ∧ IsIt u h i2 b i) where
  mem := by simp
  obj := fun i h ⟨hz, hI, ⟨x, y, hO⟩, h1, h2⟩ c hc => by
    have hc' : c = z ∨ c = TI ∨ c = TO ∨ c = i1 ∨ c = i2 := by simpa using hc
    rcases hc' with e | e | e | e | e <;> subst e
    · exact ⟨_, hz, fun v q => nomatch q⟩
    · exact ⟨_, hI, fun v q => nomatch q⟩
    · exact ⟨_, hO, fun v q => nomatch q⟩
    · exact isIt_obj h1
    · exact isIt_obj h2
  keep := fun i h h' ⟨hz, hI, ⟨x, y, hO⟩, h1, h2⟩ k =>
    ⟨k z (by simp) _ hz, k TI (by simp) _ hI, ⟨x, y, k TO (by simp) _ hO⟩, isIt_at h1 fun o q => k i1 (by simp) o q, isIt_at h2 fun o q => k i2 (by simp) o q⟩
  item := by
    intro X hP hw hK hc i pins s σ H E I hf ⟨hz, hI, ⟨x0, y0, hO⟩, h1, h2⟩ ⟨xs, ys, x, y, qx, qy, ex, ey⟩
    subst hP hw hK
    obtain ⟨vs, rv, pv, la⟩ := sq_of I qx
    obtain ⟨us, ru, pu, lb⟩ := sq_of I qy
    obtain ⟨v1, gv, r1⟩ := rv.get ex
    obtain ⟨v2, gu, r2⟩ := ru.get ey
    have z_lt : z < s.heap.objs.size := Heap.lt_size hz
    refine wpAny_pyNext_zipD2_item (i := i) D (draws_sq (A := X.A.in1) (I.ok.hd hc) t i1 a na vs.toArray) (draws_sq (A := X.A.in1) (I.ok.hd hc) u i2 b nb us.toArray) hz hI hO ⟨h1, pv⟩ ⟨h2, pu⟩ (by have := (List.getElem?_eq_some_iff.mp gv).1; simpa using this) (by have := (List.getElem?_eq_some_iff.mp gu).1; simpa using this) fun w1 w2 g tk e1 e2 z2 o2 st1 st2 new2 sz keep => ?_
    have ew1 : w1 = v1 := by
      have e1' : vs[i]? = some w1 := by simpa using e1
      rw [gv] at e1'
      exact (Option.some.inj e1').symm
    have ew2 : w2 = v2 := by
      have e2' : us[i]? = some w2 := by simpa using e2
      rw [gu] at e2'
      exact (Option.some.inj e2').symm
    subst ew1 ew2
    refine ⟨_, rfl, wpAny_letOwnedTupleGo_zip (s := { s with heap := g, toks := tk }) z2 fun g2 z3 sb => ?_⟩
    have zN : s.heap.objs.size ≠ z := Nat.ne_of_gt z_lt
    have new3 : g2.get? s.heap.objs.size = some { cls := .type "tuple", data := .seq #[w1, w2] } := (sb.2 _ zN).trans new2
    have okT : ObjOk X.prog X.w (upd H s.heap.objs.size (.tup [x, y])) g2 s.heap.objs.size (.tup [x, y]) := ⟨by show 2 ≤ sizeLine; decide, [w1, w2], .cons r1 (.cons r2 .nil), ⟨_, new3, rfl, _, rfl⟩⟩
    have J : Inv X pins σ (upd H s.heap.objs.size (.tup [x, y])) { s with heap := g2, toks := tk } :=
      I.turnedNew (t' := tk) (ch := [z, TI, TO, i1, i2]) (fun c o nc q => by
        simp only [List.mem_cons, List.not_mem_nil, or_false, not_or] at nc
        exact (sb.2 c nc.1).trans (keep c o nc.1 nc.2.2.1 nc.2.2.2.1 nc.2.2.2.2 q)) hf (Nat.le_refl _) okT
    refine ⟨.ref s.heap.objs.size, _, J, rfl, ⟨_, x, y, rfl, I.hok.fresh (Nat.le_refl _), rfl, fun l hl => by rw [sq_inj I hl qx]; exact ex, fun l hl => by rw [sq_inj I hl qy]; exact ey⟩, ⟨z3, ?_, ⟨w1, w2, ?_⟩, ?_, ?_⟩, fun c cm => ?_⟩
    · exact (sb.2 _ D.TIz).trans (keep _ _ D.TIz D.TITO D.TIi1 D.TIi2 hI)
    · exact (sb.2 _ D.TOz).trans o2
    · exact isIt_at st1.1 fun o q => (sb.2 _ (fun e => D.zi1 e.symm)).trans q
    · exact isIt_at st2.1 fun o q => (sb.2 _ (fun e => D.zi2 e.symm)).trans q
    · obtain ⟨o, eo, _⟩ := (show ∃ o, s.heap.get? c = some o ∧ ∀ v, o.data ≠ .cell v from by
        have cm' : c = z ∨ c = TI ∨ c = TO ∨ c = i1 ∨ c = i2 := by simpa using cm
        rcases cm' with e | e | e | e | e <;> subst e
        · exact ⟨_, hz, fun v q => nomatch q⟩
        · exact ⟨_, hI, fun v q => nomatch q⟩
        · exact ⟨_, hO, fun v q => nomatch q⟩
        · exact isIt_obj h1
        · exact isIt_obj h2)
      rw [upd_ne (Nat.ne_of_lt (Heap.lt_size eo))]
      exact (hf c cm).1
  done := by
    intro X hP hw hK hc i pins s σ H E I hf ⟨hz, hI, ⟨x0, y0, hO⟩, h1, h2⟩ ⟨xs, ys, qx, qy, lx, ly, en⟩
    subst hP hw hK
    obtain ⟨vs, rv, pv, la⟩ := sq_of I qx
    obtain ⟨us, ru, pu, lb⟩ := sq_of I qy
    have l1 := rv.length
    have l2 := ru.length
    exact wpAny_pyNext_zipD2_end (i := i) D (draws_sq (A := X.A.in1) (I.ok.hd hc) t i1 a na vs.toArray) (draws_sq (A := X.A.in1) (I.ok.hd hc) u i2 b nb us.toArray) hz hI hO ⟨h1, pv⟩ ⟨h2, pu⟩ (by rw [List.size_toArray]; omega) (by rw [List.size_toArray]; omega) (by rw [List.size_toArray, List.size_toArray]; omega) fun g tk keep =>
      ⟨rfl, I.turnedL (t' := tk) (ch := [z, TI, TO, i1, i2]) (fun c o nc q => by
        simp only [List.mem_cons, List.not_mem_nil, or_false, not_or] at nc
        exact keep c o nc.1 nc.2.2.1 nc.2.2.2.1 nc.2.2.2.2 q) hf⟩
  self := fun A i s Q E st h => wpAny_pyIter_zip st.1 h
def iZipK (K : PySem.W.Frag) (ta : TA) : TI := fun σ H R => ta σ H fun vs H1 => ∃ a b t u xs ys, vs = [.ref a, .ref b] ∧ SqK K t H1 a xs ∧ SqK K u H1 b ys ∧ R (ItzK K t u a b) H1
theorem pi_zipK {X : Cx} {e e2 : Expr} {ta : TA} {p pos tpos : Pos} {elts : List Expr} {kk : Nat} (hg : Gl X "zip") (hm : X.mg "zip" = none) (ha : PA X [e, e2] ta)
    (hs : starEach [e, e2] X.env = (false, eval e X.env) :: starEach [e2] X.env := by rfl) (hpl : (backTo pos (starEach [e2] X.env)).any (·.1) = false := by rfl) :
    PI X (.Tuple elts kk tpos) (.Call (.Name "zip" p) [e, e2] [] pos) (iZipK X.K ta) := ⟨fun pins s σ H R I h => by
  refine Call_ (ld_blt I hg hm boot_zip (callWith_type1 (thn (ha.run pos pins s σ H _ I h) fun us s1 ⟨vs, H1, I1, r1, q1⟩ => ?_) hs hpl))
  obtain ⟨a, b, t, u, xs, ys, ex, qx, qy, q⟩ := q1
  subst ex
  obtain ⟨v1, v2, eu, k1, k2⟩ := vals2 r1
  subst eu
  obtain rfl : v1 = Value.ref a := k1
  obtain rfl : v2 = Value.ref b := k2
  obtain ⟨vs1, rv, pv, la⟩ := sq_of I1 qx
  obtain ⟨us1, ru, pu, lb⟩ := sq_of I1 qy
  refine zip_begins2 (begins_sq t a vs1.toArray) (begins_sq u b us1.toArray) pv pu fun g gz gI gO g1 g2 sz keep => wpAny_pyIter_zip gz ?_
  have I2 : Inv X pins σ H1 { s1 with heap := g } := I1.kept (t' := s1.toks) keep
  have apart := zip_sep2 (N := s1.heap.objs.size) (fp1 := [a]) (fp2 := [b]) (fun c hc => by rw [List.mem_singleton.mp hc]; exact la) (fun c hc => by rw [List.mem_singleton.mp hc]; exact lb)
  refine ⟨_, _, _, _, H1, rfl, I2, turn_zipK (t := t) (u := u) apart (Nat.ne_of_lt la) (Nat.ne_of_lt (Nat.lt_succ_of_lt lb)), ⟨gz, gI, ⟨_, _, gO⟩, isIt_new g1, isIt_new g2⟩, fun c cm => ?_, q⟩
  have le : s1.heap.objs.size ≤ c := by
    have cm' : c = s1.heap.objs.size + 4 ∨ c = s1.heap.objs.size + 2 ∨ c = s1.heap.objs.size + 3 ∨ c = s1.heap.objs.size ∨ c = s1.heap.objs.size + 1 := by simpa using cm
    rcases cm' with z | z | z | z | z <;> rw [z]
    · exact Nat.le_add_right _ _
    · exact Nat.le_add_right _ _
    · exact Nat.le_add_right _ _
    · exact Nat.le_refl _
    · exact Nat.le_add_right _ _
  exact I1.fpOk le (I1.hok.fresh le)⟩
section
variable {X : Cx} {c : Ct} {F : Fr} {ρ : Env} {σ : L2.St} {G H : Hp} {a b tg : Expr} {p pos tpos : Pos}
/-- a list's or a tuple's items -/
def seqOf : D → Option (Bool × List D)
  | .list ds => some (false, ds)
  | .tuple ds => some (true, ds)
  | _ => none
def zipD (ds es : List D) : List D := (ds.zip es).map fun p => .tuple [p.1, p.2]
def iZip (m1 m2 : ME) : MI := fun ρ => (evm [m1, m2] ρ).then fun ds ρ' => match ds with
  | [d1, d2] => (match seqOf d1, seqOf d2 with
    | some (_, xs), some (_, ys) => .ok (zipD xs ys) ρ'
    | _, _ => .stuck)
  | _ => .stuck
theorem seq_frz {K : PySem.W.Frag} {d : D} {t : Bool} {ds : List D} {v : V} (e : seqOf d = some (t, ds)) (r : Rp K G d v) : ∃ a xs, v = .ref a ∧ RpL K G ds xs ∧ (∀ G' H, GLe G G' → Sub G' H → SqK K t H a xs) := by
  cases d <;> simp only [seqOf] at e <;> first | cases e | skip
  · obtain ⟨a, xs, ev, hg, rx⟩ := r
    exact ⟨a, xs, ev, rx, fun G' H gl sb => .inl (.inl (sb.lst (gl _ _ hg)))⟩
  · obtain ⟨a, xs, ev, hg, rx⟩ := r
    exact ⟨a, xs, ev, rx, fun G' H gl sb => .inl (.inl (sb.tup (gl _ _ hg)))⟩
theorem it_zip {K : PySem.W.Frag} {t u : Bool} {a b : Addr} {xs ys : List V} {ds es : List D} (h1 : ∀ G' H, GLe G G' → Sub G' H → SqK K t H a xs) (h2 : ∀ G' H, GLe G G' → Sub G' H → SqK K u H b ys) (r1 : RpL K G ds xs) (r2 : RpL K G es ys) : ItOk K (ItzK K t u a b) G (zipD ds es) := fun i H G' gl sb => by
  have q1 := h1 G' H gl sb
  have q2 := h2 G' H gl sb
  have l1 := r1.length
  have l2 := r2.length
  refine ⟨fun d e => ?_, fun le => ?_⟩
  · unfold zipD at e
    rw [List.getElem?_map] at e
    cases ez : (ds.zip es)[i]? with
    | none => rw [ez] at e; cases e
    | some p =>
      rw [ez] at e
      cases e
      rw [List.getElem?_zip_eq_some] at ez
      obtain ⟨x, ex, rx⟩ := r1.get ez.1
      obtain ⟨y, ey, ry⟩ := r2.get ez.2
      refine ⟨⟨xs, ys, x, y, q1, q2, ex, ey⟩, fun v H' ⟨T, x', y', ev, hT, eH, f1, f2⟩ => ?_⟩
      have e1 := f1 xs q1
      have e2 := f2 ys q2
      rw [ex] at e1
      rw [ey] at e2
      cases e1
      cases e2
      exact .inr ⟨T, _, ev, hT, eH, .tup ⟨x, [y], rfl, Rp.mono gl _ _ rx, y, [], rfl, Rp.mono gl _ _ ry, rfl⟩⟩
  · unfold zipD at le
    rw [List.length_map, List.length_zip] at le
    exact ⟨xs, ys, q1, q2, by omega, by omega, by omega⟩
theorem mi_zip {m1 m2 : ME} {elts : List Expr} {kk : Nat} (hK : X.K = c.K) (hg : Gl X "zip") (hm : X.mg "zip" = none) (ha : PA X [a, b] (tMs c [m1, m2]))
    (hs : starEach [a, b] X.env = (false, eval a X.env) :: starEach [b] X.env := by rfl) (hpl : (backTo pos (starEach [b] X.env)).any (·.1) = false := by rfl) : PI X (.Tuple elts kk tpos) (.Call (.Name "zip" p) [a, b] [] pos) (tI c (iZip m1 m2)) :=
  pi_conseq (pi_zipK hg hm ha hs hpl) fun σ H R ⟨F, ρ, G, S, a⟩ => by
    refine tMs_ev S ((Ask.then a).imp (GLe.refl G) fun ds ρ1 k vs H1 G1 S1 gl1 r1 => ?_)
    split at k
    · rename_i d1 d2
      split at k
      · rename_i t xs u ys e1 e2
        obtain ⟨v1, r', ev, q1, v2, r'', ev2, q2, en⟩ := r1
        have en' : r'' = [] := en
        subst ev ev2 en'
        obtain ⟨p1, zs1, f1, g1, h1⟩ := seq_frz e1 q1
        obtain ⟨p2, zs2, f2, g2, h2⟩ := seq_frz e2 q2
        subst f1 f2
        rw [hK]
        exact fun _ => ⟨p1, p2, t, u, zs1, zs2, rfl, h1 G1 H1 (GLe.refl _) S1.sub, h2 G1 H1 (GLe.refl _) S1.sub, k _ H1 G1 S1 gl1 (it_zip h1 h2 g1 g2)⟩
      · exact k.elim
    · exact k.elim
end

set_option autoImplicit false
theorem ext_tupAt (l : Addr) (xs : Array Value) (n : Nat) (b : Addr) (ys : Array Value) (n2 : Nat) (dd : Option Addr) (sl : Array (Option Value)) (d0 : ¬(!xs.isEmpty && Builtin.List.listTooLong (xs.size + ys.size)) = true) (d1 : xs.size ≤ sizeLine) (d2 : xs.size + ys.size ≤ sizeLine + 1) :
    Meets (Builtin.«list.extend» ⟨[.ref l, .ref b], []⟩) (fun _ R s => s.heap.get? l = some { cls := .type "list", dict := none, data := .seq xs n, slots := #[] } ∧ s.heap.get? b = some { cls := .type "tuple", dict := dd, data := .seq ys n2, slots := sl } ∧
      R (.ok (.ret Value.none)) { s with heap := s.heap.update l (Obj.mapSeq fun x => x ++ ys), toks := s.toks }) :=
  .of_wp fun prog w A R s ⟨hl, hb, h⟩ => by
    obtain ⟨hp, g, d, tk, os⟩ := s
    have f1 := AutoSeq1.idx_int
    have f2 := AutoSeq1.sub_tuple_tuple
    have f3 := AutoSeq1.sub_list_list
    have f4 := AutoSeq1.sub_tuple_list
    have f5 := AutoSeq1.sub_list_tuple
    have fits : (xs ++ ys).size ≤ sizeLine + 1 := by rw [Array.size_append]; exact d2
    wp_walk using (wpAny_updateSeq hl rfl (hz := d1) (_hz' := fits)), wpAny_loadPart' hl, wpAny_loadPart' hb
    exact ⟨_, rfl, h⟩
section
variable {X : Cx} {c : Ct} {F : Fr} {ρ : Env} {σ : L2.St} {G H : Hp} {e : Expr} {pos : Pos}
def rExtT (K : PySem.W.Frag) : V → List V → Hp → VK → Prop := fun x vs H Q => ∃ l b xs zs, x = .ref l ∧ vs = [.ref b] ∧ H l = some (.lst xs) ∧ SqT K H b zs ∧ xs.length + zs.length ≤ sizeLine ∧ Q .non (upd H l (.lst (xs ++ zs)))
theorem mt_extT : MtM X "list.extend" (rExtT X.K) := by
  intro pins s σ H x vs v us Q I rx rv ⟨l, b, xs, zs, e1, e2, hl, hb, hz, q⟩
  subst e1 e2
  cases rx
  obtain ⟨u, eu, ru⟩ := rv.one
  subst eu
  cases ru
  obtain ⟨z, its, n, r, len, ol⟩ := I.lstM hl
  obtain ⟨jts, r2, ⟨⟨cls, dd, data, sl⟩, ob, hc, n2, hd⟩, _⟩ := I.tuple hb
  simp only at hc hd
  subst hc hd
  have l1 := r.length
  have l2 := r2.length
  have small : its.toArray.size + jts.toArray.size ≤ sizeLine := by rw [List.size_toArray, List.size_toArray]; omega
  have door : ¬ (!its.toArray.isEmpty && Builtin.List.listTooLong (its.toArray.size + jts.toArray.size)) = true := by
    rw [notLongL small, Bool.and_false]
    exact Bool.false_ne_true
  refine call_meets F.slot_list_extend ⟨_, ol, rfl⟩ F.entry_list_extend (F.args_list_extend_2 _ _) (ext_tupAt l its.toArray n b jts.toArray n2 dd sl door (Nat.le_trans (Nat.le_add_right _ _) small) (Nat.le_succ_of_le small)) ⟨ol, ob, ?_⟩
  refine ⟨.non, _, I.lset (its' := its ++ jts) hl ol (by simp) (r.append r2) ?_, rfl, q⟩
  rw [List.length_append]
  omega
theorem mt_extA : MtM X "list.extend" (fun x vs H Q => rExtend x vs H Q ∨ rExtT X.K x vs H Q) := fun pins s σ H x xs v us Q I rx rs q => q.elim (mt_extend pins s σ H x xs v us Q I rx rs) (mt_extT pins s σ H x xs v us Q I rx rs)
def mExt (i : Nat) (m : ME) : ME := fun ρ => match ρ[i]? with
  | some (.own (.list _)) => (m ρ).then fun d ρ' => (match seqOf d, ρ'[i]? with
    | some (_, es), some (.own (.list ds)) => if ds.length + es.length ≤ sizeLine then .ok .none (ρ'.set i (.own (.list (ds ++ es)))) else .stuck
    | _, _ => .stuck)
  | _ => .stuck
theorem me_ext {i : Nat} {m : ME} (hK : X.K = c.K) (h : PE X e (tBM X.K "list" (fun x vs H Q => rExtend x vs H Q ∨ rExtT X.K x vs H Q) (tVar i) (tMs c [m]))) : PE X e (tE c (mExt i m)) := pe_conseq h fun σ H Q ⟨F, ρ, G, S, a⟩ => by
  unfold mExt at a
  split at a
  · rename_i ds0 e0
    obtain ⟨p, es, ow, _⟩ := S.own_at e0
    obtain ⟨hg, o, ho, hd, _⟩ := id ow
    cases hd with
    | @lst _ xs r0 =>
      refine ⟨.ref p, es, .inl ⟨rfl, xs, .of ho⟩, F, ρ, G, S, (Ask.then a).imp (GLe.refl G) fun d ρ1 k v H1 G1 S1 gl1 r1 => ?_⟩
      split at k
      · rename_i t es2 ds e2 e1
        obtain ⟨p', es', ow', _⟩ := S1.own_at e1
        rw [es] at es'
        cases es'
        obtain ⟨hg', o', ho', hd', _⟩ := id ow'
        cases hd' with
        | @lst _ ys r2 =>
          by_cases hz : ds.length + es2.length ≤ sizeLine
          · rw [if_pos hz] at k
            cases d <;> simp only [seqOf] at e2 <;> first | cases e2 | skip
            · obtain ⟨b, zs, ev, hb, rz⟩ := r1
              subst ev
              exact .inl ⟨p, b, ys, zs, rfl, rfl, ho', S1.sub.lst hb, by rw [r2.length, rz.length]; exact hz, k .non _ G1 (S1.change e1 es (.lst (r2.append rz)) trivial) gl1 rfl⟩
            · obtain ⟨b, zs, ev, hb, rz⟩ := r1
              subst ev
              rw [hK]
              exact .inr ⟨p, b, ys, zs, rfl, rfl, ho', .inl (.inl (S1.sub.tup hb)), by rw [r2.length, rz.length]; exact hz, k .non _ G1 (S1.change e1 es (.lst (r2.append rz)) trivial) gl1 rfl⟩
          · rw [if_neg hz] at k
            exact k.elim
      · exact k.elim
  · exact a.elim
end

set_option autoImplicit false
inductive PT where
  | nm (i : Nat) | put (i j : Nat)
def tPT : PT → L2.TG
  | .nm i => gName i
  | .put i j => gSub (tVar i) (tVar j) rSetA
def tPTs : List PT → TGs
  | [] => gNil
  | t :: r => gCons (tPT t) (tPTs r)
def asg1 : PT → Bool → D → Env → Option Env
  | .nm i, f, d, ρ => some (ρ.set i (if f = true then .own d else .fz d))
  | .put i j, false, d, ρ => (match at_ ρ j, ρ[i]? with
    | some kd, some (.own cd) => (dPutAt cd kd d).map fun c' => ρ.set i (.own c')
    | _, _ => none)
  | _, _, _, _ => none
def asgP : List PT → List Bool → List D → Env → Option Env
  | [], [], [], ρ => some ρ
  | t :: ts, f :: fs, d :: ds, ρ => (asg1 t f d ρ).bind (asgP ts fs ds)
  | _, _, _, _ => none
section
variable {X : Cx} {c : Ct} {F : Fr} {ρ : Env} {σ : L2.St} {G H : Hp} {pos : Pos}
theorem PVs.keepN {G' H' : Hp} {ρ' : Env} {σ' : L2.St} (gl : GLe G G') : ∀ {fs : List Bool} {ds : List D} {vs : List V}, (∀ (d : D) (p : Addr), p ∈ newsOf fs vs → NewAt c F ρ σ G H d p → NewAt c F ρ' σ' G' H' d p) → PVs c F ρ σ G H fs ds vs → PVs c F ρ' σ' G' H' fs ds vs
  | [], [], [], _, _ => trivial
  | false :: fs, d :: ds, v :: vs, hk, h => by
    have e : newsOf (false :: fs) (v :: vs) = newsOf fs vs := by cases v <;> rfl
    rw [e] at hk
    exact ⟨Rp.mono gl _ _ h.1, PVs.keepN gl hk h.2⟩
  | true :: fs, d :: ds, v :: vs, hk, h => by
    obtain ⟨⟨p, e, n⟩, r⟩ := h
    subst e
    exact ⟨⟨p, rfl, hk d p List.mem_cons_self n⟩, PVs.keepN gl (fun d q hq => hk d q (List.mem_cons_of_mem _ hq)) r⟩
theorem asgP_ev : ∀ {ts : List PT} {fs : List Bool} {ds : List D} {vs : List V} {ρ : Env} {σ : L2.St} {H : Hp} {ρ' : Env} {Q : L2.St → Hp → Prop}, State c F ρ σ G H → PVs c F ρ σ G H fs ds vs → (newsOf fs vs).Nodup → asgP ts fs ds ρ = some ρ' →
    (∀ t ∈ ts, ∀ i, t = .nm i → i ∉ c.ios) → (∀ σ' H', State c F ρ' σ' G H' → Q σ' H') → tPTs ts vs σ H Q
  | [], [], [], [], ρ, σ, H, ρ', Q, S, _, _, e, _, k => by
    cases e
    exact ⟨rfl, k σ H S⟩
  | t :: ts, f :: fs, d :: ds, [], ρ, σ, H, ρ', Q, S, h, n, e, hio, k => by cases f <;> exact h.elim
  | t :: ts, f :: fs, d :: ds, v :: vs, ρ, σ, H, ρ', Q, S, h, n, e, hio, k => by
    have e' : (asg1 t f d ρ).bind (asgP ts fs ds) = some ρ' := e
    cases ea : asg1 t f d ρ with
    | none => rw [ea] at e'; cases e'
    | some ρ1 =>
      rw [ea] at e'
      have e2 : asgP ts fs ds ρ1 = some ρ' := e'
      have hio2 : ∀ t ∈ ts, ∀ i, t = .nm i → i ∉ c.ios := fun t ht => hio t (List.mem_cons_of_mem _ ht)
      refine ⟨v, vs, rfl, ?_⟩
      cases t with
      | nm i =>
        have hi := hio _ List.mem_cons_self i rfl
        cases ea
        cases f with
        | false =>
          have en : newsOf (false :: fs) (v :: vs) = newsOf fs vs := by cases v <;> rfl
          rw [en] at n
          refine asgP_ev (S.setFz h.1 hi) (PVs.keepN (GLe.refl _) (fun d' p hp n' => ?_) h.2) n e2 hio2 k
          obtain ⟨n1, n2, n3⟩ := n'
          refine ⟨n1, n2, fun j y ej es => ?_⟩
          rcases get_set ej with ⟨_, z⟩ | ⟨ne, ej⟩
          · cases z
          · rw [List.getElem?_set_ne ne] at es
            exact n3 j y ej es
        | true =>
          obtain ⟨⟨q, ev, hn⟩, hr⟩ := h
          subst ev
          have nn := List.nodup_cons.mp (show (q :: newsOf fs vs).Nodup from n)
          refine asgP_ev (S.setOwn hn hi) (PVs.keepN (GLe.refl _) (fun d' p hp n' => ?_) hr) nn.2 e2 hio2 k
          obtain ⟨n1, n2, n3⟩ := n'
          refine ⟨n1, n2, fun j y ej es => ?_⟩
          rcases get_set ej with ⟨rfl, _⟩ | ⟨ne, ej⟩
          · by_cases hlt : i < σ.length
            · rw [List.getElem?_set_self hlt] at es
              cases es
              exact nn.1 hp
            · rw [List.getElem?_eq_none (by rw [List.length_set]; omega)] at es
              cases es
          · rw [List.getElem?_set_ne ne] at es
            exact n3 j y ej es
      | put i j =>
        cases f with
        | true => cases ea
        | false =>
          have en : newsOf (false :: fs) (v :: vs) = newsOf fs vs := by cases v <;> rfl
          rw [en] at n
          have ea' : (match at_ ρ j, ρ[i]? with
            | some kd, some (.own cd) => (dPutAt cd kd d).map fun c' => ρ.set i (.own c')
            | _, _ => none) = some ρ1 := ea
          cases ej : at_ ρ j with
          | none => rw [ej] at ea'; cases ea'
          | some kd =>
            rw [ej] at ea'
            cases ei : ρ[i]? with
            | none => rw [ei] at ea'; cases ea'
            | some sl =>
              rw [ei] at ea'
              cases sl with
              | no => cases ea'
              | fz _ => cases ea'
              | own cd =>
                cases ep : dPutAt cd kd d with
                | none => simp only [ep] at ea'; cases ea'
                | some c' =>
                  simp only [ep] at ea'
                  cases ea'
                  obtain ⟨p, es, ow, _⟩ := S.own_at ei
                  obtain ⟨hg, o, ho, hd, hm⟩ := id ow
                  obtain ⟨y, ey, vy⟩ := S.vw ej
                  refine ⟨_, es, y, ey, ?_⟩
                  refine put_at S.sub ho hd hm vy h.1 ep fun o' H' eH hd' hm' => ?_
                  have e3 : upd H' p o' = upd H p o' := by
                    rcases eH with e | ⟨u, e⟩
                    · rw [e]
                    · rw [e, upd_upd]
                  rw [e3]
                  refine asgP_ev (S.change ei es hd' hm') (PVs.keepN (GLe.refl _) (fun d' q hq n' => ?_) h.2) n e2 hio2 k
                  obtain ⟨⟨m1, m2, m3, m4, m5⟩, n2, n3⟩ := n'
                  have ne : q ≠ p := fun z => n3 i cd ei (by rw [z]; exact es)
                  refine ⟨⟨m1, m2, by rw [upd_ne ne]; exact m3, m4, m5⟩, n2, fun k' x' ek es' => ?_⟩
                  rcases get_set ek with ⟨rfl, _⟩ | ⟨nk, ek⟩
                  · rw [es] at es'
                    cases es'
                    exact ne rfl
                  · exact n3 k' x' ek es'
def sParT (ts : List PT) (ms : List (Bool × ME)) : SM := fun ρ => (evm (ms.map (·.2)) ρ).sr fun ds ρ' => match asgP ts (ms.map (·.1)) ds ρ' with
  | some ρ2 => .nx ρ2
  | none => .stuck
theorem st_parT {ts : List PT} {ms : List (Bool × ME)} {es tgs : List Expr} {k1 k2 : Nat} {p1 p2 : Pos} (hc : X.calm = true) (hK : X.K = c.K) (ha : PA X es (tPs c ms)) (hg : PGs X tgs (tPTs ts)) (hio : ∀ t ∈ ts, ∀ i, t = .nm i → i ∉ c.ios) (hz : ms.length ≤ sizeLine := by decide) (hl : ms.length = ts.length := by rfl)
    (hn : (assignEach tgs X.env).length = ts.length := by rfl) (hst : (assignEach tgs X.env).findIdx? (·.1) = none := by rfl)
    (hs : swapsWithSole [.Tuple tgs k1 p1] (.Tuple es k2 p2) pos.line X.env = pure false := by rfl) (hw : swappedStores [.Tuple tgs k1 p1] (.Tuple es k2 p2) X.env = pure none := by rfl) (h1 : (assignEach [.Tuple tgs k1 p1] X.env).map (·.2) = [assign (.Tuple tgs k1 p1) X.env] := by rfl) :
    PS X (.Assign [.Tuple tgs k1 p1] (.Tuple es k2 p2) pos) (tS c (sParT ts ms)) := ps_conseq (ps_asg (pe_tup ha) (pg_tup hc hg hn hst) hs hw h1) fun D σ H ⟨F, ρ, G, S, a⟩ => by
  refine tPs_ev S ((SAsk.sr a).imp (GLe.refl G) fun ds ρ1 k vs H1 G1 S1 gl1 pv n => ?_)
  have lv := pv.len
  rw [List.length_map] at lv
  refine ⟨by rw [lv]; exact hz, fun T hT => ?_⟩
  have S2 := S1.add (o := .tup vs) hT
  have gT : GLe G1 (upd G1 T (.tup vs)) := GLe.upd (S1.gnone hT)
  refine ⟨T, vs, rfl, .of upd_same, by rw [lv, hl], ?_⟩
  cases e : asgP ts (ms.map (·.1)) ds ρ1 with
  | none => rw [e] at k; exact k.elim
  | some ρ2 =>
    rw [e] at k
    refine asgP_ev S2 (PVs.keepN gT (fun d p hp n' => ?_) pv) n e hio fun σ' H' S' => k σ' H' _ S' (gl1.trans gT)
    obtain ⟨⟨m1, m2, m3, m4, m5⟩, n2, n3⟩ := n'
    have ne : p ≠ T := fun z => by rw [z, hT] at m3; cases m3
    exact ⟨⟨by rw [upd_ne ne]; exact m1, m2, by rw [upd_ne ne]; exact m3, m4.mono gT, m5⟩, n2, n3⟩
theorem gt_nil : PGs X [] (tPTs []) := pgs_nil
theorem gt_nm {i : Nat} {x : Str} {tgs : List Expr} {ts : List PT} (hN : X.N.Nodup) (hi : X.N[i]? = some x) (hx : Loc X.env.scope x) (hr : PGs X tgs (tPTs ts)) (hf : X.fn x = true ∨ X.env.scope.names.lookup x = some .local := by first | exact .inl rfl | exact .inr rfl)
    (hs : (assignEach (.Name x pos :: tgs) X.env).map (·.2) = assign (.Name x pos) X.env :: (assignEach tgs X.env).map (·.2) := by rfl) : PGs X (.Name x pos :: tgs) (tPTs (.nm i :: ts)) := pgs_cons (pg_name hN hi hx hf) hr hs
theorem gt_put {i j : Nat} {tg : Expr} {tgs : List Expr} {ts : List PT} (h : PG X tg (gSub (tVar i) (tVar j) rSetA)) (hr : PGs X tgs (tPTs ts))
    (hs : (assignEach (tg :: tgs) X.env).map (·.2) = assign tg X.env :: (assignEach tgs X.env).map (·.2) := by rfl) : PGs X (tg :: tgs) (tPTs (.put i j :: ts)) := pgs_cons h hr hs
end

set_option autoImplicit false
section
variable {X : Cx} {c : Ct}
end
/-- the law's own promise, from its M-function: at a script's marker it answers True -/
def scrD (ns : List Int) : D := .dict [(.none, .list (ns.map PyData.int))]
theorem law_sp {K : PySem.W.Frag} {mg : Str → Option Value} {T : List (Addr × Str)} {f : FM} {H : Hp} {a : Addr} {ns : List Int} (hT : ∀ t ∈ T, H t.1 = some (.tbl #[])) (hS : SqL K H a (ns.map V.int)) (hf : f [.fz (scrD ns)] = .ok (.bool true) []) :
    spM K T mg 1 f [.ref a] H (fun v _ => v = .bl true) fun _ _ _ => False := by
  let G : Hp := fun b => match H b with
    | some (.tbl _) => none
    | o => o
  have g1 : ∀ b u, G b = some u ↔ H b = some u ∧ ∀ ps, u ≠ .tbl ps := fun b u => by
    show (match H b with
      | some (.tbl _) => none
      | o => o) = some u ↔ _
    constructor
    · intro h
      split at h
      · cases h
      · rename_i o hn
        exact ⟨h, fun ps z => hn ps (by rw [h, z])⟩
    · rintro ⟨h, n⟩
      split
      · rename_i ps e
        rw [h] at e
        exact absurd (Option.some.inj e) (n ps)
      · exact h
  refine ⟨rfl, G, [.fz (scrD ns)], ⟨fun b u h => .inl ((g1 b u).mp h).1, fun b ps h => ((g1 b _).mp h).2 ps rfl⟩, fun t ht => TabS.nil (hT t ht), fun t ht => ?_, fun q ks h => (g1 q _).mpr ⟨h, fun ps z => nomatch z⟩, ⟨⟨a, rfl, .inr (.inr ⟨ns, rfl, ?_⟩)⟩, trivial⟩, List.nodup_nil, ?_⟩
  · cases e : G t.1 with
    | none => rfl
    | some u =>
      obtain ⟨h1, h2⟩ := (g1 _ _).mp e
      rw [hT t ht] at h1
      exact absurd (Option.some.inj h1).symm (h2 _)
  · rcases hS with (h | ⟨o, h⟩) | h
    · exact .inl (.inl ((g1 _ _).mpr ⟨h, fun ps z => nomatch z⟩))
    · exact .inl (.inr ⟨o, (g1 _ _).mpr ⟨h, fun ps z => nomatch z⟩⟩)
    · exact .inr h
  · rw [hf]
    intro v H' G' _ r _
    exact r
theorem Cal.mono {P : Program} {w : World} {K : PySem.W.Frag} {mg : Str → Option Value} {base : Heap} {T : List (Addr × Str)} {x : Str} {i j n : Nat} {f : FM} (h : Cal P w K mg base T x i n f) (hij : i ≤ j) : Cal P w K mg base T x j n f := by
  obtain ⟨fa, fd, ps, F, r⟩ := h
  exact ⟨fa, fd, ps, F.mono hij, r⟩
theorem cx_no {P : Program} {w : World} {o : List PySem.Env} {H : Hp} {s : Shared} {e : Value} {s' : Shared} (h : L2.CX P w o H s (fun _ _ _ => False) e s') : False := by
  obtain ⟨_, _, _, _, _, h⟩ := h
  exact h.2.2.2.2.2.2.2

set_option autoImplicit false
section
variable {X : Cx} {pins : List (Addr × Obj)} {σ : L2.St} {H HZ : Hp} {s s1 : Shared}
end

set_option autoImplicit false
section
variable {X : Cx} {pins : List (Addr × Obj)} {σ : L2.St} {H : Hp} {s : Shared}
end

set_option autoImplicit false
section
variable {X : Cx} {pins : List (Addr × Obj)} {σ : L2.St} {H J : Hp} {s s2 : Shared}
end
section
variable {X : Cx}
end

set_option autoImplicit false
section
variable {X : Cx}
end

set_option autoImplicit false
structure LSp where
  pa : Arguments
  bo : Expr
  sc : Scope
  pos : Pos
  bnd : List (Str × Value) → Prop
  m : ME
section
variable {X : Cx} {c : Ct} {F : Fr} {ρ : Env} {σ : L2.St} {G H : Hp} {P : Addr}
end

set_option autoImplicit false
section
variable {X : Cx} {c : Ct} {P : Addr}
end

set_option autoImplicit false
section
variable {X : Cx} {c : Ct} {P : Addr} {sps : List LSp} {i : Nat}
end

set_option autoImplicit false
section
variable {X : Cx} {c : Ct} {P co : Addr} {k : Nat} {pa : Arguments} {bo : Expr} {sc : Scope} {ps0 : Pos}
end

set_option autoImplicit false
section
variable {X : Cx} {c : Ct} {P : Addr} {e : Expr}
def mIndex (i : Nat) (m : ME) : ME := fun ρ => match at_ ρ i with
  | some (.list _) => (m ρ).then fun d ρ' => (match at_ ρ' i with
    | some (.list ds) => if (okD (.list ds) && okD d) = true then (match ds.findIdx? (fun z => PyData.eqv z d) with
      | some j => .ok (.int j) ρ'
      | none => .stuck) else .stuck
    | _ => .stuck)
  | _ => .stuck
theorem me_index {i : Nat} {m : ME} (hK : X.K = c.K) (h : PE X e (tBM X.K "list" (rIndexD X.K) (tVar i) (tMs c [m]))) : PE X e (tE c (mIndex i m)) := pe_conseq h fun σ H Q ⟨F, ρ, G, S, a⟩ => by
  unfold mIndex at a
  split at a
  · rename_i ds0 e0
    obtain ⟨v0, es, w0⟩ := S.vw e0
    obtain ⟨p, xs0, ev, hp, _⟩ := w0.lst S.sub
    subst ev
    refine ⟨.ref p, es, .inl ⟨rfl, xs0, .of hp⟩, F, ρ, G, S, (Ask.then a).imp (GLe.refl G) fun d ρ1 k v H1 G1 S1 gl1 r1 => ?_⟩
    split at k
    · rename_i ds e1
      obtain ⟨v1, es1, w1⟩ := S1.vw e1
      rw [es] at es1
      cases es1
      by_cases hok : (okD (.list ds) && okD d) = true
      · rw [if_pos hok] at k
        rw [Bool.and_eq_true] at hok
        cases ef : ds.findIdx? (fun z => PyData.eqv z d) with
        | none => simp only [ef] at k; exact k.elim
        | some j =>
          simp only [ef] at k
          obtain ⟨hj, hz, hno⟩ := List.findIdx?_eq_some_iff_getElem.mp ef
          refine ⟨p, v, d, ds, j, ds[j], rfl, rfl, ?_, ?_, hok.1, hok.2, List.getElem?_eq_getElem hj, hz, fun m' z' hm hz' => ?_, k _ H1 G1 S1 gl1 rfl⟩
          · rw [hK]; exact w1.dp S1.sub (okD.no hok.1)
          · rw [hK]; exact (Vw.dp S1.sub (okD.no hok.2) (.inl r1))
          · have := hno m' hm
            rw [List.getElem?_eq_getElem (by omega)] at hz'
            cases hz'
            simpa using this
      · rw [if_neg hok] at k
        exact k.elim
    · exact k.elim
  · exact a.elim
end

set_option autoImplicit false
def tOneT (tk tv : TE) : TE := fun σ H Q => ∀ p, H p = none → tk σ (upd H p (.dT [])) fun x H1 => tv σ H1 fun y H2 => H2 p = some (.dT []) ∧ ∃ (b : Addr) (ks : List Key), x = .ref b ∧ H2 b = some (.tup (ks.map kV)) ∧ Q (.ref p) (upd H2 p (.dT [(ks, y)]))
theorem pe_oneT {X : Cx} {k v : Expr} {tk tv : TE} {pos : Pos} (hu : X.A.units < cLine) (hk : PE X k tk) (hv : PE X v tv) : PE X (.Dict [some k] [v] pos) (tOneT tk tv) := by
  refine ⟨fun pins s σ H Q I q => ?_⟩
  have fresh := I.hok.fresh (Nat.le_refl s.heap.objs.size)
  have I1 := I.laid (a := s.heap.objs.size) (o := .dT []) (h' := s.heap.push { cls := .type "dict", data := .dict #[] }) (t' := s.toks) (fun _ _ e => Heap.get?_push_of_some _ e) (Nat.le_refl _) (dt_empty s.heap I.big)
  rw [arm_eval_Dict, zip_pairTrees [some k] [v] X.env pos rfl rfl, dictDisplay_pairs (pairTrees [some k] [v] X.env pos) (fun z => by cases z) (by show 1 < 17; omega)]
  refine wpAny_bind (wpAny_standAt (wpAny_bind ?_))
  refine wpAny_subDictH (knd := tupleKind (mixKind X.prog X.w)) (Q := fun d s' => wpAny (model X.prog X.w) X.A (pure (Value.ref d)) (EP X pins σ Q) X.xe s') hu (by show 1 ≤ 15; omega) ?_
  have run := ((pps_cons hk hv (pps_nil (X := X) (pos := pos))).run pins _ σ _ (fun ps H2 => match ps with
    | [(x, y)] => H2 s.heap.objs.size = some (.dT []) ∧ ∃ (b : Addr) (ks : List Key), x = .ref b ∧ H2 b = some (.tup (ks.map kV)) ∧ Q (.ref s.heap.objs.size) (upd H2 s.heap.objs.size (.dT [(ks, y)]))
    | _ => False) I1 ?_)
  · refine thn run fun ws s2 ⟨ps, H2, I2, rel, post⟩ => ?_
    match ps, rel, post with
    | [(x, y)], rel, ⟨hp, b, ks, ex, hb, hq⟩ =>
    subst ex
    obtain ⟨wx, wy, ew, rx, ry⟩ : ∃ wx wy, ws = [(wx, wy)] ∧ RelV (.ref b) wx ∧ RelV y wy := by
      cases rel with
      | @cons a c as cs h t => cases t; exact ⟨c.1, c.2, rfl, h.1, h.2⟩
    subst ew
    obtain rfl : wx = Value.ref b := rx
    obtain ⟨z, hd, xs, r0, dd⟩ := dt_of I2.hok hp
    cases r0
    refine ⟨[(ks, b, wy)], ⟨rfl, rfl, key_of I2.hok hb, trivial⟩, dd, fun h' tk dd' hs => wpAny_pure ⟨.ref s.heap.objs.size, _, ?_, rfl, hq⟩⟩
    obtain ⟨o, es, epn, ho, h2, h3, h4, _, h5⟩ := dd'
    have nb : b ≠ s.heap.objs.size := ne_of hb hp (fun z => nomatch z)
    refine d_write I2 (by rw [hp]; exact True.intro) hs ⟨o, ho⟩ ⟨by show 1 ≤ sizeLine; rw [sizeLine_eq]; omega, hd, _, .cons ⟨rfl, by rw [upd_ne nb]; exact hb, ry⟩ .nil, o, es, epn, ho, h2, h3, h4, h5⟩
  · exact q _ fresh
def mOneT (mk mv : ME) : ME := fun ρ => (mk ρ).then fun kd ρ1 => (mv ρ1).then fun vd ρ2 => match toKT kd with
  | some _ => .ok (.dict [(kd, vd)]) ρ2
  | none => .stuck
theorem fe_oneT {X : Cx} {c : Ct} {k v : Expr} {mk mv : ME} {pos : Pos} (hu : X.A.units < cLine) (hk : PE X k (tE c mk)) (hv : PE X v (tE c mv)) : PE X (.Dict [some k] [v] pos) (tF c (mOneT mk mv)) := pe_conseq (pe_oneT hu hk hv) fun σ H Q ⟨F, ρ, G, S, a⟩ D hD => by
  have n0 : NewAt c F ρ σ G (upd H D (.dT [])) (.dict []) D := NewAt.of S hD (.dT rfl) trivial
  have S1 := S.alloc (o := .dT []) hD trivial
  have nd := n0.2.1
  have fgn := NewAt.fgn S1 n0
  refine ⟨_, ρ, G, S1.plus n0 upd_same, (Ask.minus nd fgn (Ask.then a)).imp (GLe.refl G) fun kd ρ1 a1 x H1 G1 S2 g1 r1 => ?_⟩
  refine ⟨_, ρ1, G1, S2, (Ask.minus nd fgn (Ask.then a1)).imp g1 fun vd ρ2 a2 y H2 G2 S3 g2 r2 => ?_⟩
  obtain ⟨q1, q2⟩ := S3.fg D (.dT []) (by show upd F.fg D (.dT []) D = _; exact upd_same)
  refine ⟨q1, ?_⟩
  cases et : toKT kd with
  | none => simp only [et] at a2; exact a2.elim
  | some ks =>
    simp only [et] at a2
    have ed := of_toKT et
    subst ed
    obtain ⟨b, ex, hb⟩ := (show Vw c.K G2 H2 (.tuple (ks.map keyD)) x from .inl (Rp.mono g2 _ _ r1)).keyT S3.sub
    have S4 := State.rePlus (o := .dT []) (o' := .dT [(ks, y)]) trivial trivial (fun _ z => nomatch z) (fun k q z => by unfold CodeO at z; cases z) S3
    have er : RpT c.K G2 [(.tuple (ks.map keyD), vd)] [(ks, y)] := ⟨ks, y, [], rfl, rfl, r2, rfl⟩
    exact ⟨b, ks, ex, hb, a2 D _ G2 (S4.minus nd fgn) (g1.trans g2) (NewAt.still nd (ObjD.dT er) trivial S4)⟩

set_option autoImplicit false
section
variable {X : Cx} {c : Ct} {F : Fr} {ρ : Env} {σ : L2.St} {G H : Hp} {a b d tg : Expr} {p pos tpos : Pos}
end

set_option autoImplicit false

set_option autoImplicit false

set_option autoImplicit false
def encT (b : List Int) : PyData := .tuple (b.map PyData.int)
def sortTs (bs : List (List Int)) : List (List Int) := bs.mergeSort (PySem.W.dataLe false encT)
def rSortTs (K : PySem.W.Frag) : List V → Hp → VK → Prop := fun vs H Q => ∃ (a : Addr) (xs : List V) (bs : List (List Int)) (Rx : V → List Int → Prop), vs = [V.ref a] ∧ SqL K H a xs ∧ PySem.W.EachIs Rx xs bs ∧ (∀ x b, Rx x b → Dp K H x (encT b)) ∧ (∀ b ∈ bs, b ≠ []) ∧
  ∀ (ys : List V) (p : Addr), PySem.W.EachIs Rx ys (sortTs bs) → H p = none → Q (.ref p) (upd H p (.lst ys))
theorem each_vals {Rx : V → List Int → Prop} : ∀ {xs : List V} {us : List Value} {bs : List (List Int)}, Vals xs us → PySem.W.EachIs Rx xs bs → PySem.W.EachIs (fun v b => ∃ x, RelV x v ∧ Rx x b) us bs
  | _, _, _, .nil, .nil => .nil
  | _, _, _, .cons r t, .cons h e => .cons ⟨_, r, h⟩ (each_vals t e)
theorem vals_each {Rx : V → List Int → Prop} : ∀ {us : List Value} {bs : List (List Int)}, PySem.W.EachIs (fun v b => ∃ x, RelV x v ∧ Rx x b) us bs → ∃ xs, Vals xs us ∧ PySem.W.EachIs Rx xs bs
  | _, _, .nil => ⟨[], .nil, .nil⟩
  | _, _, .cons ⟨x, r, h⟩ e => by
    obtain ⟨xs, t, e'⟩ := vals_each e
    exact ⟨x :: xs, .cons r t, .cons h e'⟩
theorem cr_sortTs {X : Cx} (hu : X.A.units + 65 < cLine) : CallR X (.builtin "sorted") (rSortTs X.K) := by
  intro pins s σ H vs us Q I r h
  obtain ⟨a, xs, bs, Rx, rfl, hs, he, hd, hn, q⟩ := h
  obtain ⟨its, rv, hl, hz⟩ := I.list hs
  rw [Vals.ref1 r]
  have e1 := each_vals rv he
  refine PySem.W.sorted_data (enc := encT) hl.isList e1 (e1.mono fun v b ⟨x, r, h⟩ => Dp.reads I _ x v (hd x b h) r) (PySem.W.AllAlike.of fun b b' => by simp only [encT, PySem.W.alike]; exact PySem.W.alike_ints b b') (.inl fun d hd' => ?_) (by rw [← he.length]; exact hz) (fun b hb => ?_) fun out hlen ho => ?_
  · obtain ⟨b, hb, rfl⟩ := List.mem_map.mp hd'
    cases b with
    | nil => exact absurd rfl (hn _ hb)
    | cons x r => exact ⟨_, _, rfl⟩
  · have : (encT b).depth = 1 := by
      unfold encT
      simp only [PyData.depth, PySem.W.depth_ints]
    rw [this]
    omega
  · obtain ⟨ys, hy, hy2⟩ := vals_each ho
    obtain ⟨ep, he'⟩ := PyProof.Rows.sortedAll_at s.heap its out.toArray
    have hl2 : ys.length ≤ sizeLine := by
      rw [hy.length, hlen, ← he.length]
      exact hz
    exact ⟨.ref _, upd H (s.heap.objs.size + 1) (.lst ys), I.laid (t' := s.toks) (fun _ _ => PyProof.Rows.sortedAll_old) (Nat.le_succ _) ⟨hl2, out, ep, hy, he'⟩, rfl, q _ _ hy2 (I.hok.fresh (Nat.le_succ _))⟩
section
variable {X : Cx} {c : Ct} {F : Fr} {ρ : Env} {σ : L2.St} {G H : Hp} {K : PySem.W.Frag} {e : Expr} {p pos : Pos}
/-- non-empty tuples of ints -/
def dTups : List D → Option (List (List Int))
  | [] => some []
  | .tuple (x :: r) :: ds => (dInts (x :: r)).bind fun b => (dTups ds).map fun bs => b :: bs
  | _ :: _ => none
theorem dTups_map : ∀ {ds : List D} {bs : List (List Int)}, dTups ds = some bs → ds = bs.map encT ∧ ∀ b ∈ bs, b ≠ []
  | [], bs, h => by cases h; exact ⟨rfl, fun b hb => by cases hb⟩
  | d :: ds, bs, h => by
    unfold dTups at h
    split at h
    · cases (‹_ = _› : _ :: _ = [])
    · rename_i x r ds' e0
      cases e0
      cases e1 : dInts (x :: r) with
      | none => rw [e1] at h; cases h
      | some b =>
        rw [e1] at h
        cases e2 : dTups ds with
        | none => rw [e2] at h; cases h
        | some bs' =>
          rw [e2] at h
          cases h
          obtain ⟨h1, h2⟩ := dTups_map e2
          have eb := dInts_map e1
          refine ⟨by rw [List.map_cons, ← h1, encT, ← eb], fun b' hb => ?_⟩
          rcases List.mem_cons.mp hb with rfl | hb
          · intro z
            rw [z] at eb
            cases eb
          · exact h2 b' hb
    · cases h
theorem dTups_of : ∀ {bs : List (List Int)}, (∀ b ∈ bs, b ≠ []) → dTups (bs.map encT) = some bs
  | [], _ => rfl
  | b :: bs, h => by
    have ih := dTups_of fun b' hb => h b' (List.mem_cons_of_mem _ hb)
    cases b with
    | nil => exact absurd rfl (h [] List.mem_cons_self)
    | cons x r =>
      show (dInts ((x :: r).map PyData.int)).bind _ = _
      rw [dInts_of]
      show (dTups (bs.map encT)).map _ = _
      rw [ih]
      rfl
def dSortT : List D → Option D
  | [.list ds] => (dTups ds).map fun bs => .list ((sortTs bs).map encT)
  | _ => none
theorem RpL.each {G : Hp} : ∀ {bs : List (List Int)} {vs : List V}, RpL K G (bs.map encT) vs → PySem.W.EachIs (fun v b => Rp K G (encT b) v) vs bs
  | [], _, h => by cases (show _ = _ from h); exact .nil
  | b :: bs, _, ⟨v, r, e, h, t⟩ => by
    subst e
    exact .cons h (RpL.each t)
theorem RpL.of_each {G : Hp} : ∀ {bs : List (List Int)} {vs : List V}, PySem.W.EachIs (fun v b => Rp K G (encT b) v) vs bs → RpL K G (bs.map encT) vs
  | _, _, .nil => rfl
  | _, _, .cons h t => ⟨_, _, rfl, h, RpL.of_each t⟩
theorem no_encT (b : List Int) : okD (encT b) = true := by
  have h : ∀ l : List Int, PyData.canLayAll0 (l.map PyData.int) = true := fun l => by
    induction l with
    | nil => simp [PyData.canLayAll0]
    | cons x l ih => simp only [List.map_cons, PyData.canLayAll0, PyData.canLay0, ih, Bool.and_self]
  unfold okD SeqAt.shaped encT
  simp only [PyData.canLay0, PyData.depth, h, PySem.W.depth_ints, Bool.true_and]
  decide
theorem p_sortT : PrimNL K dSortT (rSortTs K) := fun G H xs ds d Q s vw e q => by
  unfold dSortT at e
  split at e
  · rename_i ds
    obtain ⟨v, rfl, v⟩ := vwl1 vw
    obtain ⟨a, xs, rfl, ha, ra⟩ := v.lst s
    cases eb : dTups ds with
    | none => rw [eb] at e; cases e
    | some bs =>
      rw [eb] at e
      cases e
      obtain ⟨h1, h2⟩ := dTups_map eb
      rw [h1] at ra
      exact ⟨a, xs, bs, fun v b => Rp K G (encT b) v, rfl, .inl (.inl ha), ra.each, fun x b h => Vw.dp s (okD.no (no_encT b)) (.inl h), h2, fun ys p hy hp => q _ _ ⟨p, _, rfl, hp, rfl, .lst (RpL.of_each hy), trivial⟩⟩
  · cases e
theorem fe_sortT {o : Opd} (hu : X.A.units + 65 < cLine) (hK : X.K = c.K) (hg : Gl X "sorted") (hm : X.mg "sorted" = none) (ha : PA X [e] (tOs c [o]))
    (he : starEach [e] X.env = (false, eval e X.env) :: starEach [] X.env := by rfl) : PE X (.Call (.Name "sorted" p) [e] [] pos) (tF c (mFn dSortT [o])) := by
  refine fe_fnB (c := c) (r := rSortTs X.K) (cr_sortTs hu) ?_ hg hm boot_sorted ha (he := he)
  rw [hK]
  exact p_sortT
end

set_option autoImplicit false
def tGetA2 (td ty tx : TE) : TE := fun σ H Q => td σ H fun x H1 => ∃ a, x = .ref a ∧ IsD H1 a ∧ ty σ H1 fun y H2 => tx σ H2 fun z H3 => ∃ o, AskD H3 a y o ∧ Q (o.getD z) H3
section
variable {X : Cx} {o e f : Expr} {apos cpos : Pos} {td ty tx : TE}
theorem pe_getA2 (hu : X.A.units + 1 < cLine) (ho : PE X o td) (he : PE X e ty) (hf : PE X f tx) (m : M2 X o "get" apos e f cpos) : PE X (.Call (.Attribute o "get" apos) [e, f] [] cpos) (tGetA2 td ty tx) := by
  refine ⟨fun pins s σ H Q I h => ?_⟩
  refine wpAny_Call_method m.base m.few m.line PySem.F.plainAttrs_dict PySem.F.slot_dict_get PySem.F.type_dict_get (thn (ho.run pins s σ H _ I h) fun u s1 ⟨x, H1, I1, rx, a, ex, d, q1⟩ => ?_)
  subst ex
  obtain rfl : u = Value.ref a := rx
  obtain ⟨t1, t2, _⟩ := isD_at I1 d
  refine ⟨t1, t2, ?_⟩
  rw [m.trees]
  refine Calls.callWith_builtin rfl (Calls.evalArgs_plain (Calls.spliced_cons (thn (he.run pins s1 σ H1 _ I1 q1) fun iv s2 ⟨y, H2, I2, ry, q2⟩ =>
    Calls.spliced_cons (thn (hf.run pins s2 σ H2 _ I2 q2) fun fv s3 ⟨z, H3, I3, rz, ov, g, q3⟩ => Calls.spliced_nil ?_))))
  rcases g with g | ⟨e1, g⟩ | ⟨e1, g⟩
  · exact d_get2 hu I3 g ry rz fun w' s4 I4 rw' => ⟨_, H3, I4, rw', q3⟩
  · exact d_get2 hu (Inv.dKT I3 e1) g ry rz fun w' s4 I4 rw' => ⟨_, H3, by have z := Inv.dTK I4 upd_same; rw [upd_back e1] at z; exact z, rw', q3⟩
  · exact d_get2 hu (Inv.dTK I3 e1) g ry rz fun w' s4 I4 rw' => ⟨_, H3, by have z := Inv.dKT I4 upd_same; rw [upd_back e1] at z; exact z, rw', q3⟩
end
/-- no dict of the kind [(None, list)] -/
def plainKvs : List (D × D) → Bool
  | [(.none, _)] => false
  | _ => true
def mGet1 (i : Nat) (m : ME) : ME := fun ρ => match at_ ρ i with
  | some (.dict k0) => if plainKvs k0 = true then (m ρ).then fun kd ρ' => (match at_ ρ' i with
    | some (.dict kvs) => if keyFits kvs kd = true then .ok ((dGetV kvs kd).getD .none) ρ' else .stuck
    | _ => .stuck) else .stuck
  | _ => .stuck
def mGet2 (i : Nat) (m n : ME) : ME := fun ρ => match at_ ρ i with
  | some (.dict k0) => if plainKvs k0 = true then (m ρ).then fun kd ρ1 => (n ρ1).then fun xd ρ' => (match at_ ρ' i with
    | some (.dict kvs) => if keyFits kvs kd = true then .ok ((dGetV kvs kd).getD xd) ρ' else .stuck
    | _ => .stuck) else .stuck
  | _ => .stuck
theorem vw_isD {K : PySem.W.Frag} {G H : Hp} {kvs : List (D × D)} {v : V} (s : Sub G H) (h : Vw K G H (.dict kvs) v) (hp : plainKvs kvs = true) : ∃ a, v = .ref a ∧ IsD H a := by
  obtain ⟨a, e, ⟨es, h1, _⟩ | ⟨es, h1, _⟩ | ⟨ns, h1, _⟩⟩ := h.dict s
  · exact ⟨a, e, .inl ⟨es, h1⟩⟩
  · exact ⟨a, e, .inr ⟨es, h1⟩⟩
  · subst h1
    cases hp
section
variable {X : Cx} {c : Ct} {e : Expr}
theorem me_get2 {i : Nat} {m n : ME} (h : PE X e (tGetA2 (tVar i) (tE c m) (tE c n))) : PE X e (tE c (mGet2 i m n)) := pe_conseq h fun σ H Q ⟨F, ρ, G, S, a⟩ => by
  unfold mGet2 at a
  split at a
  · rename_i k0 e0
    split at a
    · rename_i hp
      obtain ⟨v0, es, w0⟩ := S.vw e0
      obtain ⟨p, ev, hd⟩ := vw_isD S.sub w0 hp
      subst ev
      refine ⟨.ref p, es, p, rfl, hd, F, ρ, G, S, (Ask.then a).imp (GLe.refl G) fun d ρ1 a1 v H1 G1 S1 gl1 r1 => ?_⟩
      refine ⟨F, ρ1, G1, S1, (Ask.then a1).imp gl1 fun xd ρ2 k z H2 G2 S2 gl2 r2 => ?_⟩
      split at k
      · rename_i kvs e1
        obtain ⟨v1, es1, w1⟩ := S2.vw e1
        rw [es] at es1
        cases es1
        split at k
        · rename_i hk
          obtain ⟨a', o, ea, ask, hs, hv⟩ := ask_dict S2.sub w1 (.inl (Rp.mono gl2 _ _ r1)) hk
          cases ea
          refine ⟨o, ask, k _ H2 G2 S2 (gl1.trans gl2) ?_⟩
          cases eg : dGetV kvs d with
          | none =>
            rw [eg] at hs
            cases o with
            | none => exact r2
            | some v => cases hs
          | some d' =>
            obtain ⟨v', ev', rv⟩ := hv d' eg
            rw [ev']
            exact rv
        · exact k.elim
      · exact k.elim
    · exact a.elim
  · exact a.elim
end

set_option autoImplicit false
/-- the built-in __init__, bound, called: nothing of it is told -/
theorem call_mw {X : Cx} {pins : List (Addr × Obj)} {σ : L2.St} {H : Hp} {s : Shared} {a C u : Addr} {us : List Value} {A : Around} {E : Value → Shared → Prop} {Q : Value → Shared → Prop} (T : OexC X.K C) (I : Inv X pins σ H s) (e : H a = some (exo a C none))
    (hu : s.heap.get? u = some (PySem.W.kxs_mw "ValueError.__init__" a)) (hl : us.length ≤ sizeLine) (h : ∀ s', Inv X pins σ H s' → Q .none s') : wpAny (model X.prog X.w) A (call (.ref u) us) Q E s := by
  obtain ⟨nm, q, N, bs, bm, sn, sub, ab, col, dd, k0, k1, k2, k3, k5, hC, hbm⟩ := T.cls
  obtain ⟨t1, ho⟩ := exo_at I.hok e
  have fin : ∀ h', (∀ b o, b ≠ a → s.heap.get? b = some o → h'.get? b = some o) → h'.get? a = some ({ cls := .ref C, dict := none, data := .fields #[.ref s.heap.objs.size, .none, .none, .none, .bool false, .none] } : Obj) → Q .none { s with heap := h' } := fun h' k hx => by
    have J := I.write (t' := s.toks) (x := a) (e := a) (o := exo a C none) (by rw [e]; exact True.intro) (.inl rfl) k ⟨_, hx⟩ (exo_ok hx)
    have eu : upd H a (exo a C none) = H := by
      funext b
      by_cases hb : b = a
      · rw [hb, upd_same, e]
      · rw [upd_ne hb]
    rw [eu] at J
    exact h _ J
  have hC' := I.kIn _ _ hC
  obtain ⟨hh, g, d, tk, os⟩ := s
  refine wpAny_call (codeAny_of_tree ?_)
  show wpAny _ A.in1 (callAny (.ref u) ⟨us, []⟩) _ _ _
  simp only [callAny]
  refine wpAny_bind (wpAny_load hu ?_)
  simp only [PySem.W.kxs_mw, show (Value.type "method-wrapper" == Value.type "method" || Value.type "method-wrapper" == Value.type "builtin_function_or_method" || Value.type "method-wrapper" == Value.type "method-wrapper") = true by decide, if_true]
  refine PySem.W.KFB.if_so (by decide) ?_
  refine wpAny_bind (PySem.W.check_bound_init F.excBase_ValueError.toExcCallFacts hC' ho rfl ?_)
  refine wpAny_bind (wpAny_pure (wpAny_pure ?_))
  refine ⟨plainId_quiet F.excBase_ValueError.init.plain _, codeAny_builtin F.excBase_ValueError.initEntry ?_⟩
  exact PySem.W.exc_init_tree (cls := .ref C) (t0 := t1) (dv := none) (c2 := .none) (c3 := .none) (b4 := .bool false) ho hl fun h' k hx _ => fin h' k hx
theorem wpAt_mcall {prog : Program} {w : World} {A : Around} {c : Code} {E : Value → Shared → Prop} {s : Shared} {env : PySem.Env} {o : Expr} {name : Str} {apos pos : Pos} {e : Expr} {Q : Value → Shared → Prop}
    (he : starEach [e] env = (false, eval e env) :: starEach [] env) (hline : (apos.endLine == pos.line) = true)
    (h : ∀ pl, _root_.PySem.wpAt (model prog w) A c (attributeBase o name env (eval o env)) (fun ov s₁ => wpAny (model prog w) A (getMethod ov name pl) (fun fx s₂ => wpAny (model prog w) A (callWith pos fx.1 fx.2 (backTo pos (starEach [e] env)) []) Q E s₂) E s₁) E s) :
    _root_.PySem.wpAt (model prog w) A c (eval (.Call (.Attribute o name apos) [e] [] pos) env) Q E s := by
  rw [arm_eval_Call]
  refine _root_.PySem.wpAt_bind (_root_.PySem.wpAt_mono (h (do return (← importBound o env).getD true)) (fun ov s₁ h₁ => wpAt_of_wpAny (wpAny_bind (wpAny_standAt ?_))) fun _ _ x => x)
  have hform : methodCallForm (([e] : List Expr).length + ([] : List Keyword).length) (backTo pos (starEach [e] env)) (backToKw pos (keywordEach [] env)) = true := by
    rw [he]
    rfl
  have hpos : methodCallPos true o env apos pos = pure pos := by unfold methodCallPos; simp [hline]
  unfold methodCall
  rw [hform]
  refine wpAny_bind (wpAny_holding (wpAny_mono h₁ (fun fx s₂ h₂ => ?_) fun _ _ x => x))
  exact wpAny_bind (wpAny_of_eq hpos h₂)
/-- the body -/
def sinitBody (x fld : Str) (p0 p1 p2 p3 p4 p5 q0 q1 q2 q3 : Pos) : List Stmt :=
  [.Expr (.Call (.Attribute (.Call (.Name "super" p0) [] [] p1) "__init__" p2) [.Name x p3] [] p4) p5, .Assign [.Attribute (.Name "self" q0) fld q1] (.Name x q2) q3]
def spI (C : Addr) (fld : Str) : Sp := fun vs H Q E => ∃ a v, vs = [.ref a, v] ∧ H a = some (exo a C none) ∧ ∀ dx, H dx = none → dx ≠ a → Q .non (upd (upd H dx (exd dx [(fld, v)])) a (exo a C (some dx)))
theorem fnOk_sinit {P : Program} {w : World} {K : PySem.W.Frag} {mg : Str → Option Value} {base : Heap} {CX : CXT} {k : Nat} {C fI cda cc : Addr} {name qual fld x : Str} {params : Arguments} {scope : Scope} {p0 p1 p2 p3 p4 p5 q0 q1 q2 q3 : Pos}
    {doc pm ct kV oc : Value} {an od : Option Addr} {osl ccs csl : Array (Option Value)} {ccl cl : Value} {cdd cld : Option Addr} {vs : Array Value} {file : Str} {tf : Tok} {ar : PySem.Arg}
    (T : OexC K C)
    (hf : K.lookup fI = some ⟨oc, od, .func (PySem.W.fnX name qual params (sinitBody x fld p0 p1 p2 p3 p4 p5 q0 q1 q2 q3) scope [("__class__", cc)] .none kV doc pm an (.ref cda) ct), osl⟩)
    (hcd : PySem.W.codeIn K (.ref cda) qual = true)
    (hcode : K.lookup cda = some ⟨ccl, cdd, .fields vs, ccs⟩) (hvs : vs[2]? = some (.str file tf)) (hfile : ((P.main.file : Str) == file) = true)
    (hcell : K.lookup cc = some ⟨cl, cld, .cell (some (.ref C)), csl⟩)
    (hp : (params.posonlyargs ++ params.args).head? = some ar) (har : ar.arg = "self")
    (S : NdefX.NScope ["self", x, "__class__"] ["self", x] ["__class__"] scope)
    (hks : scope.names.lookup ("super" : Str) = some .globalImplicit) (htop : (P.main.scope.names.lookup ("super" : Str)).isSome = false) (hsuper : mg "super" = none)
    (hop : PySem.W.nsIn K cStatics "thirdparty.any" = some none)
    (hsub : PySem.W.mroIn K C (.ref C) = some true) (hVE : PySem.W.mroIn K C (.type "ValueError") = some true)
    (hinit : PySem.W.ks_superIn K C C "__init__" = some (some (.builtin "ValueError.__init__")))
    (hno : PySem.W.findIn K (.ref C) fld = some none) (hline : (p2.endLine == p4.line) = true) (hdb : (x == ("__debug__" : Str)) = false) (hdc : (x == ("__classdict__" : Str)) = false) : FnOk P w K mg base CX (k + 1) fI (PySem.W.fnX name qual params (sinitBody x fld p0 p1 p2 p3 p4 p5 q0 q1 q2 q3) scope [("__class__", cc)] .none kV doc pm an (.ref cda) ct) ["self", x] (spI C fld) := by
  refine ⟨fun vs H Q E ⟨a, v, e, _⟩ => by rw [e]; rfl, fun A outer s H args us vs Q E hr e0 hb hv ⟨a, v, ev, ha, hq⟩ => ?_⟩
  subst ev
  obtain ⟨hh, gs, dr, tk, os⟩ := s
  have KIn : K.In hh := e0.mod.kin.keeps fun b o e => (e0.bs b o e).1
  have lim : hh.NoLimit := e0.mod.nolimit.keeps fun b o e => (e0.bs b o e).1
  have kb : ∀ b o, K.lookup b = some o → H b = none := fun b o e => (e0.bs b o (e0.mod.kin b o e)).2
  let NFx : NdefX.NF := ⟨name, qual, params, sinitBody x fld p0 p1 p2 p3 p4 p5 q0 q1 q2 q3, scope, [("__class__", cc)], cda⟩
  have Cs : NdefX.CellsAt NFx.cl ["__class__"] [none] hh H := by
    have hone : ∀ (y : Str) (c : Addr), NFx.cl.lookup y = some c → y = ("__class__" : Str) ∧ c = cc := fun y c e => by
      have e' : (match y == ("__class__" : Str) with | true => some cc | false => none) = some c := e
      cases hy : y == ("__class__" : Str) with
      | true => rw [hy] at e'; cases e'; exact ⟨eq_of_beq hy, rfl⟩
      | false => rw [hy] at e'; cases e'
    refine ⟨rfl, fun y c e => ?_, fun y z c e1 e2 => ((hone y c e1).1).trans ((hone z c e2).1).symm, fun i y e => ?_⟩
    · obtain ⟨_, rfl⟩ := hone y c e
      exact ⟨kb _ _ hcell, _, _, KIn _ _ hcell, rfl⟩
    · cases i with
      | zero => cases e; exact ⟨cc, rfl, fun v z => by cases z⟩
      | succ i => cases e
  refine PySem.ks_codeAny_call_defAt (binds := (["self", x] : List Str).zip us) hr.depth (KIn _ _ hf) rfl lim (PySem.W.codeRec_of KIn hcd) rfl hb S.nocell (fun y hy => ?_) (fun h₁ hns hk₁ => ?_) S.co S.gen S.kind
  · obtain ⟨n, u⟩ := y
    exact S.par n (List.of_mem_zip hy).1
  have I1 := NdefX.inv_startN (CX := CX) (E := E) (f := fI) (F := NFx) (ws := [none]) (tk := tk + ((["self", x] : List Str).zip us).length) S hr.hd e0 rfl hv Cs hns hk₁
  obtain ⟨u0, u, rfl⟩ : ∃ u0 u, us = [u0, u] := by
    cases hv with
    | cons r t => cases t with
      | cons r2 t2 => cases t2; exact ⟨_, _, rfl⟩
  obtain rfl : u0 = Value.ref a := by cases hv with | cons r t => exact r
  obtain ⟨nm, q, N, bs, bm, sn, sub, ab, col, dd, k0, k1, k2, k3, k5, hC, hbm⟩ := T.cls
  have hcl : PySem.W.clsIn K C = some { name := nm, bases := bs, mro := .ref C :: bm, ns := N, qualname := q, hasDict := true, slotNames := sn, subclasses := sub, abstract := ab, collection := col, hasDel := false } := by unfold PySem.W.clsIn; rw [hC] <;> rfl
  obtain ⟨t1, ho⟩ := exo_at I1.hok ha
  have loc1 : ∀ (i : Nat) (y : Str) (v' : V), (["self", x, "__class__"] : List Str)[i]? = some y → y ∈ (["self", x] : List Str) → (NdefX.startF ["self", x, "__class__"] [V.ref a, v] [none])[i]? = some (some v') → ∃ m u, h₁.Ns hh.objs.size m ∧ m y = some u ∧ RelV v' u ∧ scope.names.lookup y = some .local := fun i y v' e1 e2 e3 => by
    obtain ⟨m, hn, hl⟩ := I1.loc
    have hlk := S.par y e2
    obtain ⟨u', r, l⟩ := hl i y v' e1 e3 (.inl hlk)
    rcases l with ⟨_, l⟩ | ⟨l, _⟩
    · exact ⟨m, u', hn, l, r, hlk⟩
    · have l' : scope.names.lookup y = some .cell ∨ scope.names.lookup y = some .free := l
      rw [hlk] at l'
      rcases l' with l' | l' <;> cases l'
  obtain ⟨m0, u1, hn0, hm0, ru1, hl0⟩ := loc1 0 "self" (.ref a) rfl (by simp) rfl
  obtain rfl : u1 = Value.ref a := ru1
  have hxC : a ≠ C := fun z => by rw [z] at ha; rw [kb _ _ hC] at ha; cases ha
  have hkc : scope.names.lookup ("__class__" : Str) = some .free := S.frk _ (by simp)
  unfold sinitBody
  have hD1 := hk₁ _ _ (KIn _ _ hC)
  obtain ⟨mb, b1, b2⟩ := I1.mod.blt
  refine PySem.ks_wpAt_execs_cons (PySem.ks_wpAt_Expr_any (wpAt_mcall rfl hline fun pl => PySem.ks_wpAt_super_base (f := fI) (cc := cda) (ar := ar) hks hkc (by decide) rfl (hk₁ _ _ (KIn _ _ hf)) rfl hp rfl (hk₁ _ _ (KIn _ _ hcode)) rfl hvs hfile htop ?_) (by show (scope.kind == .module && _) = false; rw [S.kind]; rfl))
  refine PySem.W.ks_loadName_global S.kind hks (Calls.loadGlobal_builtin (mg := mg) (mb := mb) (I1.mod.glob.keeps I1.bk) hsuper (b1.keeps I1.bk) ((b2 "super" (by decide)).trans (by decide +kernel : bootBuiltins "super" = some (.type "super"))) ⟨rfl, ?_⟩)
  refine wpAny_loadName_free S.kind hkc rfl ⟨_, hk₁ _ _ (KIn _ _ hcell), rfl⟩ ?_
  refine wpAny_loadName_local S.kind (by rw [har]; exact hl0) hn0 (by rw [har]; exact hm0) ?_
  refine PySem.ks_wpAny_isType_cls hD1 rfl ⟨rfl, ?_⟩
  refine PySem.ks_wpAny_call_super hD1 rfl ho rfl (fun c e => nomatch e) (PySem.W.looks_mroIn (KIn.keeps hk₁) hsub) (fun h2 hso keep => ?_)
  have I2 := I1.kept (t' := tk + ((["self", x] : List Str).zip [Value.ref a, u]).length) keep
  have KI2 : K.In h2 := (KIn.keeps hk₁).keeps keep
  have hin : PySem.W.alongIn K "__init__" (((Value.ref C :: bm).dropWhile (· != .ref C)).drop 1) = some (some (.builtin "ValueError.__init__")) := by
    unfold PySem.W.ks_superIn at hinit
    rw [hcl] at hinit
    exact hinit
  have IA : PySem.W.InstAt h2 a _ C none := ⟨keep _ _ ho, rfl, rfl, trivial⟩
  refine PySem.W.kxs_getMethod PySem.W.kxs_ValueError hso (PySem.W.looks_opaque KI2 hop) (l₀ := .ref C :: bm) (fun A Q E s k q => wpAny_bind ((PySem.W.looks_clsIn KI2 hcl) A _ E s k (wpAny_pure q))) rfl KI2 hin (IA.type.andThen (PySem.W.looks_mroIn KI2 hVE)) hxC (by decide) ?_
  have I3 := I2.kept (h' := h2.push (PySem.W.kxs_mw "ValueError.__init__" a)) (t' := tk + ((["self", x] : List Str).zip [Value.ref a, u]).length + 1) fun b o e => Heap.get?_push_of_some _ e
  have hmw : (h2.push (PySem.W.kxs_mw "ValueError.__init__" a)).get? h2.objs.size = some (PySem.W.kxs_mw "ValueError.__init__" a) := Heap.get?_push_size _ rfl
  obtain ⟨m3, hn3, hl3⟩ := I3.loc
  obtain ⟨u3, r3, l3⟩ := hl3 1 x v rfl rfl (.inl (S.par x (by simp)))
  have hm3 : m3 x = some u3 := by
    rcases l3 with ⟨_, l⟩ | ⟨l, _⟩
    · exact l
    · have l' : scope.names.lookup x = some .cell ∨ scope.names.lookup x = some .free := l
      rw [S.par x (by simp)] at l'
      rcases l' with l' | l' <;> cases l'
  show wpAny _ _ (callWith p4 (.ref h2.objs.size) [] [(false, eval (.Name x p3) _)] []) _ _ _
  refine PySem.W.kxs_callWith (i := "ValueError.__init__") (x := a) rfl (Calls.evalArgs_plain (Calls.spliced_cons (wpAny_Name (wpAny_loadName_local S.kind (S.par x (by simp)) hn3 hm3 (Calls.spliced_nil ⟨hmw, ?_⟩)) hdb)))
  refine call_mw (us := [u3]) T I3 ha hmw (by show 1 ≤ sizeLine; rw [sizeLine_eq]; omega) fun s4 I4 => ?_
  have hsw : swapsWith (.Name x q2) (some (.Attribute (.Name "self" q0) fld q1)) q3.line (NdefX.envF NFx fI hh.objs.size) = pure false := rfl
  have body := pss_one (ps_ost (f := fld) (pos := q3) (p' := q1) (pe_var (X := NdefX.ncx CX P w K mg base ["self", x, "__class__"] NFx fI A outer ⟨hh, gs, dr, tk, os⟩ H E) (i := 0) (x := "self") (pos := q0) rfl (.inl (S.par _ (by simp))) (by decide) (by decide))
    (pe_var (X := NdefX.ncx CX P w K mg base ["self", x, "__class__"] NFx fI A outer ⟨hh, gs, dr, tk, os⟩ H E) (i := 1) (x := x) (pos := q2) rfl (.inl (S.par x (by simp))) hdb hdc) hsw)
  refine wpAt_of_wpAny (wpAny_mono (body.run [] s4 _ H { nx := fun _ H' => Q .non H', rt := Q } I4 ?_) (fun fl s' hs => ?_) fun e s' hs => hs)
  · exact ⟨v, rfl, .ref a, rfl, a, C, rfl, T, hno, .inl ⟨ha, fun dx h1 h2 => hq dx h1 h2⟩⟩
  · have fin : ∀ {σ' : L2.St} {H' : Hp} {v : V} {u : Value}, Inv (NdefX.ncx CX P w K mg base ["self", x, "__class__"] NFx fI A outer ⟨hh, gs, dr, tk, os⟩ H E) [] σ' H' s' → RelV v u → Q v H' → CE outer P w H ⟨hh, gs, dr, tk, os⟩ Q u s' :=
      fun {σ' H' v u} J rv q => ⟨v, H', J.os, J.bare, J.base, J.hok, rv, q⟩
    cases fl with
    | ret u =>
      obtain ⟨v, σ', H', J, rv, q⟩ := hs
      exact fin J rv q
    | next =>
      obtain ⟨σ', H', J, q⟩ := hs
      exact fin (v := V.non) (u := Value.none) J rfl q
    | brk =>
      obtain ⟨_, _, _, q⟩ := hs
      exact False.elim q
    | cont =>
      obtain ⟨_, _, _, q⟩ := hs
      exact False.elim q

set_option autoImplicit false
open PySem PySem.Spec PySem.Calls PyProof.Rows L2 LamX PySem.W
section
variable {P0 : Program} {w0 : World} {A0 : Around} {E0 : Value → Shared → Prop} {s0 : Shared} {K0 : PySem.W.Frag} {y C : Addr} {oy : Obj} {oD : Option Obj}
end
def sRaiseF (x f : Str) (m : ME) : SM := fun ρ => (m ρ).sr fun d ρ' => .ex ⟨x, some (f, d)⟩ ρ'
/-- an own error of the text with an __init__ that keeps its argument in the field f -/
def ERF (P : Program) (w : World) (K : PySem.W.Frag) (mg : Str → Option Value) (base : Heap) (x f : Str) : Prop := ∃ C fI fd ps, mg x = some (.ref C) ∧ OexC K C ∧ PySem.W.findIn K (.ref C) "__init__" = some (some (.ref fI)) ∧ PySem.W.typeIn K (.ref fI) = some (.type "function") ∧
  (∀ k, FnOk P w K mg base C8.CX0 (k + 1) fI fd ps (spI C f)) ∧ Binds K fd ps []
theorem State.allocX {c : Ct} {F : Fr} {ρ : Env} {σ : L2.St} {G H : Hp} (S : State c F ρ σ G H) {p : Addr} {fs : List (Str × V)} (h : H p = none) : State c F ρ σ G (upd H p (.xd fs)) := by
  have tg : ∀ (q : Addr) (ks : List Key), upd H p (.xd fs) q = some (.tup (ks.map kV)) → G q = some (.tup (ks.map kV)) := fun q ks e => by
    by_cases z : q = p
    · rw [z, upd_same] at e; cases e
    · rw [upd_ne z] at e; exact S.tupG q ks e
  obtain ⟨h1, h2, h3, h4, h5⟩ := S.alloc0 h fun q ks e => .inl (tg q ks e)
  exact ⟨h1, h2, S.wf, h3, h4, S.tabG, S.len, h5, S.apart, S.io, S.ios, S.ioD, tg⟩
section
variable {X : Cx} {c : Ct} {e : Expr} {m : ME} {p pos pos' : Pos} {x f : Str} {k : Nat}
theorem st_raiseF (hc : X.calm = true) (tk : Takes X c.W) (h : ERF X.prog X.w X.K X.mg X.base x f) (hG : c.mg = X.mg) (hK : X.K = c.K) (hr : Room (k + 2) X.A) (hg : Gl X x) (he : PE X e (tE c m)) (hdb : (x == ("__debug__" : Str)) = false := by decide)
    (hst : starEach [e] X.env = (false, eval e X.env) :: starEach [] X.env := by rfl) : PS X (.Raise (some (.Call (.Name x p) [e] [] pos)) none pos') (tS c (sRaiseF x f m)) := by
  obtain ⟨C, fI, fd, ps, gC, T, iC, tI, F1, hb⟩ := h
  refine ps_conseq (ps_raise hc tk (pmk_oex (ta := tMs c [m]) T iC tI (F1 k) hr hb .nil (fun _ _ _ _ _ _ _ z => z.elim) hg gC (ms_cons he ms_nil (hs := hst)) hdb hst rfl)) fun D σ H ⟨F, ρ, G, S, a⟩ => ?_
  unfold sRaiseF at a
  refine ⟨F, ρ, G, S, (SAsk.sr a).imp (GLe.refl G) fun d ρ1 q v H1 G1 S1 gl1 r1 => ?_⟩
  refine ⟨by simp, fun y hy => ⟨y, v, rfl, upd_same, fun dx hdx ne => ⟨rfl, dx, [(f, v)], upd_same, by rw [upd_ne ne]; exact upd_same, ?_, ?_⟩⟩⟩
  · rw [upd_ne ne] at hdx; exact hdx
  · have hdx1 : H1 dx = none := by rw [upd_ne ne] at hdx; exact hdx
    have eH : upd (del (upd (upd (upd H1 y (exo y C none)) dx (exd dx [(f, v)])) y (exo y C (some dx))) y) dx (.xd [(f, v)]) = upd H1 dx (.xd [(f, v)]) := by
      funext b
      by_cases h1 : b = dx
      · rw [h1, upd_same, upd_same]
      · rw [upd_ne h1, upd_ne h1]
        by_cases h2 : b = y
        · rw [h2, del_same, hy]
        · rw [del_ne h2, upd_ne h2, upd_ne h1, upd_ne h2]
    rw [eH]
    exact q (.ref C) (some dx) σ _ G1 (S1.allocX hdx1) gl1 ⟨C, by rw [hG]; exact gC, rfl, dx, v, rfl, upd_same, r1⟩
end

set_option autoImplicit false
/-- the first def of a class -/
def initOf : Stmt → Stmt
  | .ClassDef (body := b :: _) .. => b
  | s => s
theorem erf_of {P : Program} {w : World} {K : PySem.W.Frag} {mg : Str → Option Value} {C fI cda cc : Addr} {name qual n fld x : Str} {params : Arguments} {body : List Stmt} {scope : Scope} {p0 p1 p2 p3 p4 p5 q0 q1 q2 q3 : Pos}
    {doc pm ct kV oc : Value} {an od : Option Addr} {osl ccs csl : Array (Option Value)} {ccl cl : Value} {cdd cld : Option Addr} {vs : Array Value} {file : Str} {tf : Tok} {ar : PySem.Arg}
    {nm q : Str} {N : Addr} {bs bm : List Value} {sn : List Str} {sub : List Value} {ab : Bool} {col : Option Bool} {dd : Option Addr} {k0 k1 k2 k3 k5 : Option Value}
    (gC : mg n = some (.ref C)) (hC : K.lookup C = some (excClassObj nm q C N bs bm true sn sub ab col dd k0 k1 k2 k3 k5 "ValueError.__new__")) (hbm : PySem.HandSPX.refsVE bm = true)
    (sa : PySem.W.findIn K (.ref C) "__setattr__" = some (some (.builtin "object.__setattr__"))) (exC : PySem.W.subIn K (.ref C) (.type "BaseException") = some true) (tyC : PySem.W.typeIn K (.ref C) = some (.type "type")) (kC : PySem.W.keepIn K (.ref C) = true)
    (iC : PySem.W.findIn K (.ref C) "__init__" = some (some (.ref fI))) (tI : PySem.W.typeIn K (.ref fI) = some (.type "function"))
    (hf : K.lookup fI = some ⟨oc, od, .func (PySem.W.fnX name qual params body scope [("__class__", cc)] .none kV doc pm an (.ref cda) ct), osl⟩) (hcd : PySem.W.codeIn K (.ref cda) qual = true)
    (hcode : K.lookup cda = some ⟨ccl, cdd, .fields vs, ccs⟩) (hvs : vs[2]? = some (.str file tf)) (hfile : ((P.main.file : Str) == file) = true) (htop : (P.main.scope.names.lookup ("super" : Str)).isSome = false)
    (hcell : K.lookup cc = some ⟨cl, cld, .cell (some (.ref C)), csl⟩) (hsuper : mg "super" = none) (hop : PySem.W.nsIn K cStatics "thirdparty.any" = some none)
    (hsub : PySem.W.mroIn K C (.ref C) = some true) (hVE : PySem.W.mroIn K C (.type "ValueError") = some true) (hinit : PySem.W.ks_superIn K C C "__init__" = some (some (.builtin "ValueError.__init__"))) (hno : PySem.W.findIn K (.ref C) fld = some none)
    (hbody : body = sinitBody x fld p0 p1 p2 p3 p4 p5 q0 q1 q2 q3 := by rfl) (hp : (params.posonlyargs ++ params.args).head? = some ar := by rfl) (har : ar.arg = "self" := by rfl) (S : NdefX.NScope ["self", x, "__class__"] ["self", x] ["__class__"] scope := by exact NdefX.nscope_by (by decide +kernel))
    (hks : scope.names.lookup ("super" : Str) = some .globalImplicit := by decide +kernel) (hline : (p2.endLine == p4.line) = true := by rfl) (hdb : (x == ("__debug__" : Str)) = false := by decide) (hdc : (x == ("__classdict__" : Str)) = false := by decide)
    (hb : ∀ us : List Value, us.length = 2 → bindArgs (PySem.W.fnX name qual params body scope [("__class__", cc)] .none kV doc pm an (.ref cda) ct) ⟨us, []⟩ = pure ((["self", x] : List Str).zip us) := by intro us hl; exact (match us, hl with | [_, _], _ => rfl)) : ∀ base, ERF P w K mg base n fld := fun base => by
  subst hbody
  have T : OexC K C := ⟨⟨nm, q, N, bs, bm, sn, sub, ab, col, dd, k0, k1, k2, k3, k5, hC, hbm⟩, sa, exC, tyC, kC⟩
  exact ⟨C, fI, _, ["self", x], gC, T, iC, tI, fun k => fnOk_sinit T hf hcd hcode hvs hfile hcell hp har S hks htop hsuper hop hsub hVE hinit hno hline hdb hdc, Binds.all fun us hl => hb us hl⟩

set_option autoImplicit false
def dStrL : List D → Option (List Str)
  | [] => some []
  | .str x :: r => (dStrL r).map fun ys => x :: ys
  | _ :: _ => none
theorem dStrL_map : ∀ {ds : List D} {ys : List Str}, dStrL ds = some ys → ds = ys.map PyData.str
  | [], _, h => by cases h; rfl
  | .str x :: r, _, h => by
    simp only [dStrL] at h
    cases e : dStrL r with
    | none => rw [e] at h; cases h
    | some zs =>
      rw [e] at h
      cases h
      rw [dStrL_map e]
      rfl
  | .none :: _, _, h => by cases h
  | .bool _ :: _, _, h => by cases h
  | .int _ :: _, _, h => by cases h
  | .list _ :: _, _, h => by cases h
  | .tuple _ :: _, _, h => by cases h
  | .dict _ :: _, _, h => by cases h
def mJoin (a : Str) (m : ME) : ME := fun ρ => (m ρ).then fun d ρ' => match d with
  | .list ds => (match dStrL ds with
    | some ys => if (ys.map (·.length)).sum + ys.length * a.length ≤ 16777216 then .ok (.str (Txt.join a ys)) ρ' else .stuck
    | none => .stuck)
  | _ => .stuck
abbrev rJoinT (K : PySem.W.Frag) : V → List V → Hp → VK → Prop := fun x xs H Q => ∃ a p, ∃ ys : List Str, x = .str a ∧ xs = [.ref p] ∧ (SqL K H p (ys.map V.str) ∨ SqT K H p (ys.map V.str)) ∧ (ys.map (·.length)).sum + ys.length * a.length ≤ 16777216 ∧ Q (.str (Txt.join a ys)) H
section
variable {X : Cx} {c : Ct} {e : Expr}
theorem me_join {a : Str} {m : ME} (h : PE X e (tBM X.K "str" (rJoinT X.K) (fun _ H Q => Q (.str a) H) (tMs c [m]))) : PE X e (tE c (mJoin a m)) := pe_conseq h fun σ H Q ⟨F, ρ, G, S, q⟩ => by
  refine ⟨rfl, F, ρ, G, S, (Ask.then q).imp (GLe.refl G) fun d ρ1 k v H1 G1 S1 gl1 r1 => ?_⟩
  split at k
  · rename_i ds
    split at k
    · rename_i ys ei
      split at k
      · rename_i hle
        obtain ⟨p0, xs, ev, hp, rx⟩ := (show ∃ a xs, v = .ref a ∧ G1 a = some (.lst xs) ∧ RpL c.K G1 ds xs from r1)
        subst ev
        rw [dStrL_map ei] at rx
        have ex := rx.strs
        subst ex
        exact ⟨a, p0, ys, rfl, rfl, .inl (.inl (.inl (S1.sub.lst hp))), hle, k _ H1 G1 S1 gl1 rfl⟩
      · exact k.elim
    · exact k.elim
  · exact k.elim
end

set_option autoImplicit false
section
variable {P : Program} {w : World} {A : Around} {E : Value → Shared → Prop} {s : Shared}
set_option maxHeartbeats 6400000 in
end

set_option autoImplicit true
/-- a text's characters, each a text -/
def chars (x : Str) : List D := x.cps.toList.map fun c => .str ⟨#[c]⟩
/-- a list's, a tuple's items, a text's characters -/
def iSeqS (m : ME) : MI := fun ρ => (m ρ).then fun d ρ' => match d with
  | .list ds => .ok ds ρ'
  | .tuple ds => .ok ds ρ'
  | .str x => .ok (chars x) ρ'
  | _ => .stuck
section
variable {X : Cx} {c : Ct} {F : Fr} {ρ : Env} {σ : L2.St} {G H : Hp} {e tg iter : Expr}
theorem it_chars {K : PySem.W.Frag} (s : Str) : ItOk K (Its s) G (chars s) := fun i H G' gl sb => by
  refine ⟨fun d e => ?_, fun e => ?_⟩
  · unfold chars at e
    rw [List.getElem?_map] at e
    cases h : s.cps.toList[i]? with
    | none => rw [h] at e; cases e
    | some ch =>
      rw [h] at e
      cases e
      have h2 : s.cps[i]? = some ch := by rw [← Array.getElem?_toList]; exact h
      refine ⟨?_, fun x H' y => .inl ⟨y.1, ?_⟩⟩
      · obtain ⟨hl, _⟩ := Array.getElem?_eq_some_iff.mp h2
        exact hl
      · obtain ⟨c, hc, hv⟩ := y.2
        rw [h2] at hc
        cases hc
        exact hv
  · unfold chars at e
    rw [List.length_map] at e
    show s.cps.size ≤ i
    simp at e
    omega
theorem mi_seqS {m : ME} (hK : X.K = c.K) (h : PE X iter (tE c m)) : PI X tg iter (tI c (iSeqS m)) := pi_conseq (pi_either (pi_either (pi_list h) (pi_tup h)) (pi_str h)) fun σ H R ⟨F, ρ, G, S, a⟩ => by
  have a1 := Ask.then a
  cases em : m ρ with
  | stuck => rw [em] at a1; exact a1.elim
  | ex x ρ' => exact .inl (.inl ⟨F, ρ, G, S, by rw [em] at a1 ⊢; exact a1⟩)
  | ok d ρ' =>
    rw [em] at a1
    cases d <;> first | exact False.elim a1 | skip
    · refine .inr ⟨F, ρ, G, S, ?_⟩
      rw [em]
      intro v H' G' S' gl r
      exact ⟨_, r, a1 _ H' G' S' gl (it_chars _)⟩
    · refine .inl (.inl ⟨F, ρ, G, S, ?_⟩)
      rw [em]
      intro v H' G' S' gl r
      obtain ⟨b, xs, e, hq, hr⟩ := r
      exact ⟨b, e, ⟨xs, .of (S'.sub.lst hq)⟩, by rw [hK]; exact a1 _ H' G' S' gl (it_list hq hr)⟩
    · refine .inl (.inr ⟨F, ρ, G, S, ?_⟩)
      rw [em]
      intro v H' G' S' gl r
      obtain ⟨b, xs, e, hq, hr⟩ := r
      exact ⟨b, e, ⟨xs, .of (S'.sub.tup hq)⟩, by rw [hK]; exact a1 _ H' G' S' gl (it_tup hq hr)⟩
end

set_option autoImplicit true
theorem ps_either {X : Cx} {st : Stmt} {w w' : TS} (h : PS X st w) (h' : PS X st w') : PS X st (fun D σ H => w D σ H ∨ w' D σ H) := ⟨fun pins s σ H D I q => q.elim (h.run pins s σ H D I) (h'.run pins s σ H D I)⟩
theorem pe_either' {X : Cx} {e : Expr} {w w' : TE} (h : PE X e w) (h' : PE X e w') : PE X e (fun σ H Q => w σ H Q ∨ w' σ H Q) := ⟨fun pins s σ H Q I q => q.elim (h.run pins s σ H Q I) (h'.run pins s σ H Q I)⟩
section
variable {X : Cx} {c : Ct} {F : Fr} {ρ : Env} {σ : L2.St} {G H : Hp}
theorem isD_no {u : HO} (h : isD u = true) : (∀ ps, u ≠ .tbl ps) ∧ (∀ q w, u ≠ .frz q w) ∧ (∀ xs, u ≠ .tup xs) ∧ (∀ k r, u ≠ CodeO k r) := by
  have h0 : ∀ k r, isD (CodeO k r) = false := fun k r => by unfold CodeO; rfl
  refine ⟨fun _ z => ?_, fun _ _ z => ?_, fun _ z => ?_, fun k r z => ?_⟩
  · rw [z] at h; cases h
  · rw [z] at h; cases h
  · rw [z] at h; cases h
  · rw [z, h0] at h; cases h
theorem Tabs.turn {T : List (Addr × Str)} {d : Addr} {u o : HO} (h : Tabs T H) (hd : H d = some u) (h1 : ∀ ps, u ≠ .tbl ps) (h2 : ∀ k r, u ≠ CodeO k r) : Tabs T (upd H d o) := fun t ht => by
  obtain ⟨ps, t1, t2, t3⟩ := h t ht
  have n1 : t.1 ≠ d := fun z => by
    rw [z, hd] at t1
    exact h1 _ (Option.some.inj t1)
  refine ⟨ps, by rw [upd_ne n1]; exact t1, t2, fun pos cv hc => ?_⟩
  obtain ⟨k, k1, k2⟩ := t3 pos cv hc
  refine ⟨k, k1, ?_⟩
  rw [upd_ne fun z => ?_]
  · exact k2
  · rw [z, hd] at k2
    exact h2 _ _ (Option.some.inj k2)
theorem State.lock {d : Addr} {u w : HO} {od : Obj} (S : State c F ρ σ G H) (hio : c.ios = []) (hG : G d = some u) (hu : isD u = true) (hH : H d = some w) (hw : w = u ∨ w = .frz od u) : State c (F.plus d (.frz od u)) ρ σ G (upd H d (.frz od u)) := by
  have hi : F.io = [] := List.map_eq_nil_iff.mp (S.ios.trans hio)
  obtain ⟨u1, u2, u3, u4⟩ := isD_no hu
  have w1 : (∀ ps, w ≠ .tbl ps) ∧ (∀ xs, w ≠ .tup xs) ∧ (∀ k r, w ≠ CodeO k r) := by
    rcases hw with e | e
    · rw [e]; exact ⟨u1, u3, u4⟩
    · rw [e]; exact ⟨fun _ z => (nomatch z), fun _ z => (nomatch z), fun _ _ z => (by unfold CodeO at z; cases z)⟩
  refine ⟨⟨fun a v r => ?_, S.sub.2⟩, fun a v e => ?_, fun a v e => ?_, fun a e => ?_, Tabs.turn S.tab hH w1.1 w1.2.2, S.tabG, S.len, fun i s e => ?_, S.apart, S.io, S.ios, fun q hq => .inl (S.ioD q hq), fun q ks e => ?_⟩
  · by_cases z : a = d
    · subst z
      rw [hG] at r
      cases r
      exact .inr ⟨hu, od, upd_same⟩
    · rw [upd_ne z]
      exact S.sub.1 a v r
  · by_cases z : a = d
    · subst z
      have e' : upd F.fg a (.frz od u) a = some v := e
      rw [upd_same] at e'
      cases e'
      exact ⟨upd_same, .inr ⟨_, _, rfl⟩⟩
    · have e' : upd F.fg d (.frz od u) a = some v := e
      rw [upd_ne z] at e'
      rw [upd_ne z]
      exact S.fg a v e'
  · by_cases z : a = d
    · subst z
      have e' : upd F.fg a (.frz od u) a = some v := e
      rw [upd_same] at e'
      cases e'
      exact ⟨.inr rfl, fun i h => by have h : (i, a) ∈ F.io := h; rw [hi] at h; exact absurd h (by simp), fun ps q => nomatch q⟩
    · have e' : upd F.fg d (.frz od u) a = some v := e
      rw [upd_ne z] at e'
      obtain ⟨a1, a2, a3⟩ := S.wf a v e'
      exact ⟨.inl a1, a2, a3⟩
  · by_cases z : a = d
    · exact ⟨.frz od u, by rw [z]; exact upd_same, fun ps q => nomatch q⟩
    · obtain ⟨v, a1, a2⟩ := S.dom a (e.resolve_right z)
      exact ⟨v, by rw [upd_ne z]; exact a1, a2⟩
  · cases s with
    | no => trivial
    | fz x => exact S.sl i _ e
    | own x =>
      obtain ⟨p, e1, ow, e3⟩ := S.own_at e
      have ne : p ≠ d := fun z => by
        have := ow.1
        rw [z, hG] at this
        cases this
      obtain ⟨hg, o, ho, hd⟩ := ow
      refine ⟨p, e1, ⟨hg, o, by rw [upd_ne ne]; exact ho, hd⟩, ?_⟩
      rcases e3 with e3 | e3
      · exact .inl fun z => z.elim e3 ne
      · exact .inr e3
  · by_cases z : q = d
    · rw [z, upd_same] at e
      cases e
    · rw [upd_ne z] at e
      exact S.tupG q ks e
theorem State.unplus {d : Addr} {o : HO} {ρ0 : Env} {σ0 : L2.St} {G0 H0 : Hp} (S0 : State c F ρ0 σ0 G0 H0) (S : State c (F.plus d o) ρ σ G H) (hF : ∀ w, F.fg d = some w → w = o) : State c F ρ σ G H := by
  have key : ∀ a v, F.fg a = some v → (F.plus d o).fg a = some v := fun a v e => by
    show upd F.fg d o a = some v
    by_cases z : a = d
    · subst z
      rw [upd_same, hF v e]
    · rw [upd_ne z]; exact e
  refine ⟨S.sub, fun a v e => S.fg a v (key a v e), S0.wf, fun a e => S.dom a (.inl e), S.tab, S.tabG, S.len, fun i s e => ?_, S.apart, S.io, S.ios, S0.ioD, S.tupG⟩
  · cases s with
    | no => trivial
    | fz x => exact S.sl i _ e
    | own x =>
      obtain ⟨p, e1, ow, e3⟩ := S.own_at e
      exact ⟨p, e1, ow, e3.imp (fun h z => h (.inl z)) id⟩
theorem State.unfrz {d : Addr} {u : HO} {od : Obj} (S : State c F ρ σ G H) (hG : G d = some u) (hu : isD u = true) (hH : H d = some (.frz od u)) (hF : F.fg d = none) : State c F ρ σ G (upd H d u) := by
  obtain ⟨u1, u2, u3, u4⟩ := isD_no hu
  refine ⟨⟨fun a v r => ?_, S.sub.2⟩, fun a v e => ?_, S.wf, fun a e => ?_, Tabs.turn S.tab hH (fun _ z => nomatch z) (fun _ _ z => by unfold CodeO at z; cases z), S.tabG, S.len, fun i s e => ?_, S.apart, S.io, S.ios, S.ioD, fun q ks e => ?_⟩
  · by_cases z : a = d
    · subst z
      rw [hG] at r
      cases r
      exact .inl upd_same
    · rw [upd_ne z]
      exact S.sub.1 a v r
  · have ne := ne_of_none e hF
    rw [upd_ne ne]
    exact S.fg a v e
  · by_cases z : a = d
    · exact ⟨u, by rw [z]; exact upd_same, u1⟩
    · obtain ⟨v, a1, a2⟩ := S.dom a e
      exact ⟨v, by rw [upd_ne z]; exact a1, a2⟩
  · cases s with
    | no => trivial
    | fz x => exact S.sl i _ e
    | own x =>
      obtain ⟨p, e1, ow, e3⟩ := S.own_at e
      have ne : p ≠ d := fun z => by
        have := ow.1
        rw [z, hG] at this
        cases this
      obtain ⟨hg, o, ho, hd⟩ := ow
      exact ⟨p, e1, ⟨hg, o, by rw [upd_ne ne]; exact ho, hd⟩, e3⟩
  · by_cases z : q = d
    · rw [z, upd_same] at e
      exact (u3 _ (Option.some.inj e)).elim
    · rw [upd_ne z] at e
      exact S.tupG q ks e
/-- what is asked behind a statement, the dict locked -/
def lockEnds (D : Ends) (d : Addr) (od : Obj) (u : HO) : Ends := ⟨fun σ' H' => H' d = some (.frz od u) ∧ D.nx σ' (upd H' d u), fun v H' => H' d = some (.frz od u) ∧ D.rt v (upd H' d u), fun σ' H' => H' d = some (.frz od u) ∧ D.bk σ' (upd H' d u), fun σ' H' => H' d = some (.frz od u) ∧ D.ct σ' (upd H' d u)⟩
theorem plus_fg {F : Fr} {d : Addr} {o : HO} : (F.plus d o).fg d = some o := by show upd F.fg d o d = some o; exact upd_same
theorem SAsk.lock {d : Addr} {u : HO} {od : Obj} {D : Ends} {r : SR} {ρ0 : Env} {σ0 : L2.St} {H0 : Hp} (S0 : State c F ρ0 σ0 G H0) (hG : G d = some u) (hu : isD u = true) (hF : F.fg d = none) (h : SAsk c F G D r) : SAsk c (F.plus d (.frz od u)) G (lockEnds D d od u) r := by
  have hF' : ∀ w, F.fg d = some w → w = HO.frz od u := fun w e => by rw [hF] at e; cases e
  cases r with
  | nx ρ' =>
    intro σ' H' G' S' gl
    have h1 := (S'.fg d _ plus_fg).1
    exact ⟨h1, h σ' _ G' ((S0.unplus S' hF').unfrz (gl _ _ hG) hu h1 hF) gl⟩
  | rt v ρ' =>
    intro v σ' H' G' S' gl r
    have h1 := (S'.fg d _ plus_fg).1
    exact ⟨h1, h v σ' _ G' ((S0.unplus S' hF').unfrz (gl _ _ hG) hu h1 hF) gl r⟩
  | ex e ρ' => exact fun cls dx σ' H' G' S' gl x => h cls dx σ' H' G' (S0.unplus S' hF') gl x
  | stuck => exact h
theorem SAsk.locked {d : Addr} {u : HO} {od : Obj} {D : Ends} {r : SR} {ρ0 : Env} {σ0 : L2.St} {H0 : Hp} (S0 : State c F ρ0 σ0 G H0) (hF' : ∀ w, F.fg d = some w → w = HO.frz od u) (h : SAsk c F G D r) : SAsk c (F.plus d (.frz od u)) G D r := by
  cases r with
  | nx ρ' => exact fun σ' H' G' S' gl => h σ' H' G' (S0.unplus S' hF') gl
  | rt v ρ' => exact fun v σ' H' G' S' gl r => h v σ' H' G' (S0.unplus S' hF') gl r
  | ex e ρ' => exact fun cls dx σ' H' G' S' gl x => h cls dx σ' H' G' (S0.unplus S' hF') gl x
  | stuck => exact h
end
def iDk (i : Nat) : MI := fun ρ => match ρ[i]? with
  | some (.fz (.dict kvs)) => if plainKvs kvs = true ∧ kvs ≠ [] then .ok (kvs.map (·.1)) ρ else .stuck
  | _ => .stuck
theorem RpT.at {K : PySem.W.Frag} {G : Hp} : ∀ {kvs : List (D × D)} {es : List (List Key × V)}, RpT K G kvs es → ∀ {i : Nat} {p : D × D}, kvs[i]? = some p → ∃ k v, es[i]? = some (k, v) ∧ p.1 = .tuple (k.map keyD) ∧ Rp K G p.2 v
  | [], _, _, i, p, e => by cases e
  | (k, d) :: kvs, _, ⟨x, v, r, e, ek, h, t⟩, i, p, e2 => by
    subst e
    cases i with
    | zero => cases e2; exact ⟨x, v, rfl, ek, h⟩
    | succ i => exact RpT.at t e2
theorem RpK.at {K : PySem.W.Frag} {G : Hp} : ∀ {kvs : List (D × D)} {es : List (Key × V)}, RpK K G kvs es → ∀ {i : Nat} {p : D × D}, kvs[i]? = some p → ∃ k v, es[i]? = some (k, v) ∧ p.1 = keyD k ∧ Rp K G p.2 v
  | [], _, _, i, p, e => by cases e
  | (k, d) :: kvs, _, ⟨x, v, r, e, ek, h, t⟩, i, p, e2 => by
    subst e
    cases i with
    | zero => cases e2; exact ⟨x, v, rfl, ek, h⟩
    | succ i => exact RpK.at t e2
section
variable {X : Cx} {c : Ct} {F : Fr} {ρ : Env} {σ : L2.St} {G H : Hp} {tg e : Expr} {body : List Stmt} {pos : Pos}
/-- an iterator gives ds while the frame is Fq -/
def ItAt (c : Ct) (Fq : Fr) (J : It) (G1 : Hp) (ds : List D) : Prop := ∀ (i : Nat) (ρ : Env) (σ : L2.St) (H G' : Hp), GLe G1 G' → State c Fq ρ σ G' H → (∀ k, ds[i]? = some k → J.go i H ∧ ∀ x H', J.yld i H x H' → POut c.K G' H k x H') ∧ (ds.length = i → J.stop i H)
theorem it_keysT {d : Addr} {od : Obj} {kvs : List (D × D)} {es : List (List Key × V)} (r : RpT c.K G kvs es) : ItAt c (F.plus d (.frz od (.dT es))) (Itkt d od es) G (kvs.map (·.1)) := fun i ρ σ H G' gl S => by
  have hd := (S.fg d _ plus_fg).1
  refine ⟨fun k e => ?_, fun e => ⟨hd, ?_⟩⟩
  · rw [List.getElem?_map] at e
    cases ep : kvs[i]? with
    | none => rw [ep] at e; cases e
    | some p =>
      rw [ep] at e
      cases e
      obtain ⟨k, v, e1, e2, _⟩ := r.at ep
      refine ⟨⟨hd, (List.getElem?_eq_some_iff.mp e1).1⟩, fun x H' y => ?_⟩
      obtain ⟨y1, k', v', q, y2, y3, y4⟩ := y
      rw [e1] at y2
      cases y2
      subst y3
      refine .inl ⟨y1, ?_⟩
      show Rp c.K G' p.1 (V.ref q)
      rw [e2]
      exact ⟨q, _, rfl, S.tupG q k y4, .of_keys k⟩
  · rw [List.length_map, ← r.length] at e
    exact Nat.le_of_eq e
theorem it_keysK {d : Addr} {od : Obj} {kvs : List (D × D)} {es : List (Key × V)} (r : RpK c.K G kvs es) (hl : es.length = kvs.length) : ItAt c (F.plus d (.frz od (.dK es))) (Itk d od es) G (kvs.map (·.1)) := fun i ρ σ H G' gl S => by
  have hd := (S.fg d _ plus_fg).1
  refine ⟨fun k e => ?_, fun e => ⟨hd, ?_⟩⟩
  · rw [List.getElem?_map] at e
    cases ep : kvs[i]? with
    | none => rw [ep] at e; cases e
    | some p =>
      rw [ep] at e
      cases e
      obtain ⟨k, v, e1, e2, _⟩ := r.at ep
      refine ⟨⟨hd, (List.getElem?_eq_some_iff.mp e1).1⟩, fun x H' y => ?_⟩
      obtain ⟨y1, k', v', y2, y3⟩ := y
      rw [e1] at y2
      cases y2
      subst y3
      refine .inl ⟨y1, ?_⟩
      show Rp c.K G' p.1 (kV k)
      rw [e2]
      cases k with
      | inl i => exact rfl
      | inr x => exact rfl
  · rw [List.length_map, ← hl] at e
    exact Nat.le_of_eq e
theorem for_core {J : It} {ds : List D} {Fq : Fr} {ρ1 : Env} {G1 H1 : Hp} {D : Ends} {ts : List Nat} {tm : TM} {b : SM} (S1 : State c Fq ρ1 σ G1 H1) (ito : ItAt c Fq J G1 ds) (k : SAsk c Fq G1 D (forM tm b ds ρ1)) :
    ∃ W : Nat → Nat → L2.St → Hp → Prop, (∃ m, W 0 m σ H1) ∧ ∀ i m σ H, W i m σ H →
      (J.stop i H ∧ D.nx σ H) ∨ (J.go i H ∧ ∃ N : L2.St → Hp → Prop, (∀ σ' H', N σ' H' → ∃ m', m' < m ∧ W (i + 1) m' σ' H') ∧ ∀ x H', J.yld i H x H' → tG c ts tm x σ H' fun σ2 H2 => tS c b { D with nx := N, ct := N, bk := D.nx } σ2 H2) := by
  refine ⟨fun i m σ H => m = ds.length - i ∧ i ≤ ds.length ∧ ∃ ρ G, State c Fq ρ σ G H ∧ GLe G1 G ∧ SAsk c Fq G D (forM tm b (ds.drop i) ρ), ⟨ds.length, rfl, Nat.zero_le _, ρ1, G1, S1, GLe.refl _, k⟩, ?_⟩
  rintro i m σ2 H2 ⟨rfl, hile, ρ2, G2, S2, gl2, a2⟩
  obtain ⟨h1, h2⟩ := ito i ρ2 σ2 H2 G2 gl2 S2
  by_cases hlt : i < ds.length
  · obtain ⟨d, ed, edr⟩ := drop_at hlt
    rw [edr] at a2
    obtain ⟨hgo, hy⟩ := h1 d ed
    refine .inr ⟨hgo, fun σ' H' => ∃ ρ' G', State c Fq ρ' σ' G' H' ∧ GLe G1 G' ∧ SAsk c Fq G' D (forM tm b (ds.drop (i + 1)) ρ'), fun σ' H' ⟨ρ', G', S', gl', a'⟩ => ⟨ds.length - (i + 1), by omega, rfl, hlt, ρ', G', S', gl', a'⟩, fun x H' y => ?_⟩
    obtain ⟨G3, S3, gl3, r3⟩ := (hy x H' y).state S2
    refine ⟨Fq, ρ2, G3, d, S3, r3, ?_⟩
    have a3 : SAsk c Fq G2 D ((tm d ρ2).sr fun _ ρ1 => match b ρ1 with
      | .nx ρ2 => forM tm b (ds.drop (i + 1)) ρ2
      | r => r) := a2
    cases et : tm d ρ2 with
    | stuck => rw [et] at a3; exact a3
    | ex e ρ' =>
      rw [et] at a3
      exact fun cls dx σ' H' G' S' gl x => a3 cls dx σ' H' G' S' (gl3.trans gl) x
    | ok u ρ' =>
      rw [et] at a3
      intro σ' H4 G4 S4 gl4 _
      refine ⟨Fq, ρ', G4, S4, ?_⟩
      have a4 : SAsk c Fq G2 D (match b ρ' with
        | .nx ρ2 => forM tm b (ds.drop (i + 1)) ρ2
        | r => r) := a3
      have g34 := gl3.trans gl4
      cases eb : b ρ' with
      | nx ρ5 =>
        rw [eb] at a4
        exact fun σ5 H5 G5 S5 gl5 => ⟨ρ5, G5, S5, gl2.trans (g34.trans gl5), SAsk.mono (g34.trans gl5) a4⟩
      | rt d' ρ5 =>
        rw [eb] at a4
        exact fun v σ5 H5 G5 S5 gl5 r => a4 v σ5 H5 G5 S5 (g34.trans gl5) r
      | ex e ρ5 =>
        rw [eb] at a4
        exact fun cls dx σ5 H5 G5 S5 gl5 x => a4 cls dx σ5 H5 G5 S5 (g34.trans gl5) x
      | stuck => rw [eb] at a4; exact a4
  · have e : i = ds.length := by omega
    subst e
    rw [List.drop_length] at a2
    exact .inl ⟨h2 rfl, a2 σ2 H2 G2 S2 (GLe.refl _)⟩
/-- the dict in a slot that stands -/
theorem slot_dict {i : Nat} {kvs : List (D × D)} (S : State c F ρ σ G H) (e : ρ[i]? = some (.fz (.dict kvs))) (hp : plainKvs kvs = true) (hn : kvs ≠ []) :
    ∃ d u, σ[i]? = some (some (.ref d)) ∧ G d = some u ∧ isD u = true ∧ Mut (some u) ∧ ((∃ es, u = .dK es ∧ RpK c.K G kvs es ∧ es.length = kvs.length) ∨ ∃ es, u = .dT es ∧ RpT c.K G kvs es) := by
  obtain ⟨v, e1, d, ev, h⟩ := S.sl i _ e
  subst ev
  rcases h with ⟨es, h1, h2⟩ | ⟨es, h1, h2⟩ | ⟨ns, h1, h2⟩
  · have hl := RpK.length h2
    refine ⟨d, _, e1, h1, ?_, trivial, .inl ⟨es, rfl, h2, hl⟩⟩
    cases es with
    | nil => cases kvs with
      | nil => exact (hn rfl).elim
      | cons a r => cases hl
    | cons a r => rfl
  · have hl := RpT.length h2
    refine ⟨d, _, e1, h1, ?_, trivial, .inr ⟨es, rfl, h2⟩⟩
    cases es with
    | nil => cases kvs with
      | nil => exact (hn rfl).elim
      | cons a r => cases hl
    | cons a r => rfl
  · rw [h1] at hp
    cases hp
theorem st_forDk {i : Nat} {ts : List Nat} {tm : TM} {b : SM} (hp : PassesOwn (model X.prog X.w) X.A X.env X.xe) (hc : X.calm = true) (hio : c.ios = []) (he : PE X e (tVar i)) (hg : PG X tg (tG c ts tm)) (hb : PSs X body (tS c b))
    (hs : ∀ x, foldedSetIterable e X.env x = pure x := by intro _; rfl) : PS X (.For tg e body [] pos) (tS c (sFor (iDk i) tm b)) :=
  ps_conseq (ps_either (ps_lock (ps_for hp hc (pi_keys he) hg hb hs)) (ps_for hp hc (pi_keys he) hg hb hs)) fun D σ H ⟨F, ρ, G, S, a⟩ => by
  unfold sFor iDk at a
  cases es : ρ[i]? with
  | none => rw [es] at a; exact a.elim
  | some s =>
    rw [es] at a
    cases s with
    | no => exact a.elim
    | own d => exact a.elim
    | fz x =>
      cases x with
      | dict kvs =>
        simp only at a
        by_cases hk : plainKvs kvs = true ∧ kvs ≠ []
        · rw [if_pos hk] at a
          have a : SAsk c F G D (forM tm b (kvs.map (·.1)) ρ) := a
          obtain ⟨d, u, e1, hG, hu, hm, hr⟩ := slot_dict S es hk.1 hk.2
          rcases S.sub.1 d u hG with hH | ⟨_, od, hH⟩
          · refine .inl ⟨d, u, hH, hm, fun od => ⟨_, e1, d, od, rfl, ?_⟩⟩
            have hF : F.fg d = none := by
              cases ef : F.fg d with
              | none => rfl
              | some w =>
                obtain ⟨f1, f2⟩ := S.fg d w ef
                rw [hH] at f1
                cases f1
                rcases f2 with f2 | ⟨q, w, f2⟩
                · rw [hG] at f2; cases f2
                · exact ((isD_no hu).2.1 _ _ f2).elim
            have S1 := S.lock (od := od) hio hG hu hH (.inl rfl)
            have a1 := SAsk.lock (od := od) S hG hu hF a
            rcases hr with ⟨es, rfl, r, hl⟩ | ⟨es, rfl, r⟩
            · exact .inl ⟨es, upd_same, for_core S1 (it_keysK r hl) a1⟩
            · exact .inr ⟨es, upd_same, for_core S1 (it_keysT r) a1⟩
          · refine .inr ⟨_, e1, d, od, rfl, ?_⟩
            have S1 := S.lock (od := od) hio hG hu hH (.inr rfl)
            have eH : upd H d (.frz od u) = H := by
              funext z
              by_cases e : z = d
              · rw [e, upd_same, hH]
              · exact upd_ne e
            rw [eH] at S1
            have a1 := SAsk.locked (od := od) (u := u) (d := d) S (fun w f1 => by
              have := (S.fg d w f1).1
              rw [hH] at this
              exact (Option.some.inj this).symm) a
            rcases hr with ⟨es, rfl, r, hl⟩ | ⟨es, rfl, r⟩
            · exact .inl ⟨es, hH, for_core S1 (it_keysK r hl) a1⟩
            · exact .inr ⟨es, hH, for_core S1 (it_keysT r) a1⟩
        · rw [if_neg hk] at a; exact a.elim
      | _ => exact a.elim
end

set_option autoImplicit true
/-- a dict's new or changed row -/
theorem dset_T {X : Cx} {pins : List (Addr × Obj)} {σ : L2.St} {H : Hp} {s : Shared} {E : Value → Shared → Prop} {D q : Addr} {kvs : List (List Key × V)} {k : List Key} {v : V} {r : Value} {Q : Unit → Shared → Prop} (hu : X.A.units < cLine)
    (I : Inv X pins σ H s) (hD : H D = some (.dT kvs)) (hq : H q = some (.tup (k.map kV))) (hz : kvs.length < sizeLine) (rv : RelV v r) (h : ∀ s', Inv X pins σ (upd H D (.dT (putK kvs k v))) s' → Q () s') : wpAny (model X.prog X.w) X.A (dictSet D (.ref q) r) Q E s := by
  obtain ⟨z, hs, xs, rel, dd⟩ := dt_of I.hok hD
  have hx : xs.length ≤ sizeLine := by rw [← Paired.length rel]; exact z
  have hl : (putK kvs k v).length ≤ sizeLine := by have := length_putK kvs k v; omega
  refine wpAny_dictSet_heap (knd := tupleKind (mixKind X.prog X.w)) hu (key_of I.hok hq) dd (hsz := hx) fun h' dd' sb => h _ ?_
  obtain ⟨o, es, ep, p1, p2, p3, p4, _, p5⟩ := dd'
  refine d_write I (by rw [hD]; trivial) sb ⟨o, p1⟩ ⟨hl, hs, _, (rel.put k hq rv).keeps fun a ys ea => ?_, o, es, ep, p1, p2, p3, p4, p5⟩
  by_cases w : a = D
  · rw [w, hD] at ea; cases ea
  · rw [upd_ne w]; exact ea
section
variable {X : Cx}
/-- what the walk of such a comprehension asks: a measure's invariant W over the turns -/
def tDcT (wi : TI) (g : L2.TG) (tk tv : TE) (vs : List Nat) : TE := fun σ H Q => wi σ H fun J H1 => ∀ D, H1 D = none → ∃ W : Nat → Nat → Hp → Prop, (∃ m, W 0 m (upd H1 D (.dT []))) ∧ ∀ i m H, W i m H →
  (J.stop i H ∧ Q (.ref D) H) ∨ (J.go i H ∧ ∀ x H', J.yld i H x H' → g x (wipe σ vs) H' fun σ2 H2 => wipe σ2 vs = wipe σ vs ∧ tk σ2 H2 fun y H3 => tv σ2 H3 fun z H4 =>
    ∃ kvs k q, y = .ref q ∧ H4 q = some (.tup (k.map kV)) ∧ H4 D = some (.dT kvs) ∧ kvs.length < sizeLine ∧ ∃ m', m' < m ∧ W (i + 1) m' (upd H4 D (.dT (putK kvs k z))))
/-- the loop's own invariant: the block's frame stands, the iterator's things stand, W -/
def DcInv (Y : Cx) (σ : L2.St) (vs : List Nat) (tn : Nat → Heap → Prop) (fp : List Addr) (W : Nat → Nat → Hp → Prop) (n : Nat) (s : Shared) : Prop := ∃ i H, Inv Y [] (wipe σ vs) H s ∧ tn i s.heap ∧ (∀ b ∈ fp, H b = none) ∧ W i n H
theorem dc_turn {Y : Cx} {tg kx vx : Expr} {g : L2.TG} {tk tv : TE} {σ : L2.St} {vs : List Nat} {it : Addr} {fp : List Addr} {tn : Nat → Heap → Prop} {J : It} {W : Nat → Nat → Hp → Prop} {D : Addr} {n i : Nat} {H : Hp} {s : Shared} {E : Value → Shared → Prop}
    (hu : Y.A.units < cLine) (T : Turn Y.prog Y.w Y.K tg J fp it tn) (hc : Y.calm = true) (pg : PG Y tg g) (pk : PE Y kx tk) (pv : PE Y vx tv) (hxe : Y.xe = fun _ _ => False)
    (stat : ∀ {σ' : L2.St} {H' : Hp} {s' : Shared}, Inv Y [] σ' H' s' → (∀ b ∈ fp, H' b = none) → ∀ b ∈ fp, FpOk Y [] H' b)
    (I : Inv Y [] (wipe σ vs) H s) (st : tn i s.heap) (hn : ∀ b ∈ fp, H b = none) (go : J.go i H)
    (step : ∀ x H', J.yld i H x H' → g x (wipe σ vs) H' fun σ2 H2 => wipe σ2 vs = wipe σ vs ∧ tk σ2 H2 fun y H3 => tv σ2 H3 fun z H4 =>
      ∃ kvs k q, y = .ref q ∧ H4 q = some (.tup (k.map kV)) ∧ H4 D = some (.dT kvs) ∧ kvs.length < sizeLine ∧ ∃ m', m' < n ∧ W (i + 1) m' (upd H4 D (.dT (putK kvs k z)))) :
    wpAny (model Y.prog Y.w) Y.A (pyNext (.ref it)) (fun r s₁ => match r with
      | none => False
      | some v => wpAny (model Y.prog Y.w) Y.A (letOwnedTupleGo tg (.ref it) v) (fun _ s₁' => wpAny (model Y.prog Y.w) Y.A (assign tg Y.env v) (fun _ s₂ =>
          wpAny (model Y.prog Y.w) Y.A (eval kx Y.env) (fun kv s₄ => wpAny (model Y.prog Y.w) Y.A (eval vx Y.env) (fun vv s₅ =>
              wpAny (model Y.prog Y.w) Y.A (dictSet D kv vv) (fun _ s₆ => ∃ m, m < n ∧ DcInv Y σ vs tn fp W m s₆) E s₅) E s₄) E s₂) E s₁') E s₁) E s := by
  have t1 := T.item Y rfl rfl rfl hc i [] s _ H (fun _ _ => False) I (stat I hn) st go
  refine thnF t1 fun r s1 ⟨u, er, t2⟩ => ?_
  subst er
  refine thnF t2 fun _ s2 ⟨x, H2, I2, rx, yx, st2, n2⟩ => ?_
  have Ip := I2.pinned (stat I2 n2) (T.obj _ _ st2)
  have p1 := pg.run _ s2 _ H2 x u _ Ip rx (step x H2 yx)
  rw [hxe] at p1
  refine thnF p1 fun _ s3 ⟨σ3, H3, I3, ew, k3⟩ => ?_
  have p2 := pk.run _ s3 σ3 H3 _ I3 k3
  rw [hxe] at p2
  refine thnF p2 fun kv s4 ⟨y, H4, I4, ry, k4⟩ => ?_
  have p3 := pv.run _ s4 σ3 H4 _ I4 k4
  rw [hxe] at p3
  refine thnF p3 fun vv s5 ⟨z, H5, I5, rz, kvs, k, q, ey, hq, hD, hz, m', hm, w'⟩ => ?_
  subst ey
  cases (show kv = Value.ref q from ry)
  refine dset_T hu I5 hD hq hz rz fun s6 I6 => ⟨m', hm, i + 1, _, ?_, ?_, ?_, w'⟩
  · have el : (wipe σ vs).length = σ3.length := by rw [← ew, wipe_length]
    refine (I6.unpinned (pins := [])).weak el fun j v e => ?_
    rw [← ew] at e
    exact (wipe_some e).1
  · exact T.keep _ _ _ st2 fun b hb o e => (I6.pin (b, o) (List.mem_append_right _ (List.mem_append_right _ (mem_pinsAt hb e)))).1
  · intro b hb
    obtain ⟨o, e, _⟩ := T.obj _ _ st2 b hb
    exact (I6.pin (b, o) (List.mem_append_right _ (List.mem_append_right _ (mem_pinsAt hb e)))).2.1
/-- the block, from its first instruction on -/
theorem dc_block {kx vx tg iter : Expr} {scope : Scope} {own : List (Str × Nat)} {pos : Pos} {g : L2.TG} {tk tv : TE} {pins : List (Addr × Obj)} {σ : L2.St} {H3 : Hp} {s3 : Shared} {it D : Addr} {fp : List Addr} {tn : Nat → Heap → Prop} {J : It} {W : Nat → Nat → Hp → Prop} {m0 : Nat}
    {Q : VK} {use : Option (Value → Sem Unit)} {Qf : Value → Shared → Prop} (hu : X.A.units < cLine) (hc : X.calm = true) (hN : X.N.Nodup) (ok : BlkOk X.N X.env.scope scope own) (I3 : Inv X pins σ H3 s3) (T : Turn X.prog X.w X.K tg J fp it tn)
    (hfp : ∀ b ∈ fp, FpOk X pins H3 b ∧ b < s3.heap.objs.size) (st3 : tn 0 s3.heap) (w0 : W 0 m0 H3)
    (hg : ∀ (s : Shared) (H : Hp) (C : Addr) (cl : List (Str × Addr)) (fp : List Addr), PG (X.blk s H scope (compEnvC scope cl C X.env) fp) tg g)
    (hk : ∀ (s : Shared) (H : Hp) (C : Addr) (cl : List (Str × Addr)) (fp : List Addr), PE (X.blk s H scope (compEnvC scope cl C X.env) fp) kx tk)
    (hv : ∀ (s : Shared) (H : Hp) (C : Addr) (cl : List (Str × Addr)) (fp : List Addr), PE (X.blk s H scope (compEnvC scope cl C X.env) fp) vx tv)
    (turn : ∀ i m H, W i m H → (J.stop i H ∧ Q (.ref D) H) ∨ (J.go i H ∧ ∀ x H', J.yld i H x H' → g x (wipe σ (own.map (·.2))) H' fun σ2 H2 => wipe σ2 (own.map (·.2)) = wipe σ (own.map (·.2)) ∧ tk σ2 H2 fun y H3 => tv σ2 H3 fun z H4 =>
      ∃ kvs k q, y = .ref q ∧ H4 q = some (.tup (k.map kV)) ∧ H4 D = some (.dT kvs) ∧ kvs.length < sizeLine ∧ ∃ m', m' < m ∧ W (i + 1) m' (upd H4 D (.dT (putK kvs k z)))))
    (out : ∀ s' m H', Inv X pins σ H' s' → Q (.ref D) H' → s'.heap.Ns s3.heap.objs.size m → FpOk X pins H' s3.heap.objs.size → compPost (model X.prog X.w) X.A X.xe use Qf (.ref D) s3.heap.objs.size (.ok .next) s') :
    codeAny (model X.prog X.w) X.A (.compStart (.DictComp kx vx [⟨tg, iter, [], 0⟩] scope pos) 0 (.ref it) (.ref D) (compEnvC scope (cellsFrom (s3.heap.objs.size + 1) scope.names (cloFrom X.env.cells scope.names [])) s3.heap.objs.size X.env))
      (compPost (model X.prog X.w) X.A X.xe use Qf (.ref D) s3.heap.objs.size) { s3 with heap := pushCells (s3.heap.push { cls := .type "dict", data := .dict #[] }) scope.names } := by
  have I4 := block_start I3 ok hN hfp
  have pg := hg s3 H3 s3.heap.objs.size (cellsFrom (s3.heap.objs.size + 1) scope.names (cloFrom X.env.cells scope.names [])) fp
  have pk := hk s3 H3 s3.heap.objs.size (cellsFrom (s3.heap.objs.size + 1) scope.names (cloFrom X.env.cells scope.names [])) fp
  have pv := hv s3 H3 s3.heap.objs.size (cellsFrom (s3.heap.objs.size + 1) scope.names (cloFrom X.env.cells scope.names [])) fp
  have eL : (compEnvC scope (cellsFrom (s3.heap.objs.size + 1) scope.names (cloFrom X.env.cells scope.names [])) s3.heap.objs.size X.env).locals = s3.heap.objs.size := rfl
  generalize compEnvC scope (cellsFrom (s3.heap.objs.size + 1) scope.names (cloFrom X.env.cells scope.names [])) s3.heap.objs.size X.env = ce at I4 pg pk pv eL ⊢
  have st4 : tn 0 (pushCells (s3.heap.push { cls := .type "dict", data := .dict #[] }) scope.names) := T.keep _ _ _ st3 fun b _ o e => pushCells_keeps _ _ _ _ (Heap.get?_push_of_some _ e)
  have stat : ∀ {σ' : L2.St} {H' : Hp} {s' : Shared}, Inv (X.blk s3 H3 scope ce fp) [] σ' H' s' → (∀ b ∈ fp, H' b = none) → ∀ b ∈ fp, FpOk (X.blk s3 H3 scope ce fp) [] H' b := fun I' hn b hb =>
    ⟨hn b hb, (I'.ok.exf b hb).1, I'.ok.exfs b hb, .inl hb, fun x c e => (I'.ok.exf b hb).2 x c e, fun p hp => absurd (show p ∈ ([] : List (Addr × Obj)) ++ [] from hp) (by simp)⟩
  have loop : codeAny (model X.prog X.w) X.A (.compLoop (.DictComp kx vx [⟨tg, iter, [], 0⟩] scope pos) 0 (.ref it) (.ref D) ce) (compPost (model X.prog X.w) X.A X.xe use Qf (.ref D) s3.heap.objs.size) { s3 with heap := pushCells (s3.heap.push { cls := .type "dict", data := .dict #[] }) scope.names } := by
    refine compLoop_anyD (DcInv (X.blk s3 H3 scope ce fp) σ (own.map (·.2)) tn fp W) (fun n s ⟨i, H, I, st, hn, w⟩ => ?_) m0 ⟨0, H3, I4, st4, fun b hb => (hfp b hb).1.1, w0⟩
    rcases turn i n H w with ⟨stop, q⟩ | ⟨go, step⟩
    · refine thnF (T.done (X.blk s3 H3 scope ce fp) rfl rfl rfl hc i [] s _ H (fun _ _ => False) I (stat I hn) st stop) fun r s' ⟨er, I'⟩ => ?_
      subst er
      have Ib : Inv X pins σ H s' := I3.call' (ch := fp) I'.os I'.base I'.hok I'.bare fun b hb => ⟨(hfp b hb).1.2.2.2.1, (hfp b hb).1.2.1, (hfp b hb).1.2.2.2.2.1, (hfp b hb).1.2.2.2.2.2⟩
      obtain ⟨m, hm, _⟩ := I'.loc
      have hm : s'.heap.Ns ce.locals m := hm
      have nC : H ce.locals = none := I'.free
      rw [eL] at hm nC
      exact out s' m H Ib q hm (I3.fpOk (Nat.le_refl _) nC)
    · refine thnF (dc_turn (Y := X.blk s3 H3 scope ce fp) (E := fun _ _ => False) hu T hc pg pk pv rfl stat I st hn go step) fun r s' h => ?_
      cases r with
      | none => exact h.elim
      | some v => 
        refine thnF h fun _ s2 h => ?_
        refine thnF h fun _ s3' h => ?_
        refine wpAny_pure ?_
        rw [if_pos rfl]
        exact thnF h fun kv s4 h => thnF h fun vv s5 h => thnF h fun _ s6 h => h
  exact codeAny_compStart_dict loop (T.self X.A 0 _ _ _ st4 loop)
theorem dcT_core {kx vx tg iter : Expr} {scope : Scope} {own : List (Str × Nat)} {pos pos' : Pos} {wi : TI} {g : L2.TG} {tk tv : TE} {pins : List (Addr × Obj)} {s : Shared} {σ : L2.St} {H : Hp} {Q : VK} {use : Option (Value → Sem Unit)} {Qf : Value → Shared → Prop}
    (hu : X.A.units < cLine) (hc : X.calm = true) (hN : X.N.Nodup) (I : Inv X pins σ H s) (hi : PI X tg iter wi) (ok : BlkOk X.N X.env.scope scope own)
    (hg : ∀ (s : Shared) (H : Hp) (C : Addr) (cl : List (Str × Addr)) (fp : List Addr), PG (X.blk s H scope (compEnvC scope cl C X.env) fp) tg g)
    (hk : ∀ (s : Shared) (H : Hp) (C : Addr) (cl : List (Str × Addr)) (fp : List Addr), PE (X.blk s H scope (compEnvC scope cl C X.env) fp) kx tk)
    (hv : ∀ (s : Shared) (H : Hp) (C : Addr) (cl : List (Str × Addr)) (fp : List Addr), PE (X.blk s H scope (compEnvC scope cl C X.env) fp) vx tv) (hs : ∀ x, foldedSetIterable iter X.env x = pure x)
    (h : tDcT wi g tk tv (own.map (·.2)) σ H Q)
    (out : ∀ D C s' m H', Inv X pins σ H' s' → Q (.ref D) H' → s'.heap.Ns C m → FpOk X pins H' C → compPost (model X.prog X.w) X.A X.xe use Qf (.ref D) C (.ok .next) s') :
    wpAny (model X.prog X.w) X.A (comprehension (.DictComp kx vx [⟨tg, iter, [], 0⟩] scope pos) scope X.env pos' newDict false (eval iter X.env) use) Qf X.xe s := by
  have cells : ∀ y ∈ scope.names, y.2 = .free → ∃ c, X.env.cells.lookup y.1 = some c := fun y hy e => I.ok.has _ (ok.free y hy e)
  refine wpAny_comprehension_free (use := use) rfl hs (closure_ok cells) ok.kind (fun y hy e => by rw [ok.uniq y hy, e])
    (thn (hi.run pins s σ H _ I h) fun _ _ hx => thn hx fun _ s2 h2 => ?_)
  obtain ⟨it, fp, tn, J, H2, rfl, I2, T, st2, f2, ask⟩ := h2
  refine wpAny_newObj_type (newEnv_comp ?_)
  obtain ⟨W, ⟨m0, w0⟩, turn⟩ := ask s2.heap.objs.size (I2.hok.fresh (Nat.le_refl _))
  -- the dict is laid
  have I3 : Inv X pins σ (upd H2 s2.heap.objs.size (.dT [])) { s2 with heap := s2.heap.push { cls := .type "dict", data := .dict #[] } } :=
    I2.laid (t' := s2.toks) (fun b o e => Heap.get?_push_of_some _ e) (Nat.le_refl _) (dt_empty s2.heap I2.big)
  refine dc_block hu hc hN ok I3 T (fun b hb => ?_) (T.keep _ _ _ st2 fun b _ o e => Heap.get?_push_of_some _ e) w0 hg hk hv turn fun s' m H' I' q hm f => out _ _ s' m H' I' q hm f
  obtain ⟨o, e, _⟩ := T.obj _ _ st2 b hb
  have lt := Heap.lt_size e
  refine ⟨⟨?_, (f2 b hb).2⟩, by show b < (s2.heap.push _).objs.size; rw [Heap.size_push]; exact Nat.lt_succ_of_lt lt⟩
  rw [upd_ne (Nat.ne_of_lt lt)]
  exact (f2 b hb).1
theorem pe_dcT {kx vx tg iter : Expr} {scope : Scope} {own : List (Str × Nat)} {pos : Pos} {wi : TI} {g : L2.TG} {tk tv : TE} (hu : X.A.units < cLine) (hc : X.calm = true) (hN : X.N.Nodup) (hi : PI X tg iter wi) (ok : BlkOk X.N X.env.scope scope own)
    (hg : ∀ (s : Shared) (H : Hp) (C : Addr) (cl : List (Str × Addr)) (fp : List Addr), PG (X.blk s H scope (compEnvC scope cl C X.env) fp) tg g)
    (hk : ∀ (s : Shared) (H : Hp) (C : Addr) (cl : List (Str × Addr)) (fp : List Addr), PE (X.blk s H scope (compEnvC scope cl C X.env) fp) kx tk)
    (hv : ∀ (s : Shared) (H : Hp) (C : Addr) (cl : List (Str × Addr)) (fp : List Addr), PE (X.blk s H scope (compEnvC scope cl C X.env) fp) vx tv) (hs : ∀ x, foldedSetIterable iter X.env x = pure x := by intro _; rfl) :
    PE X (.DictComp kx vx [⟨tg, iter, [], 0⟩] scope pos) (tDcT wi g tk tv (own.map (·.2))) := by
  refine ⟨fun pins s σ H Q I h => ?_⟩
  rw [arm_eval_DictComp]
  refine dcT_core hu hc hN I hi ok hg hk hv hs h fun D C s' m H' I' q hm f => ⟨m, hm, fun h'' sb => ?_⟩
  obtain ⟨f0, f1, _, f3, f4, f5⟩ := f
  exact ⟨.ref D, H', I'.turned (t' := s'.toks) (fun b o hb e => (sb.2 b hb).trans e) f0 f1 f3 f4 f5, rfl, q⟩
/-- name = {..} on one line, the name a local -/
theorem ps_setDcT {i : Nat} {y : Str} {py spos : Pos} {kx vx tg iter : Expr} {scope : Scope} {own : List (Str × Nat)} {pos : Pos} {wi : TI} {g : L2.TG} {tk tv : TE} (hu : X.A.units < cLine) (hc : X.calm = true) (hN : X.N.Nodup) (hy : X.N[i]? = some y) (hyl : X.env.scope.names.lookup y = some .local)
    (hsw : swapsWith (.DictComp kx vx [⟨tg, iter, [], 0⟩] scope pos) (some (.Name y py)) spos.line X.env = pure true) (hi : PI X tg iter wi) (ok : BlkOk X.N X.env.scope scope own)
    (hg : ∀ (s : Shared) (H : Hp) (C : Addr) (cl : List (Str × Addr)) (fp : List Addr), PG (X.blk s H scope (compEnvC scope cl C X.env) fp) tg g)
    (hk : ∀ (s : Shared) (H : Hp) (C : Addr) (cl : List (Str × Addr)) (fp : List Addr), PE (X.blk s H scope (compEnvC scope cl C X.env) fp) kx tk)
    (hv : ∀ (s : Shared) (H : Hp) (C : Addr) (cl : List (Str × Addr)) (fp : List Addr), PE (X.blk s H scope (compEnvC scope cl C X.env) fp) vx tv) (hs : ∀ x, foldedSetIterable iter X.env x = pure x := by intro _; rfl) :
    PS X (.Assign [.Name y py] (.DictComp kx vx [⟨tg, iter, [], 0⟩] scope pos) spos) (tAsg (tDcT wi g tk tv (own.map (·.2))) (gName i)) := by
  refine ⟨fun pins s σ H D I h => ?_⟩
  rw [exec_Assign_Name_used _ _ _ _ hsw]
  refine wpAny_bind (wpAny_standAt (wpAny_bind ?_))
  show wpAny _ X.A (do let _ ← comprehension (.DictComp kx vx [⟨tg, iter, [], 0⟩] scope pos) scope X.env (firstIterPos [⟨tg, iter, [], 0⟩] pos) newDict false (eval iter X.env) (some (assign (.Name y py) X.env))) _ _ s
  have h' : tDcT wi g tk tv (own.map (·.2)) σ H (fun x H1 => gName i x σ H1 D.nx) := h
  refine wpAny_bind (thn (dcT_core (Qf := fun _ s' => SP X pins D .next s') hu hc hN I hi ok hg hk hv hs h' fun L C s' m H' I' q hm f => ?_) fun _ s' hq => wpAny_pure (wpAny_pure hq))
  show wpAny _ _ (assign (.Name y py) X.env (.ref L)) _ _ _
  obtain ⟨f0, f1, _, f3, f4, f5⟩ := f
  refine wpAny_assign_Name (store_ok2 (v := V.ref L) I' hN hy (.inl hyl) rfl (fun s2 I2 ⟨a, sb, ha⟩ => ⟨m, hm.sameBut sb ?_, fun h3 sb3 => ⟨_, H', I2.turned (t' := s2.toks) (fun b o hb e => (sb3.2 b hb).trans e) f0 f1 f3 f4 f5, q⟩⟩) (.inr hyl))
  rcases ha with z | z
  · rw [z]; exact f1
  · exact fun e => f4 y a z e.symm
end

set_option autoImplicit true
def dcM (tm : TM) (ek ev : ME) (vs : List Nat) : List D → List (D × D) → Env → Rs (List (D × D))
  | [], acc, ρ => .ok acc ρ
  | d :: ds, acc, ρ => (tm d ρ).then fun _ ρ1 => (ek ρ1).then fun k ρ2 => (ev ρ2).then fun y ρ3 => match toKT k with
    | some _ => dcM tm ek ev vs ds (dPutV acc k y) (wipeE ρ3 vs)
    | none => .stuck
def mDC (it : MI) (tm : TM) (ek ev : ME) (vs : List Nat) : ME := fun ρ => (it ρ).then fun ds ρ1 => if ds.length ≤ sizeLine then (match dcM tm ek ev vs ds [] (wipeE ρ1 vs) with
  | .ok kvs ρ2 => .ok (.dict kvs) (unwipe ρ1 ρ2 vs)
  | _ => .stuck) else .stuck
/-- an iterator that gives ds where P holds -/
def ItP (K : PySem.W.Frag) (P : Hp → Prop) (J : It) (G : Hp) (ds : List D) : Prop := ∀ (i : Nat) (H G' : Hp), GLe G G' → Sub G' H → (∀ (q : Addr) (ks : List Key), H q = some (.tup (ks.map kV)) → G' q = some (.tup (ks.map kV))) → P H →
  (∀ k, ds[i]? = some k → J.go i H ∧ ∀ x H', J.yld i H x H' → POut K G' H k x H') ∧ (ds.length = i → J.stop i H)
section
variable {X : Cx} {c : Ct} {F : Fr} {ρ : Env} {σ : L2.St} {G H : Hp} {kx vx tg iter : Expr} {scope : Scope} {own : List (Str × Nat)} {pos : Pos} {it : MI} {ts : List Nat} {tm : TM} {ek ev : ME}
theorem ItOk.p {K : PySem.W.Frag} {J : It} {ds : List D} (h : ItOk K J G ds) : ItP K (fun _ => True) J G ds := fun i H G' gl sb _ _ => h i H G' gl sb
theorem keysT_p {K : PySem.W.Frag} {d : Addr} {od : Obj} {kvs : List (D × D)} {es : List (List Key × V)} (r : RpT K G kvs es) : ItP K (fun H => H d = some (.frz od (.dT es))) (Itkt d od es) G (kvs.map (·.1)) := fun i H G' gl sb tg hd => by
  refine ⟨fun k e => ?_, fun e => ⟨hd, ?_⟩⟩
  · rw [List.getElem?_map] at e
    cases ep : kvs[i]? with
    | none => rw [ep] at e; cases e
    | some p =>
      rw [ep] at e
      cases e
      obtain ⟨k, v, e1, e2, _⟩ := r.at ep
      refine ⟨⟨hd, (List.getElem?_eq_some_iff.mp e1).1⟩, fun x H' y => ?_⟩
      obtain ⟨y1, k', v', q, y2, y3, y4⟩ := y
      rw [e1] at y2
      cases y2
      subst y3
      refine .inl ⟨y1, ?_⟩
      show Rp K G' p.1 (V.ref q)
      rw [e2]
      exact ⟨q, _, rfl, tg q k y4, .of_keys k⟩
  · rw [List.length_map, ← r.length] at e
    exact Nat.le_of_eq e
theorem keysK_p {K : PySem.W.Frag} {d : Addr} {od : Obj} {kvs : List (D × D)} {es : List (Key × V)} (r : RpK K G kvs es) (hl : es.length = kvs.length) : ItP K (fun H => H d = some (.frz od (.dK es))) (Itk d od es) G (kvs.map (·.1)) := fun i H G' gl sb tg hd => by
  refine ⟨fun k e => ?_, fun e => ⟨hd, ?_⟩⟩
  · rw [List.getElem?_map] at e
    cases ep : kvs[i]? with
    | none => rw [ep] at e; cases e
    | some p =>
      rw [ep] at e
      cases e
      obtain ⟨k, v, e1, e2, _⟩ := r.at ep
      refine ⟨⟨hd, (List.getElem?_eq_some_iff.mp e1).1⟩, fun x H' y => ?_⟩
      obtain ⟨y1, k', v', y2, y3⟩ := y
      rw [e1] at y2
      cases y2
      subst y3
      refine .inl ⟨y1, ?_⟩
      show Rp K G' p.1 (kV k)
      rw [e2]
      cases k with
      | inl i => exact rfl
      | inr x => exact rfl
  · rw [List.length_map, ← hl] at e
    exact Nat.le_of_eq e
theorem dc_f {vs : List Nat} {J : It} {P : Hp → Prop} {ds : List D} {ys : List (D × D)} {ρ1 ρe : Env} {G1 H1 : Hp} {D : Addr} {Qd : Hp → Prop} (hv : ∀ v ∈ vs, v ∉ c.ios) (hts : ∀ v ∈ ts, v ∈ vs) (S1 : State c F ρ1 σ G1 H1) (ito : ItP c.K P J G1 ds) (hD : H1 D = none)
    (hP : ∀ (es : List (List Key × V)) (ρ : Env) (σ : L2.St) (G H : Hp), State c.nox (F.plus D (.dT es)) ρ σ G H → P H) (hz : ds.length ≤ sizeLine) (er : dcM tm ek ev vs ds [] (wipeE ρ1 vs) = .ok ys ρe)
    (k : ∀ H' G', State c F (unwipe ρ1 ρe vs) σ G' H' → GLe G1 G' → NewAt c F (unwipe ρ1 ρe vs) σ G' H' (.dict ys) D → Qd H') :
    ∃ W : Nat → Nat → Hp → Prop, (∃ m, W 0 m (upd H1 D (.dT []))) ∧ ∀ i m H, W i m H →
      (J.stop i H ∧ Qd H) ∨ (J.go i H ∧ ∀ x H', J.yld i H x H' → tG c.nox ts tm x (wipe σ vs) H' fun σ2 H2 => wipe σ2 vs = wipe σ vs ∧ tE c.nox ek σ2 H2 fun y H3 => tE c.nox ev σ2 H3 fun z H4 =>
        ∃ kvs k q, y = .ref q ∧ H4 q = some (.tup (k.map kV)) ∧ H4 D = some (.dT kvs) ∧ kvs.length < sizeLine ∧ ∃ m', m' < m ∧ W (i + 1) m' (upd H4 D (.dT (putK kvs k z)))) := by
  have n0 : NewAt c F ρ1 σ G1 (upd H1 D (.dT [])) (.dict []) D := NewAt.of S1 hD (.dT rfl) trivial
  have S1' := S1.alloc (o := .dT []) hD trivial
  have nd := n0.2.1
  have fgn := NewAt.fgn S1' n0
  refine ⟨fun i m' H => m' = ds.length - i ∧ i ≤ ds.length ∧ ∃ ρ G acc es, State c.nox (F.plus D (.dT es)) ρ (wipe σ vs) G H ∧ GLe G1 G ∧ RpT c.K G acc es ∧ es.length ≤ i ∧ dcM tm ek ev vs (ds.drop i) acc ρ = .ok ys ρe,
    ⟨ds.length, rfl, Nat.zero_le _, wipeE ρ1 vs, G1, [], [], ((S1'.plus n0 upd_same).wipe hv).nox, GLe.refl _, rfl, Nat.le_refl _, er⟩, ?_⟩
  rintro i m' H2 ⟨rfl, hile, ρ2, G2, acc, es, S2, gl2, racc, hacc, er2⟩
  obtain ⟨h1, h2⟩ := ito i H2 G2 gl2 S2.sub S2.tupG (hP _ _ _ _ _ S2)
  by_cases hlt : i < ds.length
  · obtain ⟨d, ed, edr⟩ := drop_at hlt
    rw [edr] at er2
    obtain ⟨hgo, hy⟩ := h1 d ed
    refine .inr ⟨hgo, fun x H' y => ?_⟩
    obtain ⟨G3, S3, gl3, r3⟩ := (hy x H' y).state S2
    have e3 : (tm d ρ2).then (fun _ ρ1 => (ek ρ1).then fun k ρ2 => (ev ρ2).then fun y ρ3 => match toKT k with
      | some _ => dcM tm ek ev vs (ds.drop (i + 1)) (dPutV acc k y) (wipeE ρ3 vs)
      | none => .stuck) = .ok ys ρe := er2
    refine ⟨_, ρ2, G3, d, S3, r3, ?_⟩
    cases et : tm d ρ2 with
    | stuck => rw [et] at e3; cases e3
    | ex e ρ' => rw [et] at e3; cases e3
    | ok u ρ4 =>
      rw [et] at e3
      intro σ4 H4 G4 S4 gl4 ⟨hl4, hk4⟩
      have ew : wipe σ4 vs = wipe σ vs := wipe_eq hl4 fun j hj => hk4 j fun z => hj (hts j z)
      refine ⟨ew, _, ρ4, G4, S4, ?_⟩
      have e4 : (ek ρ4).then (fun k ρ2 => (ev ρ2).then fun y ρ3 => match toKT k with
        | some _ => dcM tm ek ev vs (ds.drop (i + 1)) (dPutV acc k y) (wipeE ρ3 vs)
        | none => .stuck) = .ok ys ρe := e3
      have g24 := gl3.trans gl4
      cases ekk : ek ρ4 with
      | stuck => rw [ekk] at e4; cases e4
      | ex e ρ' => rw [ekk] at e4; cases e4
      | ok kd ρ5 =>
        rw [ekk] at e4
        intro y5 H5 G5 S5 gl5 r5
        have g25 := g24.trans gl5
        refine ⟨_, ρ5, G5, S5, ?_⟩
        have e5 : (ev ρ5).then (fun y ρ3 => match toKT kd with
          | some _ => dcM tm ek ev vs (ds.drop (i + 1)) (dPutV acc kd y) (wipeE ρ3 vs)
          | none => .stuck) = .ok ys ρe := e4
        cases ee : ev ρ5 with
        | stuck => rw [ee] at e5; cases e5
        | ex e ρ' => rw [ee] at e5; cases e5
        | ok yd ρ6 =>
          rw [ee] at e5
          intro v6 H6 G6 S6 gl6 r6
          have g26 := g25.trans gl6
          have e6 : (match toKT kd with
            | some _ => dcM tm ek ev vs (ds.drop (i + 1)) (dPutV acc kd yd) (wipeE ρ6 vs)
            | none => .stuck) = Rs.ok ys ρe := e5
          cases ekt : toKT kd with
          | none => rw [ekt] at e6; cases e6
          | some xs =>
            rw [ekt] at e6
            have hkd := of_toKT ekt
            subst hkd
            obtain ⟨q, us, eq, hq, rq⟩ := r5
            have hus := rq.keys
            subst hus
            obtain ⟨q1, q2⟩ := S6.fg D (.dT es) (by show upd F.fg D (.dT es) D = _; exact upd_same)
            refine ⟨es, xs, q, eq, S6.sub.tup (gl6 _ _ hq), q1, by omega, ds.length - (i + 1), by omega, rfl, hlt, wipeE ρ6 vs, G6, _, _, ?_, gl2.trans g26, RpT.put (RpT.mono g26 _ _ racc) r6, ?_, e6⟩
            · rw [← ew]
              exact (State.rePlus (o := .dT es) (o' := .dT (putK es xs v6)) trivial trivial (fun _ z => nomatch z) (fun k q z => by unfold CodeO at z; cases z) S6).wipe hv
            · have := length_putK es xs v6
              omega
  · have e : i = ds.length := by omega
    subst e
    rw [List.drop_length] at er2
    have e2 : Rs.ok acc ρ2 = Rs.ok ys ρe := er2
    cases e2
    have Sm := S2.yesx.minus nd fgn
    have n2 := NewAt.still nd (ObjD.dT racc) trivial S2.yesx
    refine .inl ⟨h2 rfl, k H2 G2 (State.unwipe S1 Sm gl2 hv) gl2 ⟨n2.1, nd, fun j ej hj es => ?_⟩⟩
    rcases unwipe_get hj with ⟨_, z⟩ | ⟨hi, hj⟩
    · exact (keep_own z.symm).elim
    · exact n2.2.2 j ej hj (by rw [wipe_get hi]; exact es)
/-- over a list, a tuple, a range -/
theorem fe_dc (hu : X.A.units < cLine) (hc : X.calm = true) (hN : X.N.Nodup) (hv : ∀ v ∈ own.map (·.2), v ∉ c.ios) (hts : ∀ v ∈ ts, v ∈ own.map (·.2)) (hi : PI X tg iter (tI c it)) (ok : BlkOk X.N X.env.scope scope own)
    (hg : ∀ (s : Shared) (H : Hp) (C : Addr) (cl : List (Str × Addr)) (fp : List Addr), PG (X.blk s H scope (compEnvC scope cl C X.env) fp) tg (tG c.nox ts tm))
    (hk : ∀ (s : Shared) (H : Hp) (C : Addr) (cl : List (Str × Addr)) (fp : List Addr), PE (X.blk s H scope (compEnvC scope cl C X.env) fp) kx (tE c.nox ek))
    (he : ∀ (s : Shared) (H : Hp) (C : Addr) (cl : List (Str × Addr)) (fp : List Addr), PE (X.blk s H scope (compEnvC scope cl C X.env) fp) vx (tE c.nox ev)) (hs : ∀ x, foldedSetIterable iter X.env x = pure x := by intro _; rfl) :
    PE X (.DictComp kx vx [⟨tg, iter, [], 0⟩] scope pos) (tF c (mDC it tm ek ev (own.map (·.2)))) := pe_conseq (pe_dcT hu hc hN hi ok hg hk he hs) fun σ H Q ⟨F, ρ, G, S, a⟩ => by
  refine ⟨F, ρ, G, S, (Ask.then a).imp (GLe.refl G) fun ds ρ1 k J H1 G1 S1 gl1 ito D hD => ?_⟩
  by_cases hz : ds.length ≤ sizeLine
  · simp only [if_pos hz] at k
    cases er : dcM tm ek ev (own.map (·.2)) ds [] (wipeE ρ1 (own.map (·.2))) with
    | stuck => rw [er] at k; exact False.elim k
    | ex e ρ' => rw [er] at k; exact False.elim k
    | ok ys ρe =>
      rw [er] at k
      exact dc_f hv hts S1 ito.p hD (fun _ _ _ _ _ _ => trivial) hz er fun H' G' S' gl' n => k D H' G' S' (gl1.trans gl') n
  · simp only [if_neg hz] at k
    exact k.elim
theorem NewAt.unlock {d p : Addr} {u : HO} {od : Obj} {x : D} (n : NewAt c (F.plus d (.frz od u)) ρ σ G H x p) (hG : G d = some u) : NewAt c F ρ σ G (upd H d u) x p := by
  obtain ⟨⟨hg, o, ho, hd⟩, nd, na⟩ := n
  have ne : p ≠ d := fun z => by rw [z, hG] at hg; cases hg
  exact ⟨⟨hg, o, by rw [upd_ne ne]; exact ho, hd⟩, fun z => nd (.inl z), na⟩
theorem NewAt.unplus {d p : Addr} {o : HO} {x : D} (n : NewAt c (F.plus d o) ρ σ G H x p) : NewAt c F ρ σ G H x p := by
  obtain ⟨ow, nd, na⟩ := n
  exact ⟨ow, fun z => nd (.inl z), na⟩
/-- what a comprehension over a slot's dict asks, locked or not -/
theorem dcK_ask {vs : List Nat} {i : Nat} {kvs : List (D × D)} {ys : List (D × D)} {ρe : Env} {Q : VK} (hio : c.ios = []) (hv : ∀ v ∈ vs, v ∉ c.ios) (hts : ∀ v ∈ ts, v ∈ vs) (S : State c F ρ σ G H) (es : ρ[i]? = some (.fz (.dict kvs))) (hkk : plainKvs kvs = true ∧ kvs ≠ [])
    (hz : (kvs.map (·.1)).length ≤ sizeLine) (er : dcM tm ek ev vs (kvs.map (·.1)) [] (wipeE ρ vs) = .ok ys ρe)
    (a : ∀ p H' G', State c F (unwipe ρ ρe vs) σ G' H' → GLe G G' → NewAt c F (unwipe ρ ρe vs) σ G' H' (.dict ys) p → Q (.ref p) H') :
    (∃ d u, H d = some u ∧ Mut (some u) ∧ ∀ od, tDcT (iKeys (tVar i)) (tG c.nox ts tm) (tE c.nox ek) (tE c.nox ev) vs σ (upd H d (.frz od u)) fun v H' => H' d = some (.frz od u) ∧ Q v (upd H' d u)) ∨
    tDcT (iKeys (tVar i)) (tG c.nox ts tm) (tE c.nox ek) (tE c.nox ev) vs σ H Q := by
  obtain ⟨d, u, e1, hG, hud, hm, hr⟩ := slot_dict S es hkk.1 hkk.2
  -- the frame's word on what is locked
  have hP : ∀ {od : Obj} {D : Addr}, D ≠ d → ∀ (es : List (List Key × V)) (ρ : Env) (σ : L2.St) (G H : Hp), State c.nox ((F.plus d (.frz od u)).plus D (.dT es)) ρ σ G H → H d = some (.frz od u) := fun {od D} ne es ρ σ G H S' => by
    refine (S'.fg d _ ?_).1
    show upd (upd F.fg d (.frz od u)) D (.dT es) d = _
    rw [upd_ne (fun z => ne z.symm), upd_same]
  rcases S.sub.1 d u hG with hH | ⟨_, od, hH⟩
  · refine .inl ⟨d, u, hH, hm, fun od => ⟨_, e1, d, od, rfl, ?_⟩⟩
    have hF : F.fg d = none := by
      cases ef : F.fg d with
      | none => rfl
      | some w =>
        obtain ⟨f1, f2⟩ := S.fg d w ef
        rw [hH] at f1
        cases f1
        rcases f2 with f2 | ⟨q, w, f2⟩
        · rw [hG] at f2; cases f2
        · exact ((isD_no hud).2.1 _ _ f2).elim
    have hF' : ∀ w, F.fg d = some w → w = HO.frz od u := fun w e => by rw [hF] at e; cases e
    have S1 := S.lock (od := od) hio hG hud hH (.inl rfl)
    have fin : ∀ {D : Addr} (H' G' : Hp), State c (F.plus d (.frz od u)) (unwipe ρ ρe vs) σ G' H' → GLe G G' → NewAt c (F.plus d (.frz od u)) (unwipe ρ ρe vs) σ G' H' (.dict ys) D → H' d = some (.frz od u) ∧ Q (.ref D) (upd H' d u) := fun {D} H' G' S' gl n => by
      have h1 := (S'.fg d _ plus_fg).1
      exact ⟨h1, a D _ G' ((S.unplus S' hF').unfrz (gl _ _ hG) hud h1 hF) gl (n.unlock (gl _ _ hG))⟩
    rcases hr with ⟨es, rfl, r, hl⟩ | ⟨es, rfl, r⟩
    · exact .inl ⟨es, upd_same, fun D hD => dc_f hv hts S1 (keysK_p r hl) hD (hP fun z => by rw [z, upd_same] at hD; cases hD) hz er fin⟩
    · exact .inr ⟨es, upd_same, fun D hD => dc_f hv hts S1 (keysT_p r) hD (hP fun z => by rw [z, upd_same] at hD; cases hD) hz er fin⟩
  · refine .inr ⟨_, e1, d, od, rfl, ?_⟩
    have S1 := S.lock (od := od) hio hG hud hH (.inr rfl)
    have eH : upd H d (.frz od u) = H := by
      funext z
      by_cases e : z = d
      · rw [e, upd_same, hH]
      · exact upd_ne e
    rw [eH] at S1
    have hF' : ∀ w, F.fg d = some w → w = HO.frz od u := fun w f1 => by
      have := (S.fg d w f1).1
      rw [hH] at this
      exact (Option.some.inj this).symm
    have fin : ∀ {D : Addr} (H' G' : Hp), State c (F.plus d (.frz od u)) (unwipe ρ ρe vs) σ G' H' → GLe G G' → NewAt c (F.plus d (.frz od u)) (unwipe ρ ρe vs) σ G' H' (.dict ys) D → Q (.ref D) H' := fun {D} H' G' S' gl n =>
      a D _ G' (S.unplus S' hF') gl n.unplus
    rcases hr with ⟨es, rfl, r, hl⟩ | ⟨es, rfl, r⟩
    · exact .inl ⟨es, hH, fun D hD => dc_f hv hts S1 (keysK_p r hl) hD (hP fun z => by rw [z, hH] at hD; cases hD) hz er fin⟩
    · exact .inr ⟨es, hH, fun D hD => dc_f hv hts S1 (keysT_p r) hD (hP fun z => by rw [z, hH] at hD; cases hD) hz er fin⟩
/-- mDC over a slot's dict, when it comes to something -/
theorem mDC_dk {vs : List Nat} {i : Nat} {α : Sort _} {P : Prop} (h : mDC (iDk i) tm ek ev vs ρ ≠ .stuck) (k : ∀ kvs ys ρe, ρ[i]? = some (.fz (.dict kvs)) → (plainKvs kvs = true ∧ kvs ≠ []) → (kvs.map (·.1)).length ≤ sizeLine → dcM tm ek ev vs (kvs.map (·.1)) [] (wipeE ρ vs) = .ok ys ρe →
    mDC (iDk i) tm ek ev vs ρ = .ok (.dict ys) (unwipe ρ ρe vs) → P) : P := by
  revert k
  generalize hm : mDC (iDk i) tm ek ev vs ρ = r at h ⊢
  intro k
  unfold mDC iDk at hm
  cases es : ρ[i]? with
  | none => rw [es] at hm; exact (h hm.symm).elim
  | some s =>
    rw [es] at hm
    cases s with
    | no => exact (h hm.symm).elim
    | own d => exact (h hm.symm).elim
    | fz x =>
      cases x with
      | dict kvs =>
        simp only at hm
        by_cases hkk : plainKvs kvs = true ∧ kvs ≠ []
        · rw [if_pos hkk] at hm
          simp only [Rs.then] at hm
          by_cases hz : (kvs.map (·.1)).length ≤ sizeLine
          · rw [if_pos hz] at hm
            cases er : dcM tm ek ev vs (kvs.map (·.1)) [] (wipeE ρ vs) with
            | stuck => rw [er] at hm; exact (h hm.symm).elim
            | ex e ρ' => rw [er] at hm; exact (h hm.symm).elim
            | ok ys ρe =>
              rw [er] at hm
              exact k kvs ys ρe es hkk hz er hm.symm
          · rw [if_neg hz] at hm; exact (h hm.symm).elim
        · rw [if_neg hkk] at hm; exact (h hm.symm).elim
      | _ => exact (h hm.symm).elim
/-- over a dict's keys -/
theorem fe_dcK {e : Expr} {i : Nat} (hu : X.A.units < cLine) (hc : X.calm = true) (hN : X.N.Nodup) (hio : c.ios = []) (hv : ∀ v ∈ own.map (·.2), v ∉ c.ios) (hts : ∀ v ∈ ts, v ∈ own.map (·.2)) (hi : PE X e (tVar i)) (ok : BlkOk X.N X.env.scope scope own)
    (hg : ∀ (s : Shared) (H : Hp) (C : Addr) (cl : List (Str × Addr)) (fp : List Addr), PG (X.blk s H scope (compEnvC scope cl C X.env) fp) tg (tG c.nox ts tm))
    (hk : ∀ (s : Shared) (H : Hp) (C : Addr) (cl : List (Str × Addr)) (fp : List Addr), PE (X.blk s H scope (compEnvC scope cl C X.env) fp) kx (tE c.nox ek))
    (he : ∀ (s : Shared) (H : Hp) (C : Addr) (cl : List (Str × Addr)) (fp : List Addr), PE (X.blk s H scope (compEnvC scope cl C X.env) fp) vx (tE c.nox ev)) (hs : ∀ x, foldedSetIterable e X.env x = pure x := by intro _; rfl) :
    PE X (.DictComp kx vx [⟨tg, e, [], 0⟩] scope pos) (tF c (mDC (iDk i) tm ek ev (own.map (·.2)))) :=
  pe_conseq (pe_either' (pe_lock (pe_dcT hu hc hN (pi_keys hi) ok hg hk he hs)) (pe_dcT hu hc hN (pi_keys hi) ok hg hk he hs)) fun σ H Q ⟨F, ρ, G, S, a⟩ => by
  refine mDC_dk (α := Unit) (fun z => by rw [z] at a; exact a) fun kvs ys ρe es hkk hz er em => ?_
  rw [em] at a
  exact dcK_ask hio hv hts S es hkk hz er a
theorem st_ownDcK {e : Expr} {i j : Nat} {y : Str} {py spos : Pos} (hu : X.A.units < cLine) (hc : X.calm = true) (hN : X.N.Nodup) (hy : X.N[j]? = some y) (hyl : X.env.scope.names.lookup y = some .local) (hio : c.ios = []) (hv : ∀ v ∈ own.map (·.2), v ∉ c.ios) (hts : ∀ v ∈ ts, v ∈ own.map (·.2))
    (hsw : swapsWith (.DictComp kx vx [⟨tg, e, [], 0⟩] scope pos) (some (.Name y py)) spos.line X.env = pure true) (hi : PE X e (tVar i)) (ok : BlkOk X.N X.env.scope scope own)
    (hg : ∀ (s : Shared) (H : Hp) (C : Addr) (cl : List (Str × Addr)) (fp : List Addr), PG (X.blk s H scope (compEnvC scope cl C X.env) fp) tg (tG c.nox ts tm))
    (hk : ∀ (s : Shared) (H : Hp) (C : Addr) (cl : List (Str × Addr)) (fp : List Addr), PE (X.blk s H scope (compEnvC scope cl C X.env) fp) kx (tE c.nox ek))
    (he : ∀ (s : Shared) (H : Hp) (C : Addr) (cl : List (Str × Addr)) (fp : List Addr), PE (X.blk s H scope (compEnvC scope cl C X.env) fp) vx (tE c.nox ev)) (hs : ∀ x, foldedSetIterable e X.env x = pure x := by intro _; rfl) :
    PS X (.Assign [.Name y py] (.DictComp kx vx [⟨tg, e, [], 0⟩] scope pos) spos) (tS c (sOwn j (mDC (iDk i) tm ek ev (own.map (·.2))))) :=
  ps_conseq (ps_either (ps_lock (ps_setDcT hu hc hN hy hyl hsw (pi_keys hi) ok hg hk he hs)) (ps_setDcT hu hc hN hy hyl hsw (pi_keys hi) ok hg hk he hs)) fun D σ H ⟨F, ρ, G, S, a⟩ => by
  refine mDC_dk (i := i) (tm := tm) (ek := ek) (ev := ev) (vs := own.map (·.2)) (ρ := ρ) (α := Unit) (fun z => by unfold sOwn at a; rw [z] at a; exact a) fun kvs ys ρe es hkk hz er em => ?_
  unfold sOwn at a
  rw [em] at a
  have hj : j ∉ c.ios := by rw [hio]; simp
  exact dcK_ask (Q := fun v H' => D.nx (σ.set j (some v)) H') hio hv hts S es hkk hz er fun p H' G' S' gl n => a _ H' G' (S'.setOwn n hj) gl
end

set_option autoImplicit true
section
variable {X : Cx} {c : Ct} {a b : Expr} {p p2 pos pos2 : Pos}
end

set_option autoImplicit true

set_option autoImplicit false
section
variable {X : Cx} {x n x2 : Str} {c c2 : Value} {i : Nat} {body su su2 : List Stmt} {b₀ b₂ : Stmt} {np pos p1 np2 p2 : Pos} {tb : WX → TS} {ts ts2 : Addr → Value → Option Addr → TS}
end
section
variable {X : Cx} {c : Ct}
end

set_option autoImplicit false
section
variable {X : Cx} {pins : List (Addr × Obj)} {σ : L2.St} {H HZ : Hp} {s s1 : Shared}
end
section
variable {X : Cx} {pins : List (Addr × Obj)} {σ : L2.St} {H HZ : Hp} {s s1 : Shared}
end
section
variable {X : Cx}
end
section
variable {X : Cx} {c : Ct}
end
section
variable {X : Cx} {c : Ct}
end
section
variable {X : Cx} {c : Ct} {P co : Addr} {k : Nat} {pa : Arguments} {bo : Expr} {sc : Scope} {ps0 : Pos}
end

set_option autoImplicit false
/-- is_number -/
def m_is_number : SM := sRet (mAnd (mIsi ["int"] (.sl 0)) (mAnd (mNot (mIsi ["bool"] (.sl 0))) (mChain dLe dLe (.sl 1) (.sl 0) (.sl 2))))
def f_is_number : FM := fnM 3 3 [] m_is_number
/-- is_street -/
def m_is_street : SM := sSeq (sIf (bOr (bNot (mB (mIsi ["tuple"] (.sl 1)))) (bOr (mB (mOp2 dNe (.ex (mFn dLen [.sl 1])) (.ex (mLit (.int 2))))) (bNot (mB (mCall f_is_number [.v (mOp2 dAt (.sl 1) (.ex (mLit (.int 0)))), .v (mLit (.int 0)), .v (mOp2 dSub (.sl 0) (.ex (mLit (.int 1))))]))))) (sRet (mLit (.bool false))) (sNil))
  (sRet (mCall f_is_number [.v (mOp2 dAt (.sl 1) (.ex (mLit (.int 1)))), .v (mOp2 dAdd (.ex (mOp2 dAt (.sl 1) (.ex (mLit (.int 0))))) (.ex (mLit (.int 1)))), .v (mOp2 dSub (.sl 0) (.ex (mLit (.int 1))))]))
def f_is_street : FM := fnM 2 2 [] m_is_street
/-- need_web -/
def m_need_web : SM := sSeq (sIf (bOr (bNot (mB (mIsi ["tuple"] (.sl 0)))) (bOr (mB (mOp2 dNe (.ex (mFn dLen [.sl 0])) (.ex (mLit (.int 2))))) (bNot (mB (mCall f_is_number [.v (mOp2 dAt (.sl 0) (.ex (mLit (.int 0)))), .v (mLit (.int 1)), .v (mLit (.int 10))]))))) (sRaiseF "BadWeb" "index" (mLit .none)) (sNil))
  (sSeq (sIf (bNot (mB (mIsi ["tuple"] (.ex (mOp2 dAt (.sl 0) (.ex (mLit (.int 1)))))))) (sRaiseF "BadWeb" "index" (mLit .none)) (sNil))
  (sSeq (sAsg (mVar 0) (tmTup [([1], tmName 1), ([2], tmName 2)]))
  (sFor (iRng fR1 [.ex (mFn dLen [.sl 2])]) (tmName 3) (sIf (bOr (bNot (mB (mCall f_is_street [.v (mVar 1), .v (mOp2 dAt (.sl 2) (.sl 3))]))) (bAnd (mB (mOp2 dGt (.sl 3) (.ex (mLit (.int 0))))) (mB (mOp2 dGe (.ex (mOp2 dAt (.sl 2) (.ex (mOp2 dSub (.sl 3) (.ex (mLit (.int 1))))))) (.ex (mOp2 dAt (.sl 2) (.sl 3))))))) (sRaiseF "BadWeb" "index" (mVar 3)) (sNil)))))
def f_need_web : FM := fnM 4 1 [] m_need_web
/-- need_one -/
def m_need_one : SM := sIf (bNot (mB (mCall f_is_number [.v (mVar 1), .v (mLit (.int 0)), .v (mOp2 dSub (.ex (mOp2 dAt (.sl 0) (.ex (mLit (.int 0))))) (.ex (mLit (.int 1))))]))) (sRaise "BadFolk") (sNil)
def f_need_one : FM := fnM 2 2 [] m_need_one
/-- near_lists -/
def m_near_lists : SM := sDeep 1 (iRng fR1 [.ex (mOp2 dAt (.sl 0) (.ex (mLit (.int 0))))]) (tmName 2) (mLst []) [2] (dFor (iSeq (mOp2 dAt (.sl 0) (.ex (mLit (.int 1))))) (tmTup [([2], tmName 2), ([3], tmName 3)]) (dSeq (dApp (.sl 2) (mVar 3)) (dApp (.sl 3) (mVar 2)))) (sRet (mComp (iSeq (mVar 1)) (tmName 4) (bYes) (mFn dSort [.sl 4]) [4]))
def f_near_lists : FM := fnM 5 1 [] m_near_lists
/-- ways_from -/
def m_ways_from : SM := sSeq (sOwn 2 (mOp2 dRep (.ex (mLst [mLit .none])) (.ex (mFn dLen [.sl 0]))))
  (sSeq (sParT [.put 2 1, .nm 3] [(false, mLit (.int 0)), (false, mLst [mVar 1])])
  (sSeq (whileM (mB (mOp2 dNe (.sl 3) (.ex (mLst [])))) (sSeq (sOwn 4 (mLst []))
  (sSeq (sFor (iSeq (mVar 3)) (tmName 5) (sFor (iSeq (mOp2 dAt (.sl 0) (.sl 5))) (tmName 6) (sIf (mB (mOp2 dIsN (.ex (mOp2 dAt (.sl 2) (.sl 6))) (.ex (mLit .none)))) (sSeq (sAsg (mOp2 dAdd (.ex (mOp2 dAt (.sl 2) (.sl 5))) (.ex (mLit (.int 1)))) (mPutAt 2 (.sl 6)))
  (sDo (mApp 4 (mVar 6)))) (sNil))))
  (sSet 3 (mVar 4)))) 1000000)
  (sRet (mVar 2))))
def f_ways_from : FM := fnM 7 2 [] m_ways_from
/-- far -/
def m_far : SM := sSeq (sDo (mCall f_need_web [.v (mVar 0)]))
  (sSeq (sDo (mCall f_need_one [.v (mVar 0), .v (mVar 1)]))
  (sSeq (sDo (mCall f_need_one [.v (mVar 0), .v (mVar 2)]))
  (sRet (mOp2 dAt (.ex (mCall f_ways_from [.v (mCall f_near_lists [.v (mVar 0)]), .v (mVar 1)])) (.sl 2)))))
def f_far : FM := fnM 3 3 [] m_far
/-- need_number -/
def m_need_number : SM := sIf (bNot (mB (mCall f_is_number [.v (mVar 0), .v (mVar 1), .v (mVar 2)]))) (sRaise "BadNumber") (sNil)
def f_need_number : FM := fnM 3 3 [] m_need_number
/-- are_moods -/
def m_are_moods : SM := sRet (mAnd (mIsi ["tuple"] (.sl 0)) (mAnd (mOp2 dEq (.ex (mFn dLen [.sl 0])) (.sl 1)) (mFn dAll [.ex (mComp (iSeq (mVar 0)) (tmName 2) (bYes) (mCall f_is_number [.v (mVar 2), .v (mLit (.int 0)), .v (mOp2 dSub (.ex (mLit (.int 3))) (.ex (mLit (.int 1))))]) [2])])))
def f_are_moods : FM := fnM 3 2 [] m_are_moods
/-- need_both -/
def m_need_both : SM := sSeq (sDo (mCall f_need_web [.v (mVar 0)]))
  (sIf (bNot (mB (mCall f_are_moods [.v (mVar 1), .v (mOp2 dAt (.sl 0) (.ex (mLit (.int 0))))]))) (sRaise "BadState") (sNil))
def f_need_both : FM := fnM 2 2 [] m_need_both
/-- step -/
def m_step : SM := sRet (mOp2 dSub (.ex (mOp2 dMod (.ex (mOp2 dAdd (.ex (mOp2 dSub (.ex (mOp2 dAt (.sl 0) (.sl 2))) (.ex (mOp2 dAt (.sl 0) (.sl 1))))) (.ex (mLit (.int 1))))) (.ex (mLit (.int 3))))) (.ex (mLit (.int 1))))
def f_step : FM := fnM 3 3 [] m_step
/-- stirred_in -/
def m_stirred_in : SM := sRet (mComp (iRng fR1 [.ex (mFn dLen [.sl 0])]) (tmName 2) (mB (mFn dAny [.ex (mComp (iSeq (mOp2 dAt (.sl 0) (.sl 2))) (tmName 3) (bYes) (mOp2 dEq (.ex (mCall f_step [.v (mVar 1), .v (mVar 2), .v (mVar 3)])) (.ex (mLit (.int 1)))) [3])])) (mVar 2) [2])
def f_stirred_in : FM := fnM 4 2 [] m_stirred_in
/-- next_state -/
def m_next_state : SM := sSeq (sSet 2 (mCall f_stirred_in [.v (mVar 0), .v (mVar 1)]))
  (sRet (mFn dTuple [.ex (mComp (iRng fR1 [.ex (mFn dLen [.sl 0])]) (tmName 3) (bYes) (mOp2 dMod (.ex (mOp2 dAdd (.ex (mOp2 dAt (.sl 1) (.sl 3))) (.ex (mFn dInt [.ex (mOp2 dIn (.sl 3) (.sl 2))])))) (.ex (mLit (.int 3)))) [3])]))
def f_next_state : FM := fnM 4 2 [] m_next_state
/-- stirred -/
def m_stirred : SM := sSeq (sDo (mCall f_need_both [.v (mVar 0), .v (mVar 1)]))
  (sRet (mFn dTuple [.ex (mCall f_stirred_in [.v (mCall f_near_lists [.v (mVar 0)]), .v (mVar 1)])]))
def f_stirred : FM := fnM 2 2 [] m_stirred
/-- tick -/
def m_tick : SM := sSeq (sDo (mCall f_need_both [.v (mVar 0), .v (mVar 1)]))
  (sRet (mCall f_next_state [.v (mCall f_near_lists [.v (mVar 0)]), .v (mVar 1)]))
def f_tick : FM := fnM 2 2 [] m_tick
/-- states_from -/
def m_states_from : SM := sSeq (sOwn 3 (mLst [mVar 1]))
  (sSeq (sFor (iRng fR1 [.sl 2]) (tmName 4) (sDo (mApp 3 (mCall f_next_state [.v (mVar 0), .v (mOp2 dAt (.sl 3) (.ex (mNeg (mLit (.int 1)))))]))))
  (sRet (mVar 3)))
def f_states_from : FM := fnM 5 3 [] m_states_from
/-- run -/
def m_run : SM := sSeq (sDo (mCall f_need_both [.v (mVar 0), .v (mVar 1)]))
  (sSeq (sDo (mCall f_need_number [.v (mVar 2), .v (mLit (.int 0)), .v (mLit (.int 500))]))
  (sRet (mFn dTuple [.ex (mCall f_states_from [.v (mCall f_near_lists [.v (mVar 0)]), .v (mVar 1), .v (mVar 2)])])))
def f_run : FM := fnM 3 3 [] m_run
/-- table_of -/
def m_table_of : SM := sSeq (sSet 2 (mCall f_near_lists [.v (mVar 0)]))
  (sDeep 3 (iRng fR1 [.ex (mOp2 dAt (.sl 0) (.ex (mLit (.int 0))))]) (tmName 4) (mOp2 dRep (.ex (mLst [mLit .none])) (.ex (mOp2 dAt (.sl 0) (.ex (mLit (.int 0)))))) [4] (dFor (iRng fR1 [.ex (mOp2 dAt (.sl 0) (.ex (mLit (.int 0))))]) (tmName 4) (dSeq (dPut (.sl 4) (.sl 4) (mLit (.int 0))) (dFor (iSeq (mOp2 dAt (.sl 2) (.sl 4))) (tmName 5) (dPut (.sl 4) (.sl 5) (mCall f_step [.v (mVar 1), .v (mVar 4), .v (mVar 5)]))))) (sRet (mVar 3)))
def f_table_of : FM := fnM 6 2 [] m_table_of
/-- row_behind -/
def m_row_behind : SM := sSeq (sOwn 2 (mLst []))
  (sSeq (sFor (iRng fR1 [.ex (mFn dLen [.sl 0])]) (tmName 3) (sSeq (sOwn 4 (mComp (iRng fR1 [.ex (mFn dLen [.sl 0])]) (tmName 5) (bAnd (mB (mOp2 dNotN (.ex (mOp2 dAt (.sl 0) (.sl 5))) (.ex (mLit .none)))) (mB (mOp2 dNotN (.ex (mOp2 dAt (.ex (mOp2 dAt (.sl 1) (.sl 5))) (.sl 3))) (.ex (mLit .none))))) (mOp2 dAdd (.ex (mOp2 dAt (.sl 0) (.sl 5))) (.ex (mOp2 dAt (.ex (mOp2 dAt (.sl 1) (.sl 5))) (.sl 3)))) [5]))
  (sDo (mApp 2 (mIf (mB (mOp2 dNe (.sl 4) (.ex (mLst [])))) (mFn (dFold maxI) [.sl 4]) (mLit .none))))))
  (sRet (mVar 2)))
def f_row_behind : FM := fnM 6 2 [] m_row_behind
/-- twice -/
def m_twice : SM := sRet (mComp (iSeq (mVar 0)) (tmName 1) (bYes) (mCall f_row_behind [.v (mVar 1), .v (mVar 0)]) [1])
def f_twice : FM := fnM 2 1 [] m_twice
/-- first_row -/
def m_first_row : SM := sRet (mComp (iRng fR1 [.sl 0]) (tmName 2) (bYes) (mIf (mB (mOp2 dEq (.sl 2) (.sl 1))) (mLit (.int 0)) (mLit .none)) [2])
def f_first_row : FM := fnM 3 2 [] m_first_row
/-- most_of -/
def m_most_of : SM := sRet (mFn (dFold maxI) [.ex (mComp (iSeq (mVar 0)) (tmName 1) (mB (mOp2 dNotN (.sl 1) (.ex (mLit .none)))) (mVar 1) [1])])
def f_most_of : FM := fnM 2 1 [] m_most_of
/-- changes_in -/
def m_changes_in : SM := sSeq (sParT [.nm 3, .nm 4] [(false, mComp (iRng fR1 [.ex (mOp2 dAt (.sl 0) (.ex (mLit (.int 0))))]) (tmName 5) (bYes) (mCall f_first_row [.v (mOp2 dAt (.sl 0) (.ex (mLit (.int 0)))), .v (mVar 5)]) [5]), (false, mCall f_table_of [.v (mVar 0), .v (mVar 1)])])
  (sSeq (whileM (mB (mOp2 dGt (.sl 2) (.ex (mLit (.int 0))))) (sSeq (sIf (mB (mOp2 dEq (.ex (mOp2 dMod (.sl 2) (.ex (mLit (.int 2))))) (.ex (mLit (.int 1))))) (sOwn 3 (mComp (iSeq (mVar 3)) (tmName 6) (bYes) (mCall f_row_behind [.v (mVar 6), .v (mVar 4)]) [6])) (sNil))
  (sSeq (sSet 2 (mOp2 dFdiv (.sl 2) (.ex (mLit (.int 2)))))
  (sIf (mB (mOp2 dGt (.sl 2) (.ex (mLit (.int 0))))) (sSet 4 (mCall f_twice [.v (mVar 4)])) (sNil)))) 1000000)
  (sRet (mFn dTuple [.ex (mComp (iSeq (mVar 3)) (tmName 6) (bYes) (mCall f_most_of [.v (mVar 6)]) [6])])))
def f_changes_in : FM := fnM 7 3 [] m_changes_in
/-- state_in -/
def m_state_in : SM := sSeq (sSet 3 (mCall f_changes_in [.v (mVar 0), .v (mVar 1), .v (mVar 2)]))
  (sRet (mFn dTuple [.ex (mComp (iRng fR1 [.ex (mOp2 dAt (.sl 0) (.ex (mLit (.int 0))))]) (tmName 4) (bYes) (mOp2 dMod (.ex (mOp2 dAdd (.ex (mOp2 dAt (.sl 1) (.sl 4))) (.ex (mOp2 dAt (.sl 3) (.sl 4))))) (.ex (mLit (.int 3)))) [4])]))
def f_state_in : FM := fnM 5 3 [] m_state_in
/-- changes -/
def m_changes : SM := sSeq (sDo (mCall f_need_both [.v (mVar 0), .v (mVar 1)]))
  (sSeq (sDo (mCall f_need_number [.v (mVar 2), .v (mLit (.int 0)), .v (mLit (.int 1000000000000000000000000000000))]))
  (sRet (mCall f_changes_in [.v (mVar 0), .v (mVar 1), .v (mVar 2)])))
def f_changes : FM := fnM 3 3 [] m_changes
/-- state_at -/
def m_state_at : SM := sSeq (sDo (mCall f_need_both [.v (mVar 0), .v (mVar 1)]))
  (sSeq (sDo (mCall f_need_number [.v (mVar 2), .v (mLit (.int 0)), .v (mLit (.int 1000000000000000000000000000000))]))
  (sRet (mCall f_state_in [.v (mVar 0), .v (mVar 1), .v (mVar 2)])))
def f_state_at : FM := fnM 3 3 [] m_state_at
/-- all_states -/
def m_all_states : SM := sSeq (sSet 1 (mLst [mTup []]))
  (sSeq (sFor (iRng fR1 [.sl 0]) (tmName 2) (sSeq (sOwn 3 (mLst []))
  (sSeq (sFor (iSeq (mVar 1)) (tmName 4) (sDo (mExt 3 (mComp (iRng fR1 [.ex (mLit (.int 3))]) (tmName 5) (bYes) (mOp2 dAdd (.sl 4) (.ex (mTup [mVar 5]))) [5]))))
  (sSet 1 (mVar 3)))))
  (sRet (mVar 1)))
def f_all_states : FM := fnM 6 1 [] m_all_states
/-- need_few -/
def m_need_few : SM := sIf (mB (mOp2 dGt (.ex (mOp2 dAt (.sl 0) (.ex (mLit (.int 0))))) (.ex (mLit (.int 7))))) (sRaiseF "TooMany" "most" (mLit (.int 7))) (sNil)
def f_need_few : FM := fnM 1 1 [] m_need_few
/-- row_round -/
def m_row_round : SM := sSeq (sPar [2, 3, 4] [(true, mOneT (mVar 1) (mLit (.int 0))), (true, mLst [mVar 1]), (false, mCall f_next_state [.v (mVar 0), .v (mVar 1)])])
  (sSeq (whileM (mB (mOp2 dNotIn (.sl 4) (.sl 2))) (sSeq (sAsg (mFn dLen [.sl 3]) (mPutAt 2 (.sl 4)))
  (sSeq (sDo (mApp 3 (mVar 4)))
  (sSet 4 (mCall f_next_state [.v (mVar 0), .v (mVar 4)])))) 1000000)
  (sRet (mTup [mVar 3, mOp2 dAt (.sl 2) (.sl 4)])))
def f_row_round : FM := fnM 5 2 [] m_row_round
/-- coming_round -/
def m_coming_round : SM := sSeq (sDo (mCall f_need_both [.v (mVar 0), .v (mVar 1)]))
  (sSeq (sAsg (mCall f_row_round [.v (mCall f_near_lists [.v (mVar 0)]), .v (mVar 1)]) (tmTup [([2], tmName 2), ([3], tmName 3)]))
  (sRet (mTup [mVar 3, mOp2 dSub (.ex (mFn dLen [.sl 2])) (.sl 3)])))
def f_coming_round : FM := fnM 4 2 [] m_coming_round
/-- state_of -/
def m_state_of : SM := sRet (mIf (mB (mOp2 dLt (.sl 2) (.ex (mFn dLen [.sl 0])))) (mOp2 dAt (.sl 0) (.sl 2)) (mOp2 dAt (.sl 0) (.ex (mOp2 dAdd (.sl 1) (.ex (mOp2 dMod (.ex (mOp2 dSub (.sl 2) (.sl 1))) (.ex (mOp2 dSub (.ex (mFn dLen [.sl 0])) (.sl 1)))))))))
def f_state_of : FM := fnM 3 3 [] m_state_of
/-- meet -/
def m_meet : SM := sSeq (sDo (mCall f_need_both [.v (mVar 0), .v (mVar 1)]))
  (sSeq (sDo (mCall f_need_both [.v (mVar 0), .v (mVar 2)]))
  (sSeq (sSet 3 (mCall f_near_lists [.v (mVar 0)]))
  (sSeq (sAsg (mCall f_row_round [.v (mVar 3), .v (mVar 1)]) (tmTup [([4], tmName 4), ([5], tmName 5)]))
  (sSeq (sAsg (mCall f_row_round [.v (mVar 3), .v (mVar 2)]) (tmTup [([6], tmName 6), ([7], tmName 7)]))
  (sSeq (sFor (iRng fR1 [.ex (mOp2 dAdd (.ex (mFn dMax2 [.sl 5, .sl 7])) (.ex (mLit (.int 1))))]) (tmName 8) (sIf (mB (mOp2 dEq (.ex (mCall f_state_of [.v (mVar 4), .v (mVar 5), .v (mVar 8)])) (.ex (mCall f_state_of [.v (mVar 6), .v (mVar 7), .v (mVar 8)])))) (sRet (mVar 8)) (sNil)))
  (sRet (mLit .none)))))))
def f_meet : FM := fnM 9 3 [] m_meet
/-- becomes -/
def m_becomes : SM := sSeq (sDo (mCall f_need_both [.v (mVar 0), .v (mVar 1)]))
  (sSeq (sDo (mCall f_need_both [.v (mVar 0), .v (mVar 2)]))
  (sSeq (sSet 3 (mOp2 dAt (.ex (mCall f_row_round [.v (mCall f_near_lists [.v (mVar 0)]), .v (mVar 1)])) (.ex (mLit (.int 0)))))
  (sRet (mIf (mB (mOp2 dIn (.sl 2) (.sl 3))) (mIndex 3 (mVar 2)) (mLit .none)))))
def f_becomes : FM := fnM 4 3 [] m_becomes
/-- lots_of -/
def m_lots_of : SM := sSeq (sSet 1 (mLst [mTup []]))
  (sSeq (sFor (iRng fR1 [.sl 0]) (tmName 2) (sSet 1 (mOp2 dCat (.ex (mComp (iSeq (mVar 1)) (tmName 3) (bYes) (mOp2 dAdd (.sl 3) (.ex (mTup [mLit (.int 0)]))) [3])) (.ex (mComp (iSeq (mVar 1)) (tmName 3) (bYes) (mOp2 dAdd (.sl 3) (.ex (mTup [mLit (.int 1)]))) [3])))))
  (sRet (mVar 1)))
def f_lots_of : FM := fnM 4 1 [] m_lots_of
/-- ahead_in -/
def m_ahead_in : SM := sSeq (sOwn 3 (mLst []))
  (sSeq (sFor (iSeq (mVar 2)) (tmName 4) (sSeq (sSet 5 (mFn dTuple [.ex (mComp (iZip (mVar 1) (mVar 4)) (tmTup [([6], tmName 6), ([7], tmName 7)]) (bYes) (mOp2 dMod (.ex (mOp2 dSub (.sl 6) (.sl 7))) (.ex (mLit (.int 3)))) [6, 7])]))
  (sIf (mB (mOp2 dEq (.ex (mCall f_next_state [.v (mVar 0), .v (mVar 5)])) (.sl 1))) (sDo (mApp 3 (mVar 5))) (sNil))))
  (sRet (mFn dSortT [.sl 3])))
def f_ahead_in : FM := fnM 8 3 [] m_ahead_in
/-- ahead -/
def m_ahead : SM := sSeq (sDo (mCall f_need_both [.v (mVar 0), .v (mVar 1)]))
  (sRet (mFn dTuple [.ex (mCall f_ahead_in [.v (mCall f_near_lists [.v (mVar 0)]), .v (mVar 1), .v (mCall f_lots_of [.v (mOp2 dAt (.sl 0) (.ex (mLit (.int 0))))])])]))
def f_ahead : FM := fnM 2 2 [] m_ahead
/-- leads_of -/
def m_leads_of : SM := sSeq (sSet 1 (mCall f_near_lists [.v (mVar 0)]))
  (sRet (mDC (iSeq (mCall f_all_states [.v (mOp2 dAt (.sl 0) (.ex (mLit (.int 0))))])) (tmName 2) (mVar 2) (mCall f_next_state [.v (mVar 1), .v (mVar 2)]) [2]))
def f_leads_of : FM := fnM 3 1 [] m_leads_of
/-- counts_behind -/
def m_counts_behind : SM := sSeq (sOwn 2 (mDict0))
  (sSeq (sFor (iDk 1) (tmName 3) (sAsg (mOp2 dAdd (.ex (mGet2 2 (mOp2 dAt (.sl 0) (.sl 3)) (mLit (.int 0)))) (.ex (mOp2 dAt (.sl 1) (.sl 3)))) (mPutAt 2 (.ex (mOp2 dAt (.sl 0) (.sl 3))))))
  (sRet (mVar 2)))
def f_counts_behind : FM := fnM 4 2 [] m_counts_behind
/-- need_few_states -/
def m_need_few_states : SM := sIf (mB (mOp2 dGt (.sl 0) (.ex (mLit (.int 20000))))) (sRaiseF "TooMany" "most" (mLit (.int 20000))) (sNil)
def f_need_few_states : FM := fnM 1 1 [] m_need_few_states
/-- eldest -/
def m_eldest : SM := sSeq (sDo (mCall f_need_both [.v (mVar 0), .v (mVar 1)]))
  (sSeq (sIf (mB (mOp2 dEq (.ex (mOp2 dAt (.ex (mCall f_row_round [.v (mCall f_near_lists [.v (mVar 0)]), .v (mVar 1)])) (.ex (mLit (.int 1))))) (.ex (mLit (.int 0))))) (sRet (mLit (.str "endless"))) (sNil))
  (sSeq (sPar [2, 3] [(false, mCall f_leads_of [.v (mVar 0)]), (false, mLit (.int 0))])
  (sSeq (sSet 4 (mCall f_counts_behind [.v (mVar 2), .v (mDC (iDk 2) (tmName 5) (mVar 5) (mLit (.int 1)) [5])]))
  (sSeq (whileM (mB (mOp2 dIn (.sl 1) (.sl 4))) (sSeq (sDo (mCall f_need_few_states [.v (mOp2 dAt (.sl 4) (.sl 1))]))
  (sPar [4, 3] [(false, mCall f_counts_behind [.v (mVar 2), .v (mVar 4)]), (false, mOp2 dAdd (.sl 3) (.ex (mLit (.int 1))))])) 1000000)
  (sRet (mVar 3))))))
def f_eldest : FM := fnM 6 2 [] m_eldest
/-- kin -/
def m_kin : SM := sSeq (sDo (mCall f_need_both [.v (mVar 0), .v (mVar 1)]))
  (sSeq (sDo (mCall f_need_number [.v (mVar 2), .v (mLit (.int 0)), .v (mLit (.int 100))]))
  (sSeq (sIf (mB (mOp2 dEq (.sl 2) (.ex (mLit (.int 0))))) (sRet (mLit (.int 1))) (sNil))
  (sSeq (sSet 3 (mCall f_leads_of [.v (mVar 0)]))
  (sSeq (sOwn 4 (mDC (iDk 3) (tmName 5) (mVar 5) (mLit (.int 1)) [5]))
  (sSeq (sFor (iRng fR1 [.sl 2]) (tmName 6) (sSeq (sSet 4 (mCall f_counts_behind [.v (mVar 3), .v (mVar 4)]))
  (sDo (mCall f_need_few_states [.v (mGet2 4 (mVar 1) (mLit (.int 0)))]))))
  (sRet (mGet2 4 (mVar 1) (mLit (.int 0)))))))))
def f_kin : FM := fnM 7 3 [] m_kin
/-- need_told -/
def m_need_told : SM := sSeq (sDo (mCall f_need_web [.v (mVar 0)]))
  (sSeq (sDo (mCall f_need_one [.v (mVar 0), .v (mVar 1)]))
  (sSeq (sIf (bOr (bNot (mB (mIsi ["str"] (.sl 2)))) (bOr (bNot (mB (mChain dLe dLe (.ex (mLit (.int 1))) (.ex (mFn dLen [.sl 2])) (.ex (mLit (.int 60)))))) (bNot (mB (mFn dAll [.ex (mComp (iSeqS (mVar 2)) (tmName 3) (bYes) (mOp2 dIn (.sl 3) (.ex (mLit (.str "012")))) [3])]))))) (sRaise "NotText") (sNil))
  (sDo (mCall f_need_few [.v (mVar 0)]))))
def f_need_told : FM := fnM 4 3 [] m_need_told
/-- is_told -/
def m_is_told : SM := sSeq (sFor (iRng fR1 [.ex (mFn dLen [.sl 3])]) (tmName 4) (sSeq (sIf (mB (mOp2 dNe (.ex (mFn dStrI [.ex (mOp2 dAt (.sl 1) (.sl 2))])) (.ex (mOp2 dAt (.sl 3) (.sl 4))))) (sRet (mLit (.bool false))) (sNil))
  (sSet 1 (mCall f_next_state [.v (mVar 0), .v (mVar 1)]))))
  (sRet (mLit (.bool true)))
def f_is_told : FM := fnM 5 4 [] m_is_told
/-- fits_in -/
def m_fits_in : SM := sSeq (sSet 3 (mCall f_near_lists [.v (mVar 0)]))
  (sRet (mComp (iSeq (mCall f_all_states [.v (mOp2 dAt (.sl 0) (.ex (mLit (.int 0))))])) (tmName 4) (mB (mCall f_is_told [.v (mVar 3), .v (mVar 4), .v (mVar 1), .v (mVar 2)])) (mVar 4) [4]))
def f_fits_in : FM := fnM 5 3 [] m_fits_in
/-- fits -/
def m_fits : SM := sSeq (sDo (mCall f_need_told [.v (mVar 0), .v (mVar 1), .v (mVar 2)]))
  (sRet (mFn dTuple [.ex (mCall f_fits_in [.v (mVar 0), .v (mVar 1), .v (mVar 2)])]))
def f_fits : FM := fnM 3 3 [] m_fits
/-- sure -/
def m_sure : SM := sSeq (sDo (mCall f_need_told [.v (mVar 0), .v (mVar 1), .v (mVar 2)]))
  (sSeq (sSet 3 (mCall f_fits_in [.v (mVar 0), .v (mVar 1), .v (mVar 2)]))
  (sSeq (sIf (mB (mOp2 dEq (.sl 3) (.ex (mLst [])))) (sRet (mLit .none)) (sNil))
  (sRet (mFn dTuple [.ex (mComp (iRng fR1 [.ex (mOp2 dAt (.sl 0) (.ex (mLit (.int 0))))]) (tmName 5) (bYes) (mIf (mB (mFn dAll [.ex (mComp (iSeq (mVar 3)) (tmName 4) (bYes) (mOp2 dEq (.ex (mOp2 dAt (.sl 4) (.sl 5))) (.ex (mOp2 dAt (.ex (mOp2 dAt (.sl 3) (.ex (mLit (.int 0))))) (.sl 5)))) [4])])) (mOp2 dAt (.ex (mOp2 dAt (.sl 3) (.ex (mLit (.int 0))))) (.sl 5)) (mLit .none)) [5])]))))
def f_sure : FM := fnM 6 3 [] m_sure
/-- story_in -/
def m_story_in : SM := sRet (mJoin "" (mComp (iSeq (mCall f_states_from [.v (mVar 0), .v (mVar 1), .v (mVar 3)])) (tmName 4) (bYes) (mFn dStrI [.ex (mOp2 dAt (.sl 4) (.sl 2))]) [4]))
def f_story_in : FM := fnM 5 4 [] m_story_in
/-- story -/
def m_story : SM := sSeq (sDo (mCall f_need_both [.v (mVar 0), .v (mVar 1)]))
  (sSeq (sDo (mCall f_need_one [.v (mVar 0), .v (mVar 2)]))
  (sSeq (sDo (mCall f_need_number [.v (mVar 3), .v (mLit (.int 0)), .v (mLit (.int 300))]))
  (sRet (mCall f_story_in [.v (mCall f_near_lists [.v (mVar 0)]), .v (mVar 1), .v (mVar 2), .v (mVar 3)]))))
def f_story : FM := fnM 4 4 [] m_story
/-- _law_taken -/
def m__law_taken : SM := sSeq (sIf (mB (mOp2 dGt (.ex (mOp2 dAt (.sl 0) (.ex (mLit (.int 3))))) (.ex (mLit (.int 0))))) (sSeq (sSet 2 (mOp2 dMod (.ex (mFn dInt [.ex (mOp2 dAt (.sl 0) (.ex (mLit (.int 3))))])) (.sl 1)))
  (sSeq (sAsg (mOp2 dFdiv (.ex (mOp2 dAt (.sl 0) (.ex (mLit (.int 3))))) (.sl 1)) (mPutAt 0 (.ex (mLit (.int 3)))))
  (sRet (mVar 2)))) (sNil))
  (sSeq (sAsg (mOp2 dAdd (.ex (mOp2 dAt (.sl 0) (.ex (mLit (.int 1))))) (.ex (mLit (.int 1)))) (mPutAt 0 (.ex (mLit (.int 1)))))
  (sSeq (sIf (mB (mOp2 dGt (.ex (mOp2 dAt (.sl 0) (.ex (mLit (.int 1))))) (.ex (mFn dLen [.ex (mOp2 dAt (.sl 0) (.ex (mLit (.int 0))))])))) (sSeq (sAsg (mOp2 dMod (.ex (mFn dInt [.ex (mOp2 dAdd (.ex (mOp2 dMul (.ex (mOp2 dAt (.sl 0) (.ex (mLit (.int 2))))) (.ex (mLit (.int 48271))))) (.ex (mLit (.int 11))))])) (.ex (mLit (.int 2147483647)))) (mPutAt 0 (.ex (mLit (.int 2)))))
  (sRet (mOp2 dMod (.ex (mFn dInt [.ex (mOp2 dFdiv (.ex (mOp2 dAt (.sl 0) (.ex (mLit (.int 2))))) (.ex (mLit (.int 7))))])) (.sl 1)))) (sNil))
  (sSeq (sSet 3 (mOp2 dAt (.ex (mOp2 dAt (.sl 0) (.ex (mLit (.int 0))))) (.ex (mOp2 dSub (.ex (mOp2 dAt (.sl 0) (.ex (mLit (.int 1))))) (.ex (mLit (.int 1)))))))
  (sSeq (sAsg (mOp2 dMod (.ex (mFn dInt [.ex (mOp2 dAdd (.ex (mOp2 dAdd (.ex (mOp2 dMul (.ex (mOp2 dAt (.sl 0) (.ex (mLit (.int 2))))) (.ex (mLit (.int 48271))))) (.sl 3))) (.ex (mLit (.int 11))))])) (.ex (mLit (.int 2147483647)))) (mPutAt 0 (.ex (mLit (.int 2)))))
  (sSeq (sIf (mB (mOp2 dGe (.sl 3) (.ex (mOp2 dPow (.ex (mLit (.int 10))) (.ex (mLit (.int 18))))))) (sAsg (mOp2 dFdiv (.sl 3) (.sl 1)) (mPutAt 0 (.ex (mLit (.int 3))))) (sNil))
  (sRet (mOp2 dMod (.ex (mFn dInt [.sl 3])) (.sl 1))))))))
def f__law_taken : FM := fnM 4 2 [0] m__law_taken
/-- _law_web -/
def m__law_web : SM := sSeq (sPar [2, 3, 4] [(false, mOp2 dAdd (.ex (mLit (.int 1))) (.ex (mCall f__law_taken [.io 0, .v (mVar 1)]))), (false, mCall f__law_taken [.io 0, .v (mLit (.int 5))]), (true, mDict0)])
  (sSeq (sFor (iRng fR2 [.ex (mLit (.int 1)), .sl 2]) (tmName 5) (sIf (bOr (mB (mOp2 dGt (.sl 3) (.ex (mLit (.int 0))))) (mB (mOp2 dGt (.ex (mCall f__law_taken [.io 0, .v (mLit (.int 3))])) (.ex (mLit (.int 0)))))) (sAsg (mLit (.bool true)) (mPutAt 4 (.ex (mTup [mIf (mB (mOp2 dLt (.sl 3) (.ex (mLit (.int 3))))) (mOp2 dSub (.sl 5) (.ex (mLit (.int 1)))) (mCall f__law_taken [.io 0, .v (mVar 5)]), mVar 5])))) (sNil)))
  (sSeq (sIf (bAnd (mB (mOp2 dIn (.sl 3) (.ex (mLst [mLit (.int 1), mLit (.int 2)])))) (mB (mOp2 dGt (.sl 2) (.ex (mLit (.int 2)))))) (sAsg (mLit (.bool true)) (mPutAt 4 (.ex (mTup [mLit (.int 0), mOp2 dSub (.sl 2) (.ex (mLit (.int 1)))])))) (sNil))
  (sSeq (sFor (iRng fR1 [.ex (mIf (mB (mOp2 dNe (.sl 3) (.ex (mLit (.int 1))))) (mCall f__law_taken [.io 0, .v (mVar 2)]) (mLit (.int 0)))]) (tmName 6) (sSeq (sPar [5, 7] [(false, mCall f__law_taken [.io 0, .v (mVar 2)]), (false, mCall f__law_taken [.io 0, .v (mVar 2)])])
  (sIf (mB (mOp2 dNe (.sl 5) (.sl 7))) (sAsg (mLit (.bool true)) (mPutAt 4 (.ex (mTup [mFn dMin2 [.sl 5, .sl 7], mFn dMax2 [.sl 5, .sl 7]])))) (sNil))))
  (sRet (mTup [mVar 2, mFn dTuple [.ex (mFn dSort [.ex (mKeys (.sl 4))])]])))))
def f__law_web : FM := fnM 8 2 [0] m__law_web
/-- _law_state -/
def m__law_state : SM := sSeq (sPar [2, 3] [(false, mCall f__law_taken [.io 0, .v (mLit (.int 4))]), (true, mLst [])])
  (sSeq (sFor (iRng fR1 [.ex (mOp2 dAt (.sl 1) (.ex (mLit (.int 0))))]) (tmName 4) (sSeq (sSet 5 (mCall f__law_taken [.io 0, .v (mLit (.int 3))]))
  (sDo (mApp 3 (mIf (mB (mOp2 dGt (.sl 2) (.ex (mLit (.int 0))))) (mVar 5) (mOp2 dMod (.ex (mFn dInt [.ex (mOp2 dAdd (.sl 4) (.ex (mFn dInt [.ex (mOp2 dEq (.sl 5) (.ex (mLit (.int 0))))])))])) (.ex (mLit (.int 3)))))))))
  (sRet (mFn dTuple [.sl 3])))
def f__law_state : FM := fnM 6 2 [0] m__law_state
/-- law -/
def m_law : SM := sSeq (sOwn 1 (mLst [mVar 0, mLit (.int 0), mLit (.int 15570), mLit (.int 0)]))
  (sSeq (sSet 2 (mCall f__law_web [.io 1, .v (mLit (.int 6))]))
  (sSeq (sParT [.nm 3, .nm 4, .nm 5] [(false, mCall f__law_state [.io 1, .v (mVar 2)]), (false, mCall f__law_taken [.io 1, .v (mOp2 dAt (.sl 2) (.ex (mLit (.int 0))))]), (false, mCall f__law_taken [.io 1, .v (mLit (.int 6))])])
  (sSeq (sSet 6 (mOp2 dAdd (.ex (mOp2 dAdd (.ex (mCut (.sl 3) (none) (some (mVar 4)))) (.ex (mTup [mCall f__law_taken [.io 1, .v (mLit (.int 3))]])))) (.ex (mCut (.sl 3) (some (mOp2 dAdd (.sl 4) (.ex (mLit (.int 1))))) (none)))))
  (sSeq (sPar [7, 8] [(false, mOp2 dAt (.ex (mCall f_run [.v (mVar 2), .v (mVar 3), .v (mVar 5)])) (.sl 5)), (false, mOp2 dAt (.ex (mCall f_run [.v (mVar 2), .v (mVar 6), .v (mVar 5)])) (.sl 5))])
  (sSeq (sFor (iRng fR1 [.ex (mOp2 dAt (.sl 2) (.ex (mLit (.int 0))))]) (tmName 9) (sSeq (sSet 10 (mCall f_far [.v (mVar 2), .v (mVar 4), .v (mVar 9)]))
  (sIf (bAnd (mB (mOp2 dNe (.ex (mOp2 dAt (.sl 7) (.sl 9))) (.ex (mOp2 dAt (.sl 8) (.sl 9))))) (bOr (mB (mOp2 dIsN (.sl 10) (.ex (mLit .none)))) (mB (mOp2 dGt (.sl 10) (.sl 5))))) (sRet (mLit (.bool false))) (sNil))))
  (sSeq (sFor (iSeq (mCut (.ex (mCall f_ahead [.v (mVar 2), .v (mVar 7)])) (none) (some (mLit (.int 4))))) (tmName 11) (sIf (bOr (mB (mOp2 dNe (.ex (mCall f_tick [.v (mVar 2), .v (mVar 11)])) (.sl 7))) (mB (mOp2 dNotIn (.ex (mCall f_becomes [.v (mVar 2), .v (mVar 11), .v (mVar 7)])) (.ex (mLst [mLit (.int 0), mLit (.int 1)]))))) (sRet (mLit (.bool false))) (sNil)))
  (sSeq (sIf (bOr (bAnd (mB (mOp2 dGt (.sl 5) (.ex (mLit (.int 0))))) (mB (mOp2 dNotIn (.ex (mOp2 dAt (.ex (mCall f_run [.v (mVar 2), .v (mVar 3), .v (mVar 5)])) (.ex (mOp2 dSub (.sl 5) (.ex (mLit (.int 1))))))) (.ex (mCall f_ahead [.v (mVar 2), .v (mVar 7)]))))) (mB (mOp2 dNe (.ex (mCall f_kin [.v (mVar 2), .v (mVar 7), .v (mLit (.int 1))])) (.ex (mFn dLen [.ex (mCall f_ahead [.v (mVar 2), .v (mVar 7)])]))))) (sRet (mLit (.bool false))) (sNil))
  (sSeq (sSet 12 (mCall f_eldest [.v (mVar 2), .v (mVar 7)]))
  (sSeq (sIf (bAnd (mB (mOp2 dNe (.sl 12) (.ex (mLit (.str "endless"))))) (bOr (mB (mOp2 dLt (.sl 12) (.sl 5))) (bOr (mB (mOp2 dEq (.ex (mCall f_kin [.v (mVar 2), .v (mVar 7), .v (mVar 12)])) (.ex (mLit (.int 0))))) (mB (mOp2 dNe (.ex (mCall f_kin [.v (mVar 2), .v (mVar 7), .v (mOp2 dAdd (.sl 12) (.ex (mLit (.int 1))))])) (.ex (mLit (.int 0)))))))) (sRet (mLit (.bool false))) (sNil))
  (sSeq (sIf (mB (mOp2 dNe (.ex (mOp2 dEq (.sl 12) (.ex (mLit (.str "endless"))))) (.ex (mOp2 dEq (.ex (mOp2 dAt (.ex (mCall f_coming_round [.v (mVar 2), .v (mVar 7)])) (.ex (mLit (.int 0))))) (.ex (mLit (.int 0))))))) (sRet (mLit (.bool false))) (sNil))
  (sSeq (sSet 13 (mCall f_story [.v (mVar 2), .v (mVar 3), .v (mVar 4), .v (mVar 5)]))
  (sSeq (sIf (bOr (mB (mOp2 dNotIn (.sl 3) (.ex (mCall f_fits [.v (mVar 2), .v (mVar 4), .v (mVar 13)])))) (mB (mOp2 dNe (.ex (mOp2 dAt (.sl 13) (.ex (mLit (.int 0))))) (.ex (mFn dStrI [.ex (mOp2 dAt (.sl 3) (.sl 4))]))))) (sRet (mLit (.bool false))) (sNil))
  (sSeq (sSet 14 (mCall f_sure [.v (mVar 2), .v (mVar 4), .v (mVar 13)]))
  (sSeq (sIf (bOr (mB (mOp2 dNe (.ex (mOp2 dAt (.sl 14) (.sl 4))) (.ex (mOp2 dAt (.sl 3) (.sl 4))))) (mB (mOp2 dNe (.ex (mComp (iRng fR1 [.ex (mOp2 dAt (.sl 2) (.ex (mLit (.int 0))))]) (tmName 9) (bAnd (mB (mOp2 dNotN (.ex (mOp2 dAt (.sl 14) (.sl 9))) (.ex (mLit .none)))) (mB (mOp2 dNe (.ex (mOp2 dAt (.sl 14) (.sl 9))) (.ex (mOp2 dAt (.sl 3) (.sl 9)))))) (mVar 9) [9])) (.ex (mLst []))))) (sRet (mLit (.bool false))) (sNil))
  (sSeq (sSet 15 (mCall f_meet [.v (mVar 2), .v (mVar 3), .v (mVar 6)]))
  (sSeq (sIf (bAnd (mB (mOp2 dNotN (.sl 15) (.ex (mLit .none)))) (mB (mOp2 dNe (.ex (mCall f_state_at [.v (mVar 2), .v (mVar 3), .v (mVar 15)])) (.ex (mCall f_state_at [.v (mVar 2), .v (mVar 6), .v (mVar 15)]))))) (sRet (mLit (.bool false))) (sNil))
  (sSeq (sIf (bAnd (mB (mOp2 dNotN (.sl 15) (.ex (mLit .none)))) (bAnd (mB (mOp2 dGt (.sl 15) (.ex (mLit (.int 0))))) (mB (mOp2 dEq (.ex (mCall f_state_at [.v (mVar 2), .v (mVar 3), .v (mOp2 dSub (.sl 15) (.ex (mLit (.int 1))))])) (.ex (mCall f_state_at [.v (mVar 2), .v (mVar 6), .v (mOp2 dSub (.sl 15) (.ex (mLit (.int 1))))])))))) (sRet (mLit (.bool false))) (sNil))
  (sSeq (sSet 16 (mCall f_changes [.v (mVar 2), .v (mVar 3), .v (mVar 5)]))
  (sSeq (sIf (mB (mOp2 dNe (.ex (mFn dLen [.ex (mComp (iRng fR1 [.sl 5]) (tmName 9) (mB (mOp2 dNe (.ex (mOp2 dAt (.sl 13) (.sl 9))) (.ex (mOp2 dAt (.sl 13) (.ex (mOp2 dAdd (.sl 9) (.ex (mLit (.int 1))))))))) (mLit (.int 1)) [9])])) (.ex (mOp2 dAt (.sl 16) (.sl 4))))) (sRet (mLit (.bool false))) (sNil))
  (sRet (mOp2 dEq (.ex (mOp2 dIn (.sl 4) (.ex (mCall f_stirred [.v (mVar 2), .v (mVar 3)])))) (.ex (mOp2 dEq (.ex (mOp2 dAt (.ex (mCall f_changes [.v (mVar 2), .v (mVar 3), .v (mLit (.int 1))])) (.sl 4))) (.ex (mLit (.int 1))))))))))))))))))))))))))
def f_law : FM := fnM 17 1 [] m_law

set_option autoImplicit false
/-- _law_near -/
def m__law_near : SM := sSeq (sOwn 1 (mLst []))
  (sSeq (sFor (iRng fR1 [.ex (mOp2 dAt (.sl 0) (.ex (mLit (.int 0))))]) (tmName 2) (sDo (mApp 1 (mComp (iRng fR1 [.ex (mOp2 dAt (.sl 0) (.ex (mLit (.int 0))))]) (tmName 3) (mB (mOp2 dIn (.ex (mTup [mFn dMin2 [.sl 2, .sl 3], mFn dMax2 [.sl 2, .sl 3]])) (.ex (mOp2 dAt (.sl 0) (.ex (mLit (.int 1))))))) (mVar 3) [3]))))
  (sRet (mVar 1)))
def f__law_near : FM := fnM 4 1 [] m__law_near
/-- _law_step -/
def m__law_step : SM := sSeq (sSet 3 (mTup [mOp2 dAt (.sl 0) (.sl 1), mOp2 dAt (.sl 0) (.sl 2)]))
  (sRet (mIf (mB (mOp2 dIn (.sl 3) (.ex (mLst [mTup [mLit (.int 0), mLit (.int 1)], mTup [mLit (.int 1), mLit (.int 2)], mTup [mLit (.int 2), mLit (.int 0)]])))) (mLit (.int 1)) (mIf (mB (mOp2 dNe (.ex (mOp2 dAt (.sl 3) (.ex (mLit (.int 0))))) (.ex (mOp2 dAt (.sl 3) (.ex (mLit (.int 1))))))) (mNeg (mLit (.int 1))) (mLit (.int 0)))))
def f__law_step : FM := fnM 4 3 [] m__law_step
/-- _law_next -/
def m__law_next : SM := sSeq (sPar [2, 3] [(true, mFn dList [.sl 1]), (false, mCall f__law_near [.v (mVar 0)])])
  (sSeq (sFor (iRng fR1 [.ex (mOp2 dAt (.sl 0) (.ex (mLit (.int 0))))]) (tmName 4) (sIf (mB (mOp2 dNe (.ex (mComp (iSeq (mOp2 dAt (.sl 3) (.sl 4))) (tmName 5) (mB (mOp2 dEq (.ex (mCall f__law_step [.v (mVar 1), .v (mVar 4), .v (mVar 5)])) (.ex (mLit (.int 1))))) (mVar 5) [5])) (.ex (mLst [])))) (sAsg (mOp2 dAt (.ex (mDict [(mLit (.int 0), mLit (.int 1)), (mLit (.int 1), mLit (.int 2)), (mLit (.int 2), mLit (.int 0))])) (.ex (mOp2 dAt (.sl 1) (.sl 4)))) (mPutAt 2 (.sl 4))) (sNil)))
  (sRet (mFn dTuple [.sl 2])))
def f__law_next : FM := fnM 6 2 [] m__law_next
/-- _law_round_trip -/
def m__law_round_trip : SM := sSeq (sOwn 2 (mLst [mVar 1]))
  (sSeq (sSet 3 (mCall f__law_next [.v (mVar 0), .v (mVar 1)]))
  (sSeq (whileM (mB (mOp2 dNotIn (.sl 3) (.sl 2))) (sSeq (sDo (mApp 2 (mVar 3)))
  (sSet 3 (mCall f__law_next [.v (mVar 0), .v (mVar 3)]))) 1000000)
  (sRet (mTup [mVar 2, mIndex 2 (mVar 3)]))))
def f__law_round_trip : FM := fnM 4 2 [] m__law_round_trip

set_option autoImplicit false
def top (i : Nat) : Stmt := PySem.Challenge.pw_threemoods_k24_across_light.main.body.getD i (.Pass ⟨0, 0, 0, 0⟩)
structure Bs (P : Program) (w : World) (K : PySem.W.Frag) (mg : Str → Option Value) : Prop where
  e_BadFolk : ER K mg "BadFolk"
  e_BadNumber : ER K mg "BadNumber"
  e_BadState : ER K mg "BadState"
  g_MOODS : ∃ t, mg "MOODS" = some (.int 3 t)
  g_MOST_ALL : ∃ t, mg "MOST_ALL" = some (.int 7 t)
  g_MOST_BACK : ∃ t, mg "MOST_BACK" = some (.int 100 t)
  g_MOST_FOLK : ∃ t, mg "MOST_FOLK" = some (.int 10 t)
  g_MOST_RUN : ∃ t, mg "MOST_RUN" = some (.int 500 t)
  g_MOST_STATES : ∃ t, mg "MOST_STATES" = some (.int 20000 t)
  g_MOST_STORY : ∃ t, mg "MOST_STORY" = some (.int 300 t)
  g_MOST_TICK : ∃ t, mg "MOST_TICK" = some (.int 1000000000000000000000000000000 t)
  g_MOST_TOLD : ∃ t, mg "MOST_TOLD" = some (.int 60 t)
  e_NotText : ER K mg "NotText"
  g_SIGNS : ∃ t, mg "SIGNS" = some (.str "012" t)
  b_all : mg "all" = none
  b_any : mg "any" = none
  b_bool : mg "bool" = none
  b_int : mg "int" = none
  b_isinstance : mg "isinstance" = none
  b_len : mg "len" = none
  b_list : mg "list" = none
  b_max : mg "max" = none
  b_min : mg "min" = none
  b_range : mg "range" = none
  b_sorted : mg "sorted" = none
  b_str : mg "str" = none
  b_tuple : mg "tuple" = none
  b_zip : mg "zip" = none
  r_BadWeb : ∀ base, ERF P w K mg base "BadWeb" "index"
  r_TooMany : ∀ base, ERF P w K mg base "TooMany" "most"
section
variable {P : Program} {w : World} {K : PySem.W.Frag} {mg : Str → Option Value} {base : Heap} {T : List (Addr × Str)}
theorem sc_is_number : FnScope ["value", "low", "high"] ["value", "low", "high"] (defScope (top 10)) := ⟨rfl, rfl, rfl, by decide +kernel, rfl, by decide +kernel, by decide +kernel⟩
theorem ok_is_number (B : Bs P w K mg) {f : Addr} {fd : FuncData} (F1 : Fun K "is_number" "is_number" (top 10) f fd) (hm : mg "is_number" = some (.ref f)) (hb : Binds K fd ["value", "low", "high"] []) : Cal P w K mg base T "is_number" (0 + 1) 3 f_is_number :=
  ⟨f, fd, ["value", "low", "high"], fn_ok F1 sc_is_number rfl (fun cdv A outer s H E W hr tk po =>
  ss_one (st_ret (me_and (me_isi rfl rfl B.b_isinstance rfl B.b_int boot_int (pv 0)) (me_and (me_not (me_isi rfl rfl B.b_isinstance rfl B.b_bool boot_bool (pv 0))) (me_one (me_chain op_le op_le p_le p_le (pv 1) (pv 0) (pv 2))))))), hm, F1.kp, hb⟩
theorem sc_is_street : FnScope ["folk", "value"] ["folk", "value"] (defScope (top 11)) := ⟨rfl, rfl, rfl, by decide +kernel, rfl, by decide +kernel, by decide +kernel⟩
theorem ok_is_street (B : Bs P w K mg) (c_is_number : Cal P w K mg base T "is_number" 1 3 f_is_number) {f : Addr} {fd : FuncData} (F1 : Fun K "is_street" "is_street" (top 11) f fd) (hm : mg "is_street" = some (.ref f)) (hb : Binds K fd ["folk", "value"] []) : Cal P w K mg base T "is_street" (1 + 1) 2 f_is_street :=
  ⟨f, fd, ["folk", "value"], fn_ok F1 sc_is_street rfl (fun cdv A outer s H E W hr tk po =>
  ss_cons (st_if (mt_bool (mw_or (mt_not (mt_val (me_isi rfl rfl B.b_isinstance rfl B.b_tuple boot_tuple (pv 1)))) (mw_or (mt_cmp (op_neD (room64 hr)) p_ne (me_fnB call_lenA p_len rfl B.b_len PySem.boot_len (mo_cons (pv 1) (mo_nil))) (me_int) (nomark _)) (mw_or1 (mt_not (mt_val (me_cal c_is_number rfl rfl hr tk rfl (ma_v (me_at (room1 hr) rfl (pv 1) (me_int)) (ma_v (me_int) (ma_v (me_op op_sub p_sub (pv 0) (me_int)) (ma_nil))))))))))) (ss_one (st_ret (me_bl))) (ss_nil))
  (ss_one (st_ret (me_cal c_is_number rfl rfl hr tk rfl (ma_v (me_at (room1 hr) rfl (pv 1) (me_int)) (ma_v (me_op op_addA p_add (me_at (room1 hr) rfl (pv 1) (me_int)) (me_int)) (ma_v (me_op op_sub p_sub (pv 0) (me_int)) (ma_nil)))))))), hm, F1.kp, hb⟩
theorem sc_need_web : FnScope ["value", "folk", "streets", "index"] ["value"] (defScope (top 12)) := ⟨rfl, rfl, rfl, by decide +kernel, rfl, by decide +kernel, by decide +kernel⟩
theorem ok_need_web (B : Bs P w K mg) (c_is_number : Cal P w K mg base T "is_number" 1 3 f_is_number) (c_is_street : Cal P w K mg base T "is_street" 2 2 f_is_street) {f : Addr} {fd : FuncData} (F1 : Fun K "need_web" "need_web" (top 12) f fd) (hm : mg "need_web" = some (.ref f)) (hb : Binds K fd ["value"] []) : Cal P w K mg base T "need_web" (2 + 1) 1 f_need_web :=
  ⟨f, fd, ["value"], fn_ok F1 sc_need_web rfl (fun cdv A outer s H E W hr tk po =>
  ss_cons (st_if (mt_bool (mw_or (mt_not (mt_val (me_isi rfl rfl B.b_isinstance rfl B.b_tuple boot_tuple (pv 0)))) (mw_or (mt_cmp (op_neD (room64 hr)) p_ne (me_fnB call_lenA p_len rfl B.b_len PySem.boot_len (mo_cons (pv 0) (mo_nil))) (me_int) (nomark _)) (mw_or1 (mt_not (mt_val (me_cal c_is_number rfl rfl hr tk rfl (ma_v (me_at (room1 hr) rfl (pv 0) (me_int)) (ma_v (me_int) (ma_v (me_gint rfl B.g_MOST_FOLK) (ma_nil))))))))))) (ss_one (st_raiseF (k := 0) rfl tk (B.r_BadWeb _) rfl rfl (hr.mono (by decide)) rfl (me_non))) (ss_nil))
  (ss_cons (st_if (mt_not (mt_val (me_isi rfl rfl B.b_isinstance rfl B.b_tuple boot_tuple (me_at (room1 hr) rfl (pv 0) (me_int))))) (ss_one (st_raiseF (k := 0) rfl tk (B.r_BadWeb _) rfl rfl (hr.mono (by decide)) rfl (me_non))) (ss_nil))
  (ss_cons (st_asg (me_var (pv 0)) (tg_tup rfl (gs_cons (tg_name sc_need_web.nd rfl (by first | exact Or.inl rfl | exact Or.inr rfl) (show 1 ∉ ([] : List Nat) by decide)) (gs_cons (tg_name sc_need_web.nd rfl (by first | exact Or.inl rfl | exact Or.inr rfl) (show 2 ∉ ([] : List Nat) by decide)) (gs_nil))) rfl))
  (ss_one (st_for po rfl rfl (mi_rng1 rfl B.b_range (mo_cons (me_fnB call_lenA p_len rfl B.b_len PySem.boot_len (mo_cons (pv 2) (mo_nil))) (mo_nil))) (tg_name sc_need_web.nd rfl (by first | exact Or.inl rfl | exact Or.inr rfl) (show 3 ∉ ([] : List Nat) by decide)) (ss_one (st_if (mt_bool (mw_or (mt_not (mt_val (me_cal c_is_street rfl rfl hr tk rfl (ma_v (me_var (pv 1)) (ma_v (me_at (room1 hr) rfl (pv 2) (pv 3)) (ma_nil)))))) (mw_or1 (mt_bool (mw_and (mt_cmp op_gt p_gt (pv 3) (me_int) (nomark _)) (mw_and1 (mt_cmp (op_ge.or (op_geT (room0 hr))) p_ge (me_at (room1 hr) rfl (pv 2) (me_op op_sub p_sub (pv 3) (me_int))) (me_at (room1 hr) rfl (pv 2) (pv 3)) (nomark _)))))))) (ss_one (st_raiseF (k := 0) rfl tk (B.r_BadWeb _) rfl rfl (hr.mono (by decide)) rfl (me_var (pv 3)))) (ss_nil)))))))), hm, F1.kp, hb⟩
theorem sc_need_one : FnScope ["web", "value"] ["web", "value"] (defScope (top 13)) := ⟨rfl, rfl, rfl, by decide +kernel, rfl, by decide +kernel, by decide +kernel⟩
theorem ok_need_one (B : Bs P w K mg) (c_is_number : Cal P w K mg base T "is_number" 1 3 f_is_number) {f : Addr} {fd : FuncData} (F1 : Fun K "need_one" "need_one" (top 13) f fd) (hm : mg "need_one" = some (.ref f)) (hb : Binds K fd ["web", "value"] []) : Cal P w K mg base T "need_one" (1 + 1) 2 f_need_one :=
  ⟨f, fd, ["web", "value"], fn_ok F1 sc_need_one rfl (fun cdv A outer s H E W hr tk po =>
  ss_one (st_if (mt_not (mt_val (me_cal c_is_number rfl rfl hr tk rfl (ma_v (me_var (pv 1)) (ma_v (me_int) (ma_v (me_op op_sub p_sub (me_at (room1 hr) rfl (pv 0) (me_int)) (me_int)) (ma_nil))))))) (ss_one (st_raiseE rfl tk B.e_BadFolk rfl rfl)) (ss_nil))), hm, F1.kp, hb⟩
theorem sc_near_lists : FnScope ["web", "found", "one", "other", "some"] ["web"] (defScope (top 14)) := ⟨rfl, rfl, rfl, by decide +kernel, rfl, by decide +kernel, by decide +kernel⟩
theorem ok_near_lists (B : Bs P w K mg) {f : Addr} {fd : FuncData} (F1 : Fun K "near_lists" "near_lists" (top 14) f fd) (hm : mg "near_lists" = some (.ref f)) (hb : Binds K fd ["web"] []) : Cal P w K mg base T "near_lists" (0 + 1) 1 f_near_lists :=
  ⟨f, fd, ["web"], fn_ok F1 sc_near_lists rfl (fun cdv A outer s H E W hr tk po =>
  ss_deep (own := [("one", 2)]) rfl sc_near_lists.nd rfl rfl (show 1 ∉ ([] : List Nat) by decide) (show ∀ v ∈ ([2] : List Nat), v ∉ ([] : List Nat) by decide) (by decide) rfl (mi_rng1 rfl B.b_range (mo_cons (me_at (room1 hr) rfl (pv 0) (me_int)) (mo_nil))) (blkOk_by (by kernel_rfl)) (fun _ _ _ _ _ => tg_name sc_near_lists.nd rfl (by first | exact Or.inl rfl | exact Or.inr rfl) (show 2 ∉ ([] : List Nat) by decide)) (fun _ _ _ _ _ => fe_lst (ms_nil)) (sd_for po rfl (mi_seq rfl (me_at (room1 hr) rfl (pv 0) (me_int))) (tg_tup rfl (gs_cons (tg_name sc_near_lists.nd rfl (by first | exact Or.inl rfl | exact Or.inr rfl) (show 2 ∉ ([] : List Nat) by decide)) (gs_cons (tg_name sc_near_lists.nd rfl (by first | exact Or.inl rfl | exact Or.inr rfl) (show 3 ∉ ([] : List Nat) by decide)) (gs_nil))) rfl) (sd_cons (sd_app rfl (ps_expr (pe_bm F.plainAttrs_list F.slot_list_append F.type_list_append mt_append (pe_ix (ix_any (room1 hr)) (pv 1) (pv 2) (by intro _ _; rfl)) (ms_cons (me_var (pv 3)) ms_nil)))) (sd_one (sd_app rfl (ps_expr (pe_bm F.plainAttrs_list F.slot_list_append F.type_list_append mt_append (pe_ix (ix_any (room1 hr)) (pv 1) (pv 3) (by intro _ _; rfl)) (ms_cons (me_var (pv 2)) ms_nil))))))) (ss_one (st_ret (me_of (fe_lc (own := [("some", 4)]) rfl sc_near_lists.nd (show ∀ v ∈ ([4] : List Nat), v ∉ ([] : List Nat) by decide) (by decide) (mi_seq rfl (me_var (pv 1))) (blkOk_by (by kernel_rfl)) (fun _ _ _ _ _ => tg_name sc_near_lists.nd rfl (by first | exact Or.inl rfl | exact Or.inr rfl) (show 4 ∉ ([] : List Nat) by decide)) (fun _ _ _ _ _ => mts_nil) (fun _ _ _ _ _ => me_of (fe_sort rfl rfl B.b_sorted (mo_cons (pv 4) (mo_nil))))))))), hm, F1.kp, hb⟩
theorem sc_ways_from : FnScope ["near", "one", "found", "row", "later", "here", "there"] ["near", "one"] (defScope (top 15)) := ⟨rfl, rfl, rfl, by decide +kernel, rfl, by decide +kernel, by decide +kernel⟩
theorem ok_ways_from (B : Bs P w K mg) {f : Addr} {fd : FuncData} (F1 : Fun K "ways_from" "ways_from" (top 15) f fd) (hm : mg "ways_from" = some (.ref f)) (hb : Binds K fd ["near", "one"] []) : Cal P w K mg base T "ways_from" (0 + 1) 2 f_ways_from :=
  ⟨f, fd, ["near", "one"], fn_ok F1 sc_ways_from rfl (fun cdv A outer s H E W hr tk po =>
  ss_cons (st_own sc_ways_from.nd rfl (by first | exact Or.inl rfl | exact Or.inr rfl) (fe_op op_rep p_repL (me_of (fe_lst (ms_cons (me_non) (ms_nil)))) (me_fnB call_lenA p_len rfl B.b_len PySem.boot_len (mo_cons (pv 0) (mo_nil)))) (show 2 ∉ ([] : List Nat) by decide))
  (ss_cons (st_parT rfl rfl (mp_v (me_int) (mp_v (me_of (fe_lst (ms_cons (me_var (pv 1)) (ms_nil)))) (mp_nil))) (gt_put (pg_sub (pv 2) (pv 1) (set_any (room1 hr))) (gt_nm sc_ways_from.nd rfl (by first | exact Or.inl rfl | exact Or.inr rfl) (gt_nil))) (fun t ht i e => by subst e; revert ht; exact (show ∀ (i : Nat), PT.nm i ∈ ([.put 2 1, .nm 3] : List PT) → i ∉ ([] : List Nat) by intro i h; first | (simp; done) | (simp at h; simp; omega)) i))
  (ss_cons (st_while 1000000 po (mt_cmp (op_neD (room64 hr)) p_ne (pv 3) (me_of (fe_lst (ms_nil))) (nomark _)) (ss_cons (st_own sc_ways_from.nd rfl (by first | exact Or.inl rfl | exact Or.inr rfl) (fe_lst (ms_nil)) (show 4 ∉ ([] : List Nat) by decide))
  (ss_cons (st_for po rfl rfl (mi_seq rfl (me_var (pv 3))) (tg_name sc_ways_from.nd rfl (by first | exact Or.inl rfl | exact Or.inr rfl) (show 5 ∉ ([] : List Nat) by decide)) (ss_one (st_for po rfl rfl (mi_seq rfl (me_at (room1 hr) rfl (pv 0) (pv 5))) (tg_name sc_ways_from.nd rfl (by first | exact Or.inl rfl | exact Or.inr rfl) (show 6 ∉ ([] : List Nat) by decide)) (ss_one (st_if (mt_cmp op_isN p_isN (me_at (room1 hr) rfl (pv 2) (pv 6)) (me_non) (nomark _)) (ss_cons (st_asg (me_op op_addA p_add (me_at (room1 hr) rfl (pv 2) (pv 5)) (me_int)) (tg_put (pg_sub (pv 2) (pv 6) (set_any (room1 hr)))))
  (ss_one (st_expr (me_app (pe_bm F.plainAttrs_list F.slot_list_append F.type_list_append mt_append (pv 4) (ms_cons (me_var (pv 6)) ms_nil)))))) (ss_nil))))))
  (ss_one (st_set sc_ways_from.nd rfl (by first | exact Or.inl rfl | exact Or.inr rfl) (me_var (pv 4)) (show 3 ∉ ([] : List Nat) by decide))))))
  (ss_one (st_ret (me_var (pv 2))))))), hm, F1.kp, hb⟩
theorem sc_far : FnScope ["web", "one", "other"] ["web", "one", "other"] (defScope (top 16)) := ⟨rfl, rfl, rfl, by decide +kernel, rfl, by decide +kernel, by decide +kernel⟩
theorem ok_far (B : Bs P w K mg) (c_need_web : Cal P w K mg base T "need_web" 3 1 f_need_web) (c_need_one : Cal P w K mg base T "need_one" 2 2 f_need_one) (c_near_lists : Cal P w K mg base T "near_lists" 1 1 f_near_lists) (c_ways_from : Cal P w K mg base T "ways_from" 1 2 f_ways_from) {f : Addr} {fd : FuncData} (F1 : Fun K "far" "far" (top 16) f fd) (hm : mg "far" = some (.ref f)) (hb : Binds K fd ["web", "one", "other"] []) : Cal P w K mg base T "far" (3 + 1) 3 f_far :=
  ⟨f, fd, ["web", "one", "other"], fn_ok F1 sc_far rfl (fun cdv A outer s H E W hr tk po =>
  ss_cons (st_expr (me_cal c_need_web rfl rfl hr tk rfl (ma_v (me_var (pv 0)) (ma_nil))))
  (ss_cons (st_expr (me_cal c_need_one rfl rfl hr tk rfl (ma_v (me_var (pv 0)) (ma_v (me_var (pv 1)) (ma_nil)))))
  (ss_cons (st_expr (me_cal c_need_one rfl rfl hr tk rfl (ma_v (me_var (pv 0)) (ma_v (me_var (pv 2)) (ma_nil)))))
  (ss_one (st_ret (me_at (room1 hr) rfl (me_cal c_ways_from rfl rfl hr tk rfl (ma_v (me_cal c_near_lists rfl rfl hr tk rfl (ma_v (me_var (pv 0)) (ma_nil))) (ma_v (me_var (pv 1)) (ma_nil)))) (pv 2))))))), hm, F1.kp, hb⟩
theorem sc_need_number : FnScope ["value", "low", "high"] ["value", "low", "high"] (defScope (top 20)) := ⟨rfl, rfl, rfl, by decide +kernel, rfl, by decide +kernel, by decide +kernel⟩
theorem ok_need_number (B : Bs P w K mg) (c_is_number : Cal P w K mg base T "is_number" 1 3 f_is_number) {f : Addr} {fd : FuncData} (F1 : Fun K "need_number" "need_number" (top 20) f fd) (hm : mg "need_number" = some (.ref f)) (hb : Binds K fd ["value", "low", "high"] []) : Cal P w K mg base T "need_number" (1 + 1) 3 f_need_number :=
  ⟨f, fd, ["value", "low", "high"], fn_ok F1 sc_need_number rfl (fun cdv A outer s H E W hr tk po =>
  ss_one (st_if (mt_not (mt_val (me_cal c_is_number rfl rfl hr tk rfl (ma_v (me_var (pv 0)) (ma_v (me_var (pv 1)) (ma_v (me_var (pv 2)) (ma_nil))))))) (ss_one (st_raiseE rfl tk B.e_BadNumber rfl rfl)) (ss_nil))), hm, F1.kp, hb⟩
theorem sc_are_moods : FnScope ["value", "many", "mood"] ["value", "many"] (defScope (top 21)) := ⟨rfl, rfl, rfl, by decide +kernel, rfl, by decide +kernel, by decide +kernel⟩
theorem ok_are_moods (B : Bs P w K mg) (c_is_number : Cal P w K mg base T "is_number" 1 3 f_is_number) {f : Addr} {fd : FuncData} (F1 : Fun K "are_moods" "are_moods" (top 21) f fd) (hm : mg "are_moods" = some (.ref f)) (hb : Binds K fd ["value", "many"] []) : Cal P w K mg base T "are_moods" (1 + 1) 2 f_are_moods :=
  ⟨f, fd, ["value", "many"], fn_ok F1 sc_are_moods rfl (fun cdv A outer s H E W hr tk po =>
  ss_one (st_ret (me_and (me_isi rfl rfl B.b_isinstance rfl B.b_tuple boot_tuple (pv 0)) (me_and (me_cmp (op_eqD (room64 hr)) p_eq (me_fnB call_lenA p_len rfl B.b_len PySem.boot_len (mo_cons (pv 0) (mo_nil))) (pv 1) (nomark _)) (me_one (me_fnB (cr_all rfl) p_all rfl B.b_all boot_all (mo_cons (me_of (fe_lc (own := [("mood", 2)]) rfl sc_are_moods.nd (show ∀ v ∈ ([2] : List Nat), v ∉ ([] : List Nat) by decide) (by decide) (mi_seq rfl (me_var (pv 0))) (blkOk_by (by kernel_rfl)) (fun _ _ _ _ _ => tg_name sc_are_moods.nd rfl (by first | exact Or.inl rfl | exact Or.inr rfl) (show 2 ∉ ([] : List Nat) by decide)) (fun _ _ _ _ _ => mts_nil) (fun _ _ _ _ _ => me_cal c_is_number rfl rfl hr takes_no rfl (ma_v (me_var (pv 2)) (ma_v (me_int) (ma_v (me_op op_sub p_sub (me_gint rfl B.g_MOODS) (me_int)) (ma_nil))))))) (mo_nil)))))))), hm, F1.kp, hb⟩
theorem sc_need_both : FnScope ["web", "state"] ["web", "state"] (defScope (top 22)) := ⟨rfl, rfl, rfl, by decide +kernel, rfl, by decide +kernel, by decide +kernel⟩
theorem ok_need_both (B : Bs P w K mg) (c_need_web : Cal P w K mg base T "need_web" 3 1 f_need_web) (c_are_moods : Cal P w K mg base T "are_moods" 2 2 f_are_moods) {f : Addr} {fd : FuncData} (F1 : Fun K "need_both" "need_both" (top 22) f fd) (hm : mg "need_both" = some (.ref f)) (hb : Binds K fd ["web", "state"] []) : Cal P w K mg base T "need_both" (3 + 1) 2 f_need_both :=
  ⟨f, fd, ["web", "state"], fn_ok F1 sc_need_both rfl (fun cdv A outer s H E W hr tk po =>
  ss_cons (st_expr (me_cal c_need_web rfl rfl hr tk rfl (ma_v (me_var (pv 0)) (ma_nil))))
  (ss_one (st_if (mt_not (mt_val (me_cal c_are_moods rfl rfl hr tk rfl (ma_v (me_var (pv 1)) (ma_v (me_at (room1 hr) rfl (pv 0) (me_int)) (ma_nil)))))) (ss_one (st_raiseE rfl tk B.e_BadState rfl rfl)) (ss_nil)))), hm, F1.kp, hb⟩
theorem sc_step : FnScope ["state", "one", "other"] ["state", "one", "other"] (defScope (top 23)) := ⟨rfl, rfl, rfl, by decide +kernel, rfl, by decide +kernel, by decide +kernel⟩
theorem ok_step (B : Bs P w K mg) {f : Addr} {fd : FuncData} (F1 : Fun K "step" "step" (top 23) f fd) (hm : mg "step" = some (.ref f)) (hb : Binds K fd ["state", "one", "other"] []) : Cal P w K mg base T "step" (0 + 1) 3 f_step :=
  ⟨f, fd, ["state", "one", "other"], fn_ok F1 sc_step rfl (fun cdv A outer s H E W hr tk po =>
  ss_one (st_ret (me_op op_sub p_sub (me_op op_mod p_mod (me_op op_addA p_add (me_op op_sub p_sub (me_at (room1 hr) rfl (pv 0) (pv 2)) (me_at (room1 hr) rfl (pv 0) (pv 1))) (me_int)) (me_gint rfl B.g_MOODS)) (me_int)))), hm, F1.kp, hb⟩
theorem sc_stirred_in : FnScope ["near", "state", "one", "other"] ["near", "state"] (defScope (top 24)) := ⟨rfl, rfl, rfl, by decide +kernel, rfl, by decide +kernel, by decide +kernel⟩
theorem ok_stirred_in (B : Bs P w K mg) (c_step : Cal P w K mg base T "step" 1 3 f_step) {f : Addr} {fd : FuncData} (F1 : Fun K "stirred_in" "stirred_in" (top 24) f fd) (hm : mg "stirred_in" = some (.ref f)) (hb : Binds K fd ["near", "state"] []) : Cal P w K mg base T "stirred_in" (1 + 1) 2 f_stirred_in :=
  ⟨f, fd, ["near", "state"], fn_ok F1 sc_stirred_in rfl (fun cdv A outer s H E W hr tk po =>
  ss_one (st_ret (me_of (fe_lc (own := [("one", 2)]) rfl sc_stirred_in.nd (show ∀ v ∈ ([2] : List Nat), v ∉ ([] : List Nat) by decide) (by decide) (mi_rng1 rfl B.b_range (mo_cons (me_fnB call_lenA p_len rfl B.b_len PySem.boot_len (mo_cons (pv 0) (mo_nil))) (mo_nil))) (blkOk_by (by kernel_rfl)) (fun _ _ _ _ _ => tg_name sc_stirred_in.nd rfl (by first | exact Or.inl rfl | exact Or.inr rfl) (show 2 ∉ ([] : List Nat) by decide)) (fun _ _ _ _ _ => mts_one (mt_val (me_fnB (cr_any rfl) p_any rfl B.b_any boot_any (mo_cons (me_of (fe_lc (own := [("other", 3)]) rfl sc_stirred_in.nd (show ∀ v ∈ ([3] : List Nat), v ∉ ([] : List Nat) by decide) (by decide) (mi_seq rfl (me_at (room1 hr) rfl (pv 0) (pv 2))) (blkOk_by (by kernel_rfl)) (fun _ _ _ _ _ => tg_name sc_stirred_in.nd rfl (by first | exact Or.inl rfl | exact Or.inr rfl) (show 3 ∉ ([] : List Nat) by decide)) (fun _ _ _ _ _ => mts_nil) (fun _ _ _ _ _ => me_cmp (op_eqD (room64 hr)) p_eq (me_cal c_step rfl rfl hr takes_no rfl (ma_v (me_var (pv 1)) (ma_v (me_var (pv 2)) (ma_v (me_var (pv 3)) (ma_nil))))) (me_int) (nomark _)))) (mo_nil))))) (fun _ _ _ _ _ => me_var (pv 2)))))), hm, F1.kp, hb⟩
theorem sc_next_state : FnScope ["near", "state", "some", "one"] ["near", "state"] (defScope (top 25)) := ⟨rfl, rfl, rfl, by decide +kernel, rfl, by decide +kernel, by decide +kernel⟩
theorem ok_next_state (B : Bs P w K mg) (c_stirred_in : Cal P w K mg base T "stirred_in" 2 2 f_stirred_in) {f : Addr} {fd : FuncData} (F1 : Fun K "next_state" "next_state" (top 25) f fd) (hm : mg "next_state" = some (.ref f)) (hb : Binds K fd ["near", "state"] []) : Cal P w K mg base T "next_state" (2 + 1) 2 f_next_state :=
  ⟨f, fd, ["near", "state"], fn_ok F1 sc_next_state rfl (fun cdv A outer s H E W hr tk po =>
  ss_cons (st_set sc_next_state.nd rfl (by first | exact Or.inl rfl | exact Or.inr rfl) (me_cal c_stirred_in rfl rfl hr tk rfl (ma_v (me_var (pv 0)) (ma_v (me_var (pv 1)) (ma_nil)))) (show 2 ∉ ([] : List Nat) by decide))
  (ss_one (st_ret (me_fnT call_tuple_of p_tuple rfl B.b_tuple boot_tuple (mo_cons (me_of (fe_lc (own := [("one", 3)]) rfl sc_next_state.nd (show ∀ v ∈ ([3] : List Nat), v ∉ ([] : List Nat) by decide) (by decide) (mi_rng1 rfl B.b_range (mo_cons (me_fnB call_lenA p_len rfl B.b_len PySem.boot_len (mo_cons (pv 0) (mo_nil))) (mo_nil))) (blkOk_by (by kernel_rfl)) (fun _ _ _ _ _ => tg_name sc_next_state.nd rfl (by first | exact Or.inl rfl | exact Or.inr rfl) (show 3 ∉ ([] : List Nat) by decide)) (fun _ _ _ _ _ => mts_nil) (fun _ _ _ _ _ => me_op op_mod p_mod (me_op op_addA p_add (me_at (room1 hr) rfl (pv 1) (pv 3)) (me_fnT call_int1 p_int rfl B.b_int boot_int (mo_cons (me_cmp (op_inAny (room65 hr)) (p_inAny (f := id)) (pv 3) (pv 2) (by with_unfolding_all rfl)) (mo_nil)))) (me_gint rfl B.g_MOODS)))) (mo_nil)))))), hm, F1.kp, hb⟩
theorem sc_stirred : FnScope ["web", "state"] ["web", "state"] (defScope (top 26)) := ⟨rfl, rfl, rfl, by decide +kernel, rfl, by decide +kernel, by decide +kernel⟩
theorem ok_stirred (B : Bs P w K mg) (c_near_lists : Cal P w K mg base T "near_lists" 1 1 f_near_lists) (c_need_both : Cal P w K mg base T "need_both" 4 2 f_need_both) (c_stirred_in : Cal P w K mg base T "stirred_in" 2 2 f_stirred_in) {f : Addr} {fd : FuncData} (F1 : Fun K "stirred" "stirred" (top 26) f fd) (hm : mg "stirred" = some (.ref f)) (hb : Binds K fd ["web", "state"] []) : Cal P w K mg base T "stirred" (4 + 1) 2 f_stirred :=
  ⟨f, fd, ["web", "state"], fn_ok F1 sc_stirred rfl (fun cdv A outer s H E W hr tk po =>
  ss_cons (st_expr (me_cal c_need_both rfl rfl hr tk rfl (ma_v (me_var (pv 0)) (ma_v (me_var (pv 1)) (ma_nil)))))
  (ss_one (st_ret (me_fnT call_tuple_of p_tuple rfl B.b_tuple boot_tuple (mo_cons (me_cal c_stirred_in rfl rfl hr tk rfl (ma_v (me_cal c_near_lists rfl rfl hr tk rfl (ma_v (me_var (pv 0)) (ma_nil))) (ma_v (me_var (pv 1)) (ma_nil)))) (mo_nil)))))), hm, F1.kp, hb⟩
theorem sc_tick : FnScope ["web", "state"] ["web", "state"] (defScope (top 27)) := ⟨rfl, rfl, rfl, by decide +kernel, rfl, by decide +kernel, by decide +kernel⟩
theorem ok_tick (B : Bs P w K mg) (c_near_lists : Cal P w K mg base T "near_lists" 1 1 f_near_lists) (c_need_both : Cal P w K mg base T "need_both" 4 2 f_need_both) (c_next_state : Cal P w K mg base T "next_state" 3 2 f_next_state) {f : Addr} {fd : FuncData} (F1 : Fun K "tick" "tick" (top 27) f fd) (hm : mg "tick" = some (.ref f)) (hb : Binds K fd ["web", "state"] []) : Cal P w K mg base T "tick" (4 + 1) 2 f_tick :=
  ⟨f, fd, ["web", "state"], fn_ok F1 sc_tick rfl (fun cdv A outer s H E W hr tk po =>
  ss_cons (st_expr (me_cal c_need_both rfl rfl hr tk rfl (ma_v (me_var (pv 0)) (ma_v (me_var (pv 1)) (ma_nil)))))
  (ss_one (st_ret (me_cal c_next_state rfl rfl hr tk rfl (ma_v (me_cal c_near_lists rfl rfl hr tk rfl (ma_v (me_var (pv 0)) (ma_nil))) (ma_v (me_var (pv 1)) (ma_nil))))))), hm, F1.kp, hb⟩
theorem sc_states_from : FnScope ["near", "state", "many", "found", "turn"] ["near", "state", "many"] (defScope (top 28)) := ⟨rfl, rfl, rfl, by decide +kernel, rfl, by decide +kernel, by decide +kernel⟩
theorem ok_states_from (B : Bs P w K mg) (c_next_state : Cal P w K mg base T "next_state" 3 2 f_next_state) {f : Addr} {fd : FuncData} (F1 : Fun K "states_from" "states_from" (top 28) f fd) (hm : mg "states_from" = some (.ref f)) (hb : Binds K fd ["near", "state", "many"] []) : Cal P w K mg base T "states_from" (3 + 1) 3 f_states_from :=
  ⟨f, fd, ["near", "state", "many"], fn_ok F1 sc_states_from rfl (fun cdv A outer s H E W hr tk po =>
  ss_cons (st_own sc_states_from.nd rfl (by first | exact Or.inl rfl | exact Or.inr rfl) (fe_lst (ms_cons (me_var (pv 1)) (ms_nil))) (show 3 ∉ ([] : List Nat) by decide))
  (ss_cons (st_for po rfl rfl (mi_rng1 rfl B.b_range (mo_cons (pv 2) (mo_nil))) (tg_name sc_states_from.nd rfl (by first | exact Or.inl rfl | exact Or.inr rfl) (show 4 ∉ ([] : List Nat) by decide)) (ss_one (st_expr (me_app (pe_bm F.plainAttrs_list F.slot_list_append F.type_list_append mt_append (pv 3) (ms_cons (me_cal c_next_state rfl rfl hr tk rfl (ma_v (me_var (pv 0)) (ma_v (me_at (room1 hr) rfl (pv 3) (me_neg (me_int))) (ma_nil)))) ms_nil))))))
  (ss_one (st_ret (me_var (pv 3)))))), hm, F1.kp, hb⟩
theorem sc_run : FnScope ["web", "state", "many"] ["web", "state", "many"] (defScope (top 29)) := ⟨rfl, rfl, rfl, by decide +kernel, rfl, by decide +kernel, by decide +kernel⟩
theorem ok_run (B : Bs P w K mg) (c_near_lists : Cal P w K mg base T "near_lists" 1 1 f_near_lists) (c_need_number : Cal P w K mg base T "need_number" 2 3 f_need_number) (c_need_both : Cal P w K mg base T "need_both" 4 2 f_need_both) (c_states_from : Cal P w K mg base T "states_from" 4 3 f_states_from) {f : Addr} {fd : FuncData} (F1 : Fun K "run" "run" (top 29) f fd) (hm : mg "run" = some (.ref f)) (hb : Binds K fd ["web", "state", "many"] []) : Cal P w K mg base T "run" (4 + 1) 3 f_run :=
  ⟨f, fd, ["web", "state", "many"], fn_ok F1 sc_run rfl (fun cdv A outer s H E W hr tk po =>
  ss_cons (st_expr (me_cal c_need_both rfl rfl hr tk rfl (ma_v (me_var (pv 0)) (ma_v (me_var (pv 1)) (ma_nil)))))
  (ss_cons (st_expr (me_cal c_need_number rfl rfl hr tk rfl (ma_v (me_var (pv 2)) (ma_v (me_int) (ma_v (me_gint rfl B.g_MOST_RUN) (ma_nil))))))
  (ss_one (st_ret (me_fnT call_tuple_of p_tuple rfl B.b_tuple boot_tuple (mo_cons (me_cal c_states_from rfl rfl hr tk rfl (ma_v (me_cal c_near_lists rfl rfl hr tk rfl (ma_v (me_var (pv 0)) (ma_nil))) (ma_v (me_var (pv 1)) (ma_v (me_var (pv 2)) (ma_nil))))) (mo_nil))))))), hm, F1.kp, hb⟩
theorem sc_table_of : FnScope ["web", "state", "near", "found", "one", "other"] ["web", "state"] (defScope (top 32)) := ⟨rfl, rfl, rfl, by decide +kernel, rfl, by decide +kernel, by decide +kernel⟩
theorem ok_table_of (B : Bs P w K mg) (c_near_lists : Cal P w K mg base T "near_lists" 1 1 f_near_lists) (c_step : Cal P w K mg base T "step" 1 3 f_step) {f : Addr} {fd : FuncData} (F1 : Fun K "table_of" "table_of" (top 32) f fd) (hm : mg "table_of" = some (.ref f)) (hb : Binds K fd ["web", "state"] []) : Cal P w K mg base T "table_of" (1 + 1) 2 f_table_of :=
  ⟨f, fd, ["web", "state"], fn_ok F1 sc_table_of rfl (fun cdv A outer s H E W hr tk po =>
  ss_cons (st_set sc_table_of.nd rfl (by first | exact Or.inl rfl | exact Or.inr rfl) (me_cal c_near_lists rfl rfl hr tk rfl (ma_v (me_var (pv 0)) (ma_nil))) (show 2 ∉ ([] : List Nat) by decide))
  (ss_deep (own := [("one", 4)]) rfl sc_table_of.nd rfl rfl (show 3 ∉ ([] : List Nat) by decide) (show ∀ v ∈ ([4] : List Nat), v ∉ ([] : List Nat) by decide) (by decide) rfl (mi_rng1 rfl B.b_range (mo_cons (me_at (room1 hr) rfl (pv 0) (me_int)) (mo_nil))) (blkOk_by (by kernel_rfl)) (fun _ _ _ _ _ => tg_name sc_table_of.nd rfl (by first | exact Or.inl rfl | exact Or.inr rfl) (show 4 ∉ ([] : List Nat) by decide)) (fun _ _ _ _ _ => fe_op op_rep p_repL (me_of (fe_lst (ms_cons (me_non) (ms_nil)))) (me_at (room1 hr) rfl (pv 0) (me_int))) (sd_for po rfl (mi_rng1 rfl B.b_range (mo_cons (me_at (room1 hr) rfl (pv 0) (me_int)) (mo_nil))) (tg_name sc_table_of.nd rfl (by first | exact Or.inl rfl | exact Or.inr rfl) (show 4 ∉ ([] : List Nat) by decide)) (sd_cons (sd_put rfl (ps_asg (me_int) (pg_sub (pe_ix (ix_any (room1 hr)) (pv 3) (pv 4) (by intro _ _; rfl)) (pv 4) set_list))) (sd_one (sd_for po rfl (mi_seq rfl (me_at (room1 hr) rfl (pv 2) (pv 4))) (tg_name sc_table_of.nd rfl (by first | exact Or.inl rfl | exact Or.inr rfl) (show 5 ∉ ([] : List Nat) by decide)) (sd_one (sd_put rfl (ps_asg (me_cal c_step rfl rfl hr tk rfl (ma_v (me_var (pv 1)) (ma_v (me_var (pv 4)) (ma_v (me_var (pv 5)) (ma_nil))))) (pg_sub (pe_ix (ix_any (room1 hr)) (pv 3) (pv 4) (by intro _ _; rfl)) (pv 5) set_list)))))))) (ss_one (st_ret (me_var (pv 3)))))), hm, F1.kp, hb⟩
theorem sc_row_behind : FnScope ["row", "table", "found", "there", "some", "k"] ["row", "table"] (defScope (top 33)) := ⟨rfl, rfl, rfl, by decide +kernel, rfl, by decide +kernel, by decide +kernel⟩
theorem ok_row_behind (B : Bs P w K mg) {f : Addr} {fd : FuncData} (F1 : Fun K "row_behind" "row_behind" (top 33) f fd) (hm : mg "row_behind" = some (.ref f)) (hb : Binds K fd ["row", "table"] []) : Cal P w K mg base T "row_behind" (0 + 1) 2 f_row_behind :=
  ⟨f, fd, ["row", "table"], fn_ok F1 sc_row_behind rfl (fun cdv A outer s H E W hr tk po =>
  ss_cons (st_own sc_row_behind.nd rfl (by first | exact Or.inl rfl | exact Or.inr rfl) (fe_lst (ms_nil)) (show 2 ∉ ([] : List Nat) by decide))
  (ss_cons (st_for po rfl rfl (mi_rng1 rfl B.b_range (mo_cons (me_fnB call_lenA p_len rfl B.b_len PySem.boot_len (mo_cons (pv 0) (mo_nil))) (mo_nil))) (tg_name sc_row_behind.nd rfl (by first | exact Or.inl rfl | exact Or.inr rfl) (show 3 ∉ ([] : List Nat) by decide)) (ss_cons (st_ownLc rfl sc_row_behind.nd rfl rfl (show 4 ∉ ([] : List Nat) by decide) (own := [("k", 5)]) (show ∀ v ∈ ([5] : List Nat), v ∉ ([] : List Nat) by decide) (by decide)  rfl (mi_rng1 rfl B.b_range (mo_cons (me_fnB call_lenA p_len rfl B.b_len PySem.boot_len (mo_cons (pv 0) (mo_nil))) (mo_nil))) (blkOk_by (by kernel_rfl)) (fun _ _ _ _ _ => tg_name sc_row_behind.nd rfl (by first | exact Or.inl rfl | exact Or.inr rfl) (show 5 ∉ ([] : List Nat) by decide)) (fun _ _ _ _ _ => mts_one (mt_bool (mw_and (mt_cmp op_notN p_notN (me_at (room1 hr) rfl (pv 0) (pv 5)) (me_non) (nomark _)) (mw_and1 (mt_cmp op_notN p_notN (me_at (room1 hr) rfl (me_at (room1 hr) rfl (pv 1) (pv 5)) (pv 3)) (me_non) (nomark _)))))) (fun _ _ _ _ _ => me_op op_addA p_add (me_at (room1 hr) rfl (pv 0) (pv 5)) (me_at (room1 hr) rfl (me_at (room1 hr) rfl (pv 1) (pv 5)) (pv 3))))
  (ss_one (st_expr (me_app (pe_bm F.plainAttrs_list F.slot_list_append F.type_list_append mt_append (pv 2) (ms_cons (me_if (mt_cmp (op_neD (room64 hr)) p_ne (pv 4) (me_of (fe_lst (ms_nil))) (nomark _)) (me_fnB (cr_max rfl) p_max rfl B.b_max boot_max (mo_cons (pv 4) (mo_nil))) (me_non)) ms_nil)))))))
  (ss_one (st_ret (me_var (pv 2)))))), hm, F1.kp, hb⟩
theorem sc_twice : FnScope ["table", "row"] ["table"] (defScope (top 34)) := ⟨rfl, rfl, rfl, by decide +kernel, rfl, by decide +kernel, by decide +kernel⟩
theorem ok_twice (B : Bs P w K mg) (c_row_behind : Cal P w K mg base T "row_behind" 1 2 f_row_behind) {f : Addr} {fd : FuncData} (F1 : Fun K "twice" "twice" (top 34) f fd) (hm : mg "twice" = some (.ref f)) (hb : Binds K fd ["table"] []) : Cal P w K mg base T "twice" (1 + 1) 1 f_twice :=
  ⟨f, fd, ["table"], fn_ok F1 sc_twice rfl (fun cdv A outer s H E W hr tk po =>
  ss_one (st_ret (me_of (fe_lc (own := [("row", 1)]) rfl sc_twice.nd (show ∀ v ∈ ([1] : List Nat), v ∉ ([] : List Nat) by decide) (by decide) (mi_seq rfl (me_var (pv 0))) (blkOk_by (by kernel_rfl)) (fun _ _ _ _ _ => tg_name sc_twice.nd rfl (by first | exact Or.inl rfl | exact Or.inr rfl) (show 1 ∉ ([] : List Nat) by decide)) (fun _ _ _ _ _ => mts_nil) (fun _ _ _ _ _ => me_cal c_row_behind rfl rfl hr takes_no rfl (ma_v (me_var (pv 1)) (ma_v (me_var (pv 0)) (ma_nil)))))))), hm, F1.kp, hb⟩
theorem sc_first_row : FnScope ["many", "one", "other"] ["many", "one"] (defScope (top 35)) := ⟨rfl, rfl, rfl, by decide +kernel, rfl, by decide +kernel, by decide +kernel⟩
theorem ok_first_row (B : Bs P w K mg) {f : Addr} {fd : FuncData} (F1 : Fun K "first_row" "first_row" (top 35) f fd) (hm : mg "first_row" = some (.ref f)) (hb : Binds K fd ["many", "one"] []) : Cal P w K mg base T "first_row" (0 + 1) 2 f_first_row :=
  ⟨f, fd, ["many", "one"], fn_ok F1 sc_first_row rfl (fun cdv A outer s H E W hr tk po =>
  ss_one (st_ret (me_of (fe_lc (own := [("other", 2)]) rfl sc_first_row.nd (show ∀ v ∈ ([2] : List Nat), v ∉ ([] : List Nat) by decide) (by decide) (mi_rng1 rfl B.b_range (mo_cons (pv 0) (mo_nil))) (blkOk_by (by kernel_rfl)) (fun _ _ _ _ _ => tg_name sc_first_row.nd rfl (by first | exact Or.inl rfl | exact Or.inr rfl) (show 2 ∉ ([] : List Nat) by decide)) (fun _ _ _ _ _ => mts_nil) (fun _ _ _ _ _ => me_if (mt_cmp (op_eqD (room64 hr)) p_eq (pv 2) (pv 1) (nomark _)) (me_int) (me_non)))))), hm, F1.kp, hb⟩
theorem sc_most_of : FnScope ["row", "number"] ["row"] (defScope (top 36)) := ⟨rfl, rfl, rfl, by decide +kernel, rfl, by decide +kernel, by decide +kernel⟩
theorem ok_most_of (B : Bs P w K mg) {f : Addr} {fd : FuncData} (F1 : Fun K "most_of" "most_of" (top 36) f fd) (hm : mg "most_of" = some (.ref f)) (hb : Binds K fd ["row"] []) : Cal P w K mg base T "most_of" (0 + 1) 1 f_most_of :=
  ⟨f, fd, ["row"], fn_ok F1 sc_most_of rfl (fun cdv A outer s H E W hr tk po =>
  ss_one (st_ret (me_fnB (cr_max rfl) p_max rfl B.b_max boot_max (mo_cons (me_of (fe_lc (own := [("number", 1)]) rfl sc_most_of.nd (show ∀ v ∈ ([1] : List Nat), v ∉ ([] : List Nat) by decide) (by decide) (mi_seq rfl (me_var (pv 0))) (blkOk_by (by kernel_rfl)) (fun _ _ _ _ _ => tg_name sc_most_of.nd rfl (by first | exact Or.inl rfl | exact Or.inr rfl) (show 1 ∉ ([] : List Nat) by decide)) (fun _ _ _ _ _ => mts_one (mt_cmp op_notN p_notN (pv 1) (me_non) (nomark _))) (fun _ _ _ _ _ => me_var (pv 1)))) (mo_nil))))), hm, F1.kp, hb⟩
theorem sc_changes_in : FnScope ["web", "state", "many", "rows", "table", "one", "row"] ["web", "state", "many"] (defScope (top 37)) := ⟨rfl, rfl, rfl, by decide +kernel, rfl, by decide +kernel, by decide +kernel⟩
theorem ok_changes_in (B : Bs P w K mg) (c_table_of : Cal P w K mg base T "table_of" 2 2 f_table_of) (c_row_behind : Cal P w K mg base T "row_behind" 1 2 f_row_behind) (c_twice : Cal P w K mg base T "twice" 2 1 f_twice) (c_first_row : Cal P w K mg base T "first_row" 1 2 f_first_row) (c_most_of : Cal P w K mg base T "most_of" 1 1 f_most_of) {f : Addr} {fd : FuncData} (F1 : Fun K "changes_in" "changes_in" (top 37) f fd) (hm : mg "changes_in" = some (.ref f)) (hb : Binds K fd ["web", "state", "many"] []) : Cal P w K mg base T "changes_in" (2 + 1) 3 f_changes_in :=
  ⟨f, fd, ["web", "state", "many"], fn_ok F1 sc_changes_in rfl (fun cdv A outer s H E W hr tk po =>
  ss_cons (st_parT rfl rfl (mp_v (me_of (fe_lc (own := [("one", 5)]) rfl sc_changes_in.nd (show ∀ v ∈ ([5] : List Nat), v ∉ ([] : List Nat) by decide) (by decide) (mi_rng1 rfl B.b_range (mo_cons (me_at (room1 hr) rfl (pv 0) (me_int)) (mo_nil))) (blkOk_by (by kernel_rfl)) (fun _ _ _ _ _ => tg_name sc_changes_in.nd rfl (by first | exact Or.inl rfl | exact Or.inr rfl) (show 5 ∉ ([] : List Nat) by decide)) (fun _ _ _ _ _ => mts_nil) (fun _ _ _ _ _ => me_cal c_first_row rfl rfl hr takes_no rfl (ma_v (me_at (room1 hr) rfl (pv 0) (me_int)) (ma_v (me_var (pv 5)) (ma_nil)))))) (mp_v (me_cal c_table_of rfl rfl hr tk rfl (ma_v (me_var (pv 0)) (ma_v (me_var (pv 1)) (ma_nil)))) (mp_nil))) (gt_nm sc_changes_in.nd rfl (by first | exact Or.inl rfl | exact Or.inr rfl) (gt_nm sc_changes_in.nd rfl (by first | exact Or.inl rfl | exact Or.inr rfl) (gt_nil))) (fun t ht i e => by subst e; revert ht; exact (show ∀ (i : Nat), PT.nm i ∈ ([.nm 3, .nm 4] : List PT) → i ∉ ([] : List Nat) by intro i h; first | (simp; done) | (simp at h; simp; omega)) i))
  (ss_cons (st_while 1000000 po (mt_cmp op_gt p_gt (pv 2) (me_int) (nomark _)) (ss_cons (st_if (mt_cmp (op_eqD (room64 hr)) p_eq (me_op op_mod p_mod (pv 2) (me_int)) (me_int) (nomark _)) (ss_one (st_ownLc rfl sc_changes_in.nd rfl rfl (show 3 ∉ ([] : List Nat) by decide) (own := [("row", 6)]) (show ∀ v ∈ ([6] : List Nat), v ∉ ([] : List Nat) by decide) (by decide)  rfl (mi_seq rfl (me_var (pv 3))) (blkOk_by (by kernel_rfl)) (fun _ _ _ _ _ => tg_name sc_changes_in.nd rfl (by first | exact Or.inl rfl | exact Or.inr rfl) (show 6 ∉ ([] : List Nat) by decide)) (fun _ _ _ _ _ => mts_nil) (fun _ _ _ _ _ => me_cal c_row_behind rfl rfl hr takes_no rfl (ma_v (me_var (pv 6)) (ma_v (me_var (pv 4)) (ma_nil)))))) (ss_nil))
  (ss_cons (st_set sc_changes_in.nd rfl (by first | exact Or.inl rfl | exact Or.inr rfl) (me_op op_fdivW p_fdiv (pv 2) (me_int)) (show 2 ∉ ([] : List Nat) by decide))
  (ss_one (st_if (mt_cmp op_gt p_gt (pv 2) (me_int) (nomark _)) (ss_one (st_set sc_changes_in.nd rfl (by first | exact Or.inl rfl | exact Or.inr rfl) (me_cal c_twice rfl rfl hr tk rfl (ma_v (me_var (pv 4)) (ma_nil))) (show 4 ∉ ([] : List Nat) by decide))) (ss_nil))))))
  (ss_one (st_ret (me_fnT call_tuple_of p_tuple rfl B.b_tuple boot_tuple (mo_cons (me_of (fe_lc (own := [("row", 6)]) rfl sc_changes_in.nd (show ∀ v ∈ ([6] : List Nat), v ∉ ([] : List Nat) by decide) (by decide) (mi_seq rfl (me_var (pv 3))) (blkOk_by (by kernel_rfl)) (fun _ _ _ _ _ => tg_name sc_changes_in.nd rfl (by first | exact Or.inl rfl | exact Or.inr rfl) (show 6 ∉ ([] : List Nat) by decide)) (fun _ _ _ _ _ => mts_nil) (fun _ _ _ _ _ => me_cal c_most_of rfl rfl hr takes_no rfl (ma_v (me_var (pv 6)) (ma_nil))))) (mo_nil))))))), hm, F1.kp, hb⟩
theorem sc_state_in : FnScope ["web", "state", "many", "found", "one"] ["web", "state", "many"] (defScope (top 38)) := ⟨rfl, rfl, rfl, by decide +kernel, rfl, by decide +kernel, by decide +kernel⟩
theorem ok_state_in (B : Bs P w K mg) (c_changes_in : Cal P w K mg base T "changes_in" 3 3 f_changes_in) {f : Addr} {fd : FuncData} (F1 : Fun K "state_in" "state_in" (top 38) f fd) (hm : mg "state_in" = some (.ref f)) (hb : Binds K fd ["web", "state", "many"] []) : Cal P w K mg base T "state_in" (3 + 1) 3 f_state_in :=
  ⟨f, fd, ["web", "state", "many"], fn_ok F1 sc_state_in rfl (fun cdv A outer s H E W hr tk po =>
  ss_cons (st_set sc_state_in.nd rfl (by first | exact Or.inl rfl | exact Or.inr rfl) (me_cal c_changes_in rfl rfl hr tk rfl (ma_v (me_var (pv 0)) (ma_v (me_var (pv 1)) (ma_v (me_var (pv 2)) (ma_nil))))) (show 3 ∉ ([] : List Nat) by decide))
  (ss_one (st_ret (me_fnT call_tuple_of p_tuple rfl B.b_tuple boot_tuple (mo_cons (me_of (fe_lc (own := [("one", 4)]) rfl sc_state_in.nd (show ∀ v ∈ ([4] : List Nat), v ∉ ([] : List Nat) by decide) (by decide) (mi_rng1 rfl B.b_range (mo_cons (me_at (room1 hr) rfl (pv 0) (me_int)) (mo_nil))) (blkOk_by (by kernel_rfl)) (fun _ _ _ _ _ => tg_name sc_state_in.nd rfl (by first | exact Or.inl rfl | exact Or.inr rfl) (show 4 ∉ ([] : List Nat) by decide)) (fun _ _ _ _ _ => mts_nil) (fun _ _ _ _ _ => me_op op_mod p_mod (me_op op_addA p_add (me_at (room1 hr) rfl (pv 1) (pv 4)) (me_at (room1 hr) rfl (pv 3) (pv 4))) (me_gint rfl B.g_MOODS)))) (mo_nil)))))), hm, F1.kp, hb⟩
theorem sc_changes : FnScope ["web", "state", "many"] ["web", "state", "many"] (defScope (top 39)) := ⟨rfl, rfl, rfl, by decide +kernel, rfl, by decide +kernel, by decide +kernel⟩
theorem ok_changes (B : Bs P w K mg) (c_need_number : Cal P w K mg base T "need_number" 2 3 f_need_number) (c_need_both : Cal P w K mg base T "need_both" 4 2 f_need_both) (c_changes_in : Cal P w K mg base T "changes_in" 3 3 f_changes_in) {f : Addr} {fd : FuncData} (F1 : Fun K "changes" "changes" (top 39) f fd) (hm : mg "changes" = some (.ref f)) (hb : Binds K fd ["web", "state", "many"] []) : Cal P w K mg base T "changes" (4 + 1) 3 f_changes :=
  ⟨f, fd, ["web", "state", "many"], fn_ok F1 sc_changes rfl (fun cdv A outer s H E W hr tk po =>
  ss_cons (st_expr (me_cal c_need_both rfl rfl hr tk rfl (ma_v (me_var (pv 0)) (ma_v (me_var (pv 1)) (ma_nil)))))
  (ss_cons (st_expr (me_cal c_need_number rfl rfl hr tk rfl (ma_v (me_var (pv 2)) (ma_v (me_int) (ma_v (me_gint rfl B.g_MOST_TICK) (ma_nil))))))
  (ss_one (st_ret (me_cal c_changes_in rfl rfl hr tk rfl (ma_v (me_var (pv 0)) (ma_v (me_var (pv 1)) (ma_v (me_var (pv 2)) (ma_nil))))))))), hm, F1.kp, hb⟩
theorem sc_state_at : FnScope ["web", "state", "many"] ["web", "state", "many"] (defScope (top 40)) := ⟨rfl, rfl, rfl, by decide +kernel, rfl, by decide +kernel, by decide +kernel⟩
theorem ok_state_at (B : Bs P w K mg) (c_need_number : Cal P w K mg base T "need_number" 2 3 f_need_number) (c_need_both : Cal P w K mg base T "need_both" 4 2 f_need_both) (c_state_in : Cal P w K mg base T "state_in" 4 3 f_state_in) {f : Addr} {fd : FuncData} (F1 : Fun K "state_at" "state_at" (top 40) f fd) (hm : mg "state_at" = some (.ref f)) (hb : Binds K fd ["web", "state", "many"] []) : Cal P w K mg base T "state_at" (4 + 1) 3 f_state_at :=
  ⟨f, fd, ["web", "state", "many"], fn_ok F1 sc_state_at rfl (fun cdv A outer s H E W hr tk po =>
  ss_cons (st_expr (me_cal c_need_both rfl rfl hr tk rfl (ma_v (me_var (pv 0)) (ma_v (me_var (pv 1)) (ma_nil)))))
  (ss_cons (st_expr (me_cal c_need_number rfl rfl hr tk rfl (ma_v (me_var (pv 2)) (ma_v (me_int) (ma_v (me_gint rfl B.g_MOST_TICK) (ma_nil))))))
  (ss_one (st_ret (me_cal c_state_in rfl rfl hr tk rfl (ma_v (me_var (pv 0)) (ma_v (me_var (pv 1)) (ma_v (me_var (pv 2)) (ma_nil))))))))), hm, F1.kp, hb⟩
theorem sc_all_states : FnScope ["many", "found", "turn", "longer", "state", "mood"] ["many"] (defScope (top 43)) := ⟨rfl, rfl, rfl, by decide +kernel, rfl, by decide +kernel, by decide +kernel⟩
theorem ok_all_states (B : Bs P w K mg) {f : Addr} {fd : FuncData} (F1 : Fun K "all_states" "all_states" (top 43) f fd) (hm : mg "all_states" = some (.ref f)) (hb : Binds K fd ["many"] []) : Cal P w K mg base T "all_states" (0 + 1) 1 f_all_states :=
  ⟨f, fd, ["many"], fn_ok F1 sc_all_states rfl (fun cdv A outer s H E W hr tk po =>
  ss_cons (st_set sc_all_states.nd rfl (by first | exact Or.inl rfl | exact Or.inr rfl) (me_of (fe_lst (ms_cons (me_tup (ms_nil)) (ms_nil)))) (show 1 ∉ ([] : List Nat) by decide))
  (ss_cons (st_for po rfl rfl (mi_rng1 rfl B.b_range (mo_cons (pv 0) (mo_nil))) (tg_name sc_all_states.nd rfl (by first | exact Or.inl rfl | exact Or.inr rfl) (show 2 ∉ ([] : List Nat) by decide)) (ss_cons (st_own sc_all_states.nd rfl (by first | exact Or.inl rfl | exact Or.inr rfl) (fe_lst (ms_nil)) (show 3 ∉ ([] : List Nat) by decide))
  (ss_cons (st_for po rfl rfl (mi_seq rfl (me_var (pv 1))) (tg_name sc_all_states.nd rfl (by first | exact Or.inl rfl | exact Or.inr rfl) (show 4 ∉ ([] : List Nat) by decide)) (ss_one (st_expr (me_ext rfl (pe_bm F.plainAttrs_list F.slot_list_extend F.type_list_extend mt_extA (pv 3) (ms_cons (me_of (fe_lc (own := [("mood", 5)]) rfl sc_all_states.nd (show ∀ v ∈ ([5] : List Nat), v ∉ ([] : List Nat) by decide) (by decide) (mi_rng1 rfl B.b_range (mo_cons (me_gint rfl B.g_MOODS) (mo_nil))) (blkOk_by (by kernel_rfl)) (fun _ _ _ _ _ => tg_name sc_all_states.nd rfl (by first | exact Or.inl rfl | exact Or.inr rfl) (show 5 ∉ ([] : List Nat) by decide)) (fun _ _ _ _ _ => mts_nil) (fun _ _ _ _ _ => me_op op_addA p_add (pv 4) (me_tup (ms_cons (me_var (pv 5)) (ms_nil)))))) ms_nil))))))
  (ss_one (st_set sc_all_states.nd rfl (by first | exact Or.inl rfl | exact Or.inr rfl) (me_var (pv 3)) (show 1 ∉ ([] : List Nat) by decide))))))
  (ss_one (st_ret (me_var (pv 1)))))), hm, F1.kp, hb⟩
theorem sc_need_few : FnScope ["web"] ["web"] (defScope (top 44)) := ⟨rfl, rfl, rfl, by decide +kernel, rfl, by decide +kernel, by decide +kernel⟩
theorem ok_need_few (B : Bs P w K mg) {f : Addr} {fd : FuncData} (F1 : Fun K "need_few" "need_few" (top 44) f fd) (hm : mg "need_few" = some (.ref f)) (hb : Binds K fd ["web"] []) : Cal P w K mg base T "need_few" (2 + 1) 1 f_need_few :=
  ⟨f, fd, ["web"], fn_ok F1 sc_need_few rfl (fun cdv A outer s H E W hr tk po =>
  ss_one (st_if (mt_cmp op_gt p_gt (me_at (room1 hr) rfl (pv 0) (me_int)) (me_gint rfl B.g_MOST_ALL) (nomark _)) (ss_one (st_raiseF (k := 0) rfl tk (B.r_TooMany _) rfl rfl (hr.mono (by decide)) rfl (me_gint rfl B.g_MOST_ALL))) (ss_nil))), hm, F1.kp, hb⟩
theorem sc_row_round : FnScope ["near", "state", "places", "row", "later"] ["near", "state"] (defScope (top 46)) := ⟨rfl, rfl, rfl, by decide +kernel, rfl, by decide +kernel, by decide +kernel⟩
theorem ok_row_round (B : Bs P w K mg) (c_next_state : Cal P w K mg base T "next_state" 3 2 f_next_state) {f : Addr} {fd : FuncData} (F1 : Fun K "row_round" "row_round" (top 46) f fd) (hm : mg "row_round" = some (.ref f)) (hb : Binds K fd ["near", "state"] []) : Cal P w K mg base T "row_round" (3 + 1) 2 f_row_round :=
  ⟨f, fd, ["near", "state"], fn_ok F1 sc_row_round rfl (fun cdv A outer s H E W hr tk po =>
  ss_cons (st_par3 rfl sc_row_round.nd rfl rfl rfl (by decide) (by decide) (by decide) rfl rfl rfl (mp_f (fe_oneT (room0 hr) (me_var (pv 1)) (me_int)) (mp_f (fe_lst (ms_cons (me_var (pv 1)) (ms_nil))) (mp_v (me_cal c_next_state rfl rfl hr tk rfl (ma_v (me_var (pv 0)) (ma_v (me_var (pv 1)) (ma_nil)))) (mp_nil)))) (show ∀ v ∈ ([2, 3, 4] : List Nat), v ∉ ([] : List Nat) by decide) rfl rfl)
  (ss_cons (st_while 1000000 po (mt_cmp (op_notInAny (room65 hr)) (p_inAny (f := not)) (pv 4) (pv 2) (by with_unfolding_all rfl)) (ss_cons (st_asg (me_fnB call_lenA p_len rfl B.b_len PySem.boot_len (mo_cons (pv 3) (mo_nil))) (tg_put (pg_sub (pv 2) (pv 4) (set_any (room1 hr)))))
  (ss_cons (st_expr (me_app (pe_bm F.plainAttrs_list F.slot_list_append F.type_list_append mt_append (pv 3) (ms_cons (me_var (pv 4)) ms_nil))))
  (ss_one (st_set sc_row_round.nd rfl (by first | exact Or.inl rfl | exact Or.inr rfl) (me_cal c_next_state rfl rfl hr tk rfl (ma_v (me_var (pv 0)) (ma_v (me_var (pv 4)) (ma_nil)))) (show 4 ∉ ([] : List Nat) by decide))))))
  (ss_one (st_ret (me_tup (ms_cons (me_var (pv 3)) (ms_cons (me_at (room1 hr) rfl (pv 2) (pv 4)) (ms_nil)))))))), hm, F1.kp, hb⟩
theorem sc_coming_round : FnScope ["web", "state", "row", "first"] ["web", "state"] (defScope (top 47)) := ⟨rfl, rfl, rfl, by decide +kernel, rfl, by decide +kernel, by decide +kernel⟩
theorem ok_coming_round (B : Bs P w K mg) (c_near_lists : Cal P w K mg base T "near_lists" 1 1 f_near_lists) (c_need_both : Cal P w K mg base T "need_both" 4 2 f_need_both) (c_row_round : Cal P w K mg base T "row_round" 4 2 f_row_round) {f : Addr} {fd : FuncData} (F1 : Fun K "coming_round" "coming_round" (top 47) f fd) (hm : mg "coming_round" = some (.ref f)) (hb : Binds K fd ["web", "state"] []) : Cal P w K mg base T "coming_round" (4 + 1) 2 f_coming_round :=
  ⟨f, fd, ["web", "state"], fn_ok F1 sc_coming_round rfl (fun cdv A outer s H E W hr tk po =>
  ss_cons (st_expr (me_cal c_need_both rfl rfl hr tk rfl (ma_v (me_var (pv 0)) (ma_v (me_var (pv 1)) (ma_nil)))))
  (ss_cons (st_asg (me_cal c_row_round rfl rfl hr tk rfl (ma_v (me_cal c_near_lists rfl rfl hr tk rfl (ma_v (me_var (pv 0)) (ma_nil))) (ma_v (me_var (pv 1)) (ma_nil)))) (tg_tup rfl (gs_cons (tg_name sc_coming_round.nd rfl (by first | exact Or.inl rfl | exact Or.inr rfl) (show 2 ∉ ([] : List Nat) by decide)) (gs_cons (tg_name sc_coming_round.nd rfl (by first | exact Or.inl rfl | exact Or.inr rfl) (show 3 ∉ ([] : List Nat) by decide)) (gs_nil))) rfl))
  (ss_one (st_ret (me_tup (ms_cons (me_var (pv 3)) (ms_cons (me_op op_sub p_sub (me_fnB call_lenA p_len rfl B.b_len PySem.boot_len (mo_cons (pv 2) (mo_nil))) (pv 3)) (ms_nil)))))))), hm, F1.kp, hb⟩
theorem sc_state_of : FnScope ["row", "first", "many"] ["row", "first", "many"] (defScope (top 48)) := ⟨rfl, rfl, rfl, by decide +kernel, rfl, by decide +kernel, by decide +kernel⟩
theorem ok_state_of (B : Bs P w K mg) {f : Addr} {fd : FuncData} (F1 : Fun K "state_of" "state_of" (top 48) f fd) (hm : mg "state_of" = some (.ref f)) (hb : Binds K fd ["row", "first", "many"] []) : Cal P w K mg base T "state_of" (0 + 1) 3 f_state_of :=
  ⟨f, fd, ["row", "first", "many"], fn_ok F1 sc_state_of rfl (fun cdv A outer s H E W hr tk po =>
  ss_one (st_ret (me_if (mt_cmp op_lt p_lt (pv 2) (me_fnB call_lenA p_len rfl B.b_len PySem.boot_len (mo_cons (pv 0) (mo_nil))) (nomark _)) (me_at (room1 hr) rfl (pv 0) (pv 2)) (me_at (room1 hr) rfl (pv 0) (me_op op_addA p_add (pv 1) (me_op op_mod p_mod (me_op op_sub p_sub (pv 2) (pv 1)) (me_op op_sub p_sub (me_fnB call_lenA p_len rfl B.b_len PySem.boot_len (mo_cons (pv 0) (mo_nil))) (pv 1)))))))), hm, F1.kp, hb⟩
theorem sc_meet : FnScope ["web", "one", "other", "near", "row", "first", "mates", "start", "many"] ["web", "one", "other"] (defScope (top 49)) := ⟨rfl, rfl, rfl, by decide +kernel, rfl, by decide +kernel, by decide +kernel⟩
theorem ok_meet (B : Bs P w K mg) (c_near_lists : Cal P w K mg base T "near_lists" 1 1 f_near_lists) (c_need_both : Cal P w K mg base T "need_both" 4 2 f_need_both) (c_row_round : Cal P w K mg base T "row_round" 4 2 f_row_round) (c_state_of : Cal P w K mg base T "state_of" 1 3 f_state_of) {f : Addr} {fd : FuncData} (F1 : Fun K "meet" "meet" (top 49) f fd) (hm : mg "meet" = some (.ref f)) (hb : Binds K fd ["web", "one", "other"] []) : Cal P w K mg base T "meet" (4 + 1) 3 f_meet :=
  ⟨f, fd, ["web", "one", "other"], fn_ok F1 sc_meet rfl (fun cdv A outer s H E W hr tk po =>
  ss_cons (st_expr (me_cal c_need_both rfl rfl hr tk rfl (ma_v (me_var (pv 0)) (ma_v (me_var (pv 1)) (ma_nil)))))
  (ss_cons (st_expr (me_cal c_need_both rfl rfl hr tk rfl (ma_v (me_var (pv 0)) (ma_v (me_var (pv 2)) (ma_nil)))))
  (ss_cons (st_set sc_meet.nd rfl (by first | exact Or.inl rfl | exact Or.inr rfl) (me_cal c_near_lists rfl rfl hr tk rfl (ma_v (me_var (pv 0)) (ma_nil))) (show 3 ∉ ([] : List Nat) by decide))
  (ss_cons (st_asg (me_cal c_row_round rfl rfl hr tk rfl (ma_v (me_var (pv 3)) (ma_v (me_var (pv 1)) (ma_nil)))) (tg_tup rfl (gs_cons (tg_name sc_meet.nd rfl (by first | exact Or.inl rfl | exact Or.inr rfl) (show 4 ∉ ([] : List Nat) by decide)) (gs_cons (tg_name sc_meet.nd rfl (by first | exact Or.inl rfl | exact Or.inr rfl) (show 5 ∉ ([] : List Nat) by decide)) (gs_nil))) rfl))
  (ss_cons (st_asg (me_cal c_row_round rfl rfl hr tk rfl (ma_v (me_var (pv 3)) (ma_v (me_var (pv 2)) (ma_nil)))) (tg_tup rfl (gs_cons (tg_name sc_meet.nd rfl (by first | exact Or.inl rfl | exact Or.inr rfl) (show 6 ∉ ([] : List Nat) by decide)) (gs_cons (tg_name sc_meet.nd rfl (by first | exact Or.inl rfl | exact Or.inr rfl) (show 7 ∉ ([] : List Nat) by decide)) (gs_nil))) rfl))
  (ss_cons (st_for po rfl rfl (mi_rng1 rfl B.b_range (mo_cons (me_op op_addA p_add (me_fnB (call_max2 rfl) p_max2 rfl B.b_max boot_max (mo_cons (pv 5) (mo_cons (pv 7) (mo_nil)))) (me_int)) (mo_nil))) (tg_name sc_meet.nd rfl (by first | exact Or.inl rfl | exact Or.inr rfl) (show 8 ∉ ([] : List Nat) by decide)) (ss_one (st_if (mt_cmp (op_eqD (room64 hr)) p_eq (me_cal c_state_of rfl rfl hr tk rfl (ma_v (me_var (pv 4)) (ma_v (me_var (pv 5)) (ma_v (me_var (pv 8)) (ma_nil))))) (me_cal c_state_of rfl rfl hr tk rfl (ma_v (me_var (pv 6)) (ma_v (me_var (pv 7)) (ma_v (me_var (pv 8)) (ma_nil))))) (nomark _)) (ss_one (st_ret (me_var (pv 8)))) (ss_nil))))
  (ss_one (st_ret (me_non))))))))), hm, F1.kp, hb⟩
theorem sc_becomes : FnScope ["web", "state", "other", "row"] ["web", "state", "other"] (defScope (top 50)) := ⟨rfl, rfl, rfl, by decide +kernel, rfl, by decide +kernel, by decide +kernel⟩
theorem ok_becomes (B : Bs P w K mg) (c_near_lists : Cal P w K mg base T "near_lists" 1 1 f_near_lists) (c_need_both : Cal P w K mg base T "need_both" 4 2 f_need_both) (c_row_round : Cal P w K mg base T "row_round" 4 2 f_row_round) {f : Addr} {fd : FuncData} (F1 : Fun K "becomes" "becomes" (top 50) f fd) (hm : mg "becomes" = some (.ref f)) (hb : Binds K fd ["web", "state", "other"] []) : Cal P w K mg base T "becomes" (4 + 1) 3 f_becomes :=
  ⟨f, fd, ["web", "state", "other"], fn_ok F1 sc_becomes rfl (fun cdv A outer s H E W hr tk po =>
  ss_cons (st_expr (me_cal c_need_both rfl rfl hr tk rfl (ma_v (me_var (pv 0)) (ma_v (me_var (pv 1)) (ma_nil)))))
  (ss_cons (st_expr (me_cal c_need_both rfl rfl hr tk rfl (ma_v (me_var (pv 0)) (ma_v (me_var (pv 2)) (ma_nil)))))
  (ss_cons (st_set sc_becomes.nd rfl (by first | exact Or.inl rfl | exact Or.inr rfl) (me_at (room1 hr) rfl (me_cal c_row_round rfl rfl hr tk rfl (ma_v (me_cal c_near_lists rfl rfl hr tk rfl (ma_v (me_var (pv 0)) (ma_nil))) (ma_v (me_var (pv 1)) (ma_nil)))) (me_int)) (show 3 ∉ ([] : List Nat) by decide))
  (ss_one (st_ret (me_if (mt_cmp (op_inAny (room65 hr)) (p_inAny (f := id)) (pv 2) (pv 3) (by with_unfolding_all rfl)) (me_index rfl (pe_bm F.plainAttrs_list F.slot_list_index F.type_list_index (mt_indexD (room65 hr)) (pv 3) (ms_cons (me_var (pv 2)) ms_nil))) (me_non))))))), hm, F1.kp, hb⟩
theorem sc_lots_of : FnScope ["many", "found", "turn", "lot"] ["many"] (defScope (top 54)) := ⟨rfl, rfl, rfl, by decide +kernel, rfl, by decide +kernel, by decide +kernel⟩
theorem ok_lots_of (B : Bs P w K mg) {f : Addr} {fd : FuncData} (F1 : Fun K "lots_of" "lots_of" (top 54) f fd) (hm : mg "lots_of" = some (.ref f)) (hb : Binds K fd ["many"] []) : Cal P w K mg base T "lots_of" (0 + 1) 1 f_lots_of :=
  ⟨f, fd, ["many"], fn_ok F1 sc_lots_of rfl (fun cdv A outer s H E W hr tk po =>
  ss_cons (st_set sc_lots_of.nd rfl (by first | exact Or.inl rfl | exact Or.inr rfl) (me_of (fe_lst (ms_cons (me_tup (ms_nil)) (ms_nil)))) (show 1 ∉ ([] : List Nat) by decide))
  (ss_cons (st_for po rfl rfl (mi_rng1 rfl B.b_range (mo_cons (pv 0) (mo_nil))) (tg_name sc_lots_of.nd rfl (by first | exact Or.inl rfl | exact Or.inr rfl) (show 2 ∉ ([] : List Nat) by decide)) (ss_one (st_set sc_lots_of.nd rfl (by first | exact Or.inl rfl | exact Or.inr rfl) (me_of (fe_op op_cat p_cat (me_of (fe_lc (own := [("lot", 3)]) rfl sc_lots_of.nd (show ∀ v ∈ ([3] : List Nat), v ∉ ([] : List Nat) by decide) (by decide) (mi_seq rfl (me_var (pv 1))) (blkOk_by (by kernel_rfl)) (fun _ _ _ _ _ => tg_name sc_lots_of.nd rfl (by first | exact Or.inl rfl | exact Or.inr rfl) (show 3 ∉ ([] : List Nat) by decide)) (fun _ _ _ _ _ => mts_nil) (fun _ _ _ _ _ => me_op op_addA p_add (pv 3) (me_tup (ms_cons (me_int) (ms_nil)))))) (me_of (fe_lc (own := [("lot", 3)]) rfl sc_lots_of.nd (show ∀ v ∈ ([3] : List Nat), v ∉ ([] : List Nat) by decide) (by decide) (mi_seq rfl (me_var (pv 1))) (blkOk_by (by kernel_rfl)) (fun _ _ _ _ _ => tg_name sc_lots_of.nd rfl (by first | exact Or.inl rfl | exact Or.inr rfl) (show 3 ∉ ([] : List Nat) by decide)) (fun _ _ _ _ _ => mts_nil) (fun _ _ _ _ _ => me_op op_addA p_add (pv 3) (me_tup (ms_cons (me_int) (ms_nil)))))))) (show 1 ∉ ([] : List Nat) by decide))))
  (ss_one (st_ret (me_var (pv 1)))))), hm, F1.kp, hb⟩
theorem sc_ahead_in : FnScope ["near", "state", "lots", "found", "lot", "elder", "mood", "one"] ["near", "state", "lots"] (defScope (top 55)) := ⟨rfl, rfl, rfl, by decide +kernel, rfl, by decide +kernel, by decide +kernel⟩
theorem ok_ahead_in (B : Bs P w K mg) (c_next_state : Cal P w K mg base T "next_state" 3 2 f_next_state) {f : Addr} {fd : FuncData} (F1 : Fun K "ahead_in" "ahead_in" (top 55) f fd) (hm : mg "ahead_in" = some (.ref f)) (hb : Binds K fd ["near", "state", "lots"] []) : Cal P w K mg base T "ahead_in" (3 + 1) 3 f_ahead_in :=
  ⟨f, fd, ["near", "state", "lots"], fn_ok F1 sc_ahead_in rfl (fun cdv A outer s H E W hr tk po =>
  ss_cons (st_own sc_ahead_in.nd rfl (by first | exact Or.inl rfl | exact Or.inr rfl) (fe_lst (ms_nil)) (show 3 ∉ ([] : List Nat) by decide))
  (ss_cons (st_for po rfl rfl (mi_seq rfl (me_var (pv 2))) (tg_name sc_ahead_in.nd rfl (by first | exact Or.inl rfl | exact Or.inr rfl) (show 4 ∉ ([] : List Nat) by decide)) (ss_cons (st_set sc_ahead_in.nd rfl (by first | exact Or.inl rfl | exact Or.inr rfl) (me_fnT call_tuple_of p_tuple rfl B.b_tuple boot_tuple (mo_cons (me_of (fe_lc (own := [("mood", 6), ("one", 7)]) rfl sc_ahead_in.nd (show ∀ v ∈ ([6, 7] : List Nat), v ∉ ([] : List Nat) by decide) (by decide) (mi_zip rfl rfl B.b_zip (ms_cons (me_var (pv 1)) (ms_cons (me_var (pv 4)) ms_nil))) (blkOk_by (by kernel_rfl)) (fun _ _ _ _ _ => tg_tup rfl (gs_cons (tg_name sc_ahead_in.nd rfl (by first | exact Or.inl rfl | exact Or.inr rfl) (show 6 ∉ ([] : List Nat) by decide)) (gs_cons (tg_name sc_ahead_in.nd rfl (by first | exact Or.inl rfl | exact Or.inr rfl) (show 7 ∉ ([] : List Nat) by decide)) (gs_nil))) rfl) (fun _ _ _ _ _ => mts_nil) (fun _ _ _ _ _ => me_op op_mod p_mod (me_op op_sub p_sub (pv 6) (pv 7)) (me_gint rfl B.g_MOODS)))) (mo_nil))) (show 5 ∉ ([] : List Nat) by decide))
  (ss_one (st_if (mt_cmp (op_eqD (room64 hr)) p_eq (me_cal c_next_state rfl rfl hr tk rfl (ma_v (me_var (pv 0)) (ma_v (me_var (pv 5)) (ma_nil)))) (pv 1) (nomark _)) (ss_one (st_expr (me_app (pe_bm F.plainAttrs_list F.slot_list_append F.type_list_append mt_append (pv 3) (ms_cons (me_var (pv 5)) ms_nil))))) (ss_nil)))))
  (ss_one (st_ret (me_of (fe_sortT (room65 hr) rfl rfl B.b_sorted (mo_cons (pv 3) (mo_nil)))))))), hm, F1.kp, hb⟩
theorem sc_ahead : FnScope ["web", "state"] ["web", "state"] (defScope (top 56)) := ⟨rfl, rfl, rfl, by decide +kernel, rfl, by decide +kernel, by decide +kernel⟩
theorem ok_ahead (B : Bs P w K mg) (c_near_lists : Cal P w K mg base T "near_lists" 1 1 f_near_lists) (c_need_both : Cal P w K mg base T "need_both" 4 2 f_need_both) (c_lots_of : Cal P w K mg base T "lots_of" 1 1 f_lots_of) (c_ahead_in : Cal P w K mg base T "ahead_in" 4 3 f_ahead_in) {f : Addr} {fd : FuncData} (F1 : Fun K "ahead" "ahead" (top 56) f fd) (hm : mg "ahead" = some (.ref f)) (hb : Binds K fd ["web", "state"] []) : Cal P w K mg base T "ahead" (4 + 1) 2 f_ahead :=
  ⟨f, fd, ["web", "state"], fn_ok F1 sc_ahead rfl (fun cdv A outer s H E W hr tk po =>
  ss_cons (st_expr (me_cal c_need_both rfl rfl hr tk rfl (ma_v (me_var (pv 0)) (ma_v (me_var (pv 1)) (ma_nil)))))
  (ss_one (st_ret (me_fnT call_tuple_of p_tuple rfl B.b_tuple boot_tuple (mo_cons (me_cal c_ahead_in rfl rfl hr tk rfl (ma_v (me_cal c_near_lists rfl rfl hr tk rfl (ma_v (me_var (pv 0)) (ma_nil))) (ma_v (me_var (pv 1)) (ma_v (me_cal c_lots_of rfl rfl hr tk rfl (ma_v (me_at (room1 hr) rfl (pv 0) (me_int)) (ma_nil))) (ma_nil))))) (mo_nil)))))), hm, F1.kp, hb⟩
theorem sc_leads_of : FnScope ["web", "near", "state"] ["web"] (defScope (top 57)) := ⟨rfl, rfl, rfl, by decide +kernel, rfl, by decide +kernel, by decide +kernel⟩
theorem ok_leads_of (B : Bs P w K mg) (c_near_lists : Cal P w K mg base T "near_lists" 1 1 f_near_lists) (c_next_state : Cal P w K mg base T "next_state" 3 2 f_next_state) (c_all_states : Cal P w K mg base T "all_states" 1 1 f_all_states) {f : Addr} {fd : FuncData} (F1 : Fun K "leads_of" "leads_of" (top 57) f fd) (hm : mg "leads_of" = some (.ref f)) (hb : Binds K fd ["web"] []) : Cal P w K mg base T "leads_of" (3 + 1) 1 f_leads_of :=
  ⟨f, fd, ["web"], fn_ok F1 sc_leads_of rfl (fun cdv A outer s H E W hr tk po =>
  ss_cons (st_set sc_leads_of.nd rfl (by first | exact Or.inl rfl | exact Or.inr rfl) (me_cal c_near_lists rfl rfl hr tk rfl (ma_v (me_var (pv 0)) (ma_nil))) (show 1 ∉ ([] : List Nat) by decide))
  (ss_one (st_ret (me_of (fe_dc (own := [("state", 2)]) (room0 hr) rfl sc_leads_of.nd (show ∀ v ∈ ([2] : List Nat), v ∉ ([] : List Nat) by decide) (by decide) (mi_seq rfl (me_cal c_all_states rfl rfl hr tk rfl (ma_v (me_at (room1 hr) rfl (pv 0) (me_int)) (ma_nil)))) (blkOk_by (by kernel_rfl)) (fun _ _ _ _ _ => tg_name sc_leads_of.nd rfl (by first | exact Or.inl rfl | exact Or.inr rfl) (show 2 ∉ ([] : List Nat) by decide)) (fun _ _ _ _ _ => me_var (pv 2)) (fun _ _ _ _ _ => me_cal c_next_state rfl rfl hr takes_no rfl (ma_v (me_var (pv 1)) (ma_v (me_var (pv 2)) (ma_nil))))))))), hm, F1.kp, hb⟩
theorem sc_counts_behind : FnScope ["leads", "counts", "found", "state"] ["leads", "counts"] (defScope (top 58)) := ⟨rfl, rfl, rfl, by decide +kernel, rfl, by decide +kernel, by decide +kernel⟩
theorem ok_counts_behind (B : Bs P w K mg) {f : Addr} {fd : FuncData} (F1 : Fun K "counts_behind" "counts_behind" (top 58) f fd) (hm : mg "counts_behind" = some (.ref f)) (hb : Binds K fd ["leads", "counts"] []) : Cal P w K mg base T "counts_behind" (0 + 1) 2 f_counts_behind :=
  ⟨f, fd, ["leads", "counts"], fn_ok F1 sc_counts_behind rfl (fun cdv A outer s H E W hr tk po =>
  ss_cons (st_own sc_counts_behind.nd rfl (by first | exact Or.inl rfl | exact Or.inr rfl) (fe_dict0) (show 2 ∉ ([] : List Nat) by decide))
  (ss_cons (st_forDk po rfl rfl (pv 1) (tg_name sc_counts_behind.nd rfl (by first | exact Or.inl rfl | exact Or.inr rfl) (show 3 ∉ ([] : List Nat) by decide)) (ss_one (st_asg (me_op op_addA p_add (me_get2 (pe_getA2 (room1 hr) (pv 2) (me_at (room1 hr) rfl (pv 0) (pv 3)) (me_int) ⟨rfl, rfl, rfl, rfl⟩)) (me_at (room1 hr) rfl (pv 1) (pv 3))) (tg_put (pg_sub (pv 2) (me_at (room1 hr) rfl (pv 0) (pv 3)) (set_any (room1 hr)))))))
  (ss_one (st_ret (me_var (pv 2)))))), hm, F1.kp, hb⟩
theorem sc_need_few_states : FnScope ["many"] ["many"] (defScope (top 59)) := ⟨rfl, rfl, rfl, by decide +kernel, rfl, by decide +kernel, by decide +kernel⟩
theorem ok_need_few_states (B : Bs P w K mg) {f : Addr} {fd : FuncData} (F1 : Fun K "need_few_states" "need_few_states" (top 59) f fd) (hm : mg "need_few_states" = some (.ref f)) (hb : Binds K fd ["many"] []) : Cal P w K mg base T "need_few_states" (2 + 1) 1 f_need_few_states :=
  ⟨f, fd, ["many"], fn_ok F1 sc_need_few_states rfl (fun cdv A outer s H E W hr tk po =>
  ss_one (st_if (mt_cmp op_gt p_gt (pv 0) (me_gint rfl B.g_MOST_STATES) (nomark _)) (ss_one (st_raiseF (k := 0) rfl tk (B.r_TooMany _) rfl rfl (hr.mono (by decide)) rfl (me_gint rfl B.g_MOST_STATES))) (ss_nil))), hm, F1.kp, hb⟩
theorem sc_eldest : FnScope ["web", "state", "leads", "ticks", "counts", "one"] ["web", "state"] (defScope (top 60)) := ⟨rfl, rfl, rfl, by decide +kernel, rfl, by decide +kernel, by decide +kernel⟩
theorem ok_eldest (B : Bs P w K mg) (c_near_lists : Cal P w K mg base T "near_lists" 1 1 f_near_lists) (c_need_both : Cal P w K mg base T "need_both" 4 2 f_need_both) (c_row_round : Cal P w K mg base T "row_round" 4 2 f_row_round) (c_leads_of : Cal P w K mg base T "leads_of" 4 1 f_leads_of) (c_counts_behind : Cal P w K mg base T "counts_behind" 1 2 f_counts_behind) (c_need_few_states : Cal P w K mg base T "need_few_states" 3 1 f_need_few_states) {f : Addr} {fd : FuncData} (F1 : Fun K "eldest" "eldest" (top 60) f fd) (hm : mg "eldest" = some (.ref f)) (hb : Binds K fd ["web", "state"] []) : Cal P w K mg base T "eldest" (4 + 1) 2 f_eldest :=
  ⟨f, fd, ["web", "state"], fn_ok F1 sc_eldest rfl (fun cdv A outer s H E W hr tk po =>
  ss_cons (st_expr (me_cal c_need_both rfl rfl hr tk rfl (ma_v (me_var (pv 0)) (ma_v (me_var (pv 1)) (ma_nil)))))
  (ss_cons (st_if (mt_cmp (op_eqD (room64 hr)) p_eq (me_at (room1 hr) rfl (me_cal c_row_round rfl rfl hr tk rfl (ma_v (me_cal c_near_lists rfl rfl hr tk rfl (ma_v (me_var (pv 0)) (ma_nil))) (ma_v (me_var (pv 1)) (ma_nil)))) (me_int)) (me_int) (nomark _)) (ss_one (st_ret (me_str))) (ss_nil))
  (ss_cons (st_par2 rfl sc_eldest.nd rfl rfl (by decide) rfl rfl (mp_v (me_cal c_leads_of rfl rfl hr tk rfl (ma_v (me_var (pv 0)) (ma_nil))) (mp_v (me_int) (mp_nil))) (show ∀ v ∈ ([2, 3] : List Nat), v ∉ ([] : List Nat) by decide) rfl rfl)
  (ss_cons (st_set sc_eldest.nd rfl (by first | exact Or.inl rfl | exact Or.inr rfl) (me_cal c_counts_behind rfl rfl hr tk rfl (ma_v (me_var (pv 2)) (ma_v (me_of (fe_dcK (own := [("one", 5)]) (room0 hr) rfl sc_eldest.nd rfl (show ∀ v ∈ ([5] : List Nat), v ∉ ([] : List Nat) by decide) (by decide) (pv 2) (blkOk_by (by kernel_rfl)) (fun _ _ _ _ _ => tg_name sc_eldest.nd rfl (by first | exact Or.inl rfl | exact Or.inr rfl) (show 5 ∉ ([] : List Nat) by decide)) (fun _ _ _ _ _ => me_var (pv 5)) (fun _ _ _ _ _ => me_int))) (ma_nil)))) (show 4 ∉ ([] : List Nat) by decide))
  (ss_cons (st_while 1000000 po (mt_cmp (op_inAny (room65 hr)) (p_inAny (f := id)) (pv 1) (pv 4) (by with_unfolding_all rfl)) (ss_cons (st_expr (me_cal c_need_few_states rfl rfl hr tk rfl (ma_v (me_at (room1 hr) rfl (pv 4) (pv 1)) (ma_nil))))
  (ss_one (st_par2 rfl sc_eldest.nd rfl rfl (by decide) rfl rfl (mp_v (me_cal c_counts_behind rfl rfl hr tk rfl (ma_v (me_var (pv 2)) (ma_v (me_var (pv 4)) (ma_nil)))) (mp_v (me_op op_addA p_add (pv 3) (me_int)) (mp_nil))) (show ∀ v ∈ ([4, 3] : List Nat), v ∉ ([] : List Nat) by decide) rfl rfl))))
  (ss_one (st_ret (me_var (pv 3))))))))), hm, F1.kp, hb⟩
theorem sc_kin : FnScope ["web", "state", "many", "leads", "counts", "one", "turn"] ["web", "state", "many"] (defScope (top 61)) := ⟨rfl, rfl, rfl, by decide +kernel, rfl, by decide +kernel, by decide +kernel⟩
theorem ok_kin (B : Bs P w K mg) (c_need_number : Cal P w K mg base T "need_number" 2 3 f_need_number) (c_need_both : Cal P w K mg base T "need_both" 4 2 f_need_both) (c_leads_of : Cal P w K mg base T "leads_of" 4 1 f_leads_of) (c_counts_behind : Cal P w K mg base T "counts_behind" 1 2 f_counts_behind) (c_need_few_states : Cal P w K mg base T "need_few_states" 3 1 f_need_few_states) {f : Addr} {fd : FuncData} (F1 : Fun K "kin" "kin" (top 61) f fd) (hm : mg "kin" = some (.ref f)) (hb : Binds K fd ["web", "state", "many"] []) : Cal P w K mg base T "kin" (4 + 1) 3 f_kin :=
  ⟨f, fd, ["web", "state", "many"], fn_ok F1 sc_kin rfl (fun cdv A outer s H E W hr tk po =>
  ss_cons (st_expr (me_cal c_need_both rfl rfl hr tk rfl (ma_v (me_var (pv 0)) (ma_v (me_var (pv 1)) (ma_nil)))))
  (ss_cons (st_expr (me_cal c_need_number rfl rfl hr tk rfl (ma_v (me_var (pv 2)) (ma_v (me_int) (ma_v (me_gint rfl B.g_MOST_BACK) (ma_nil))))))
  (ss_cons (st_if (mt_cmp (op_eqD (room64 hr)) p_eq (pv 2) (me_int) (nomark _)) (ss_one (st_ret (me_int))) (ss_nil))
  (ss_cons (st_set sc_kin.nd rfl (by first | exact Or.inl rfl | exact Or.inr rfl) (me_cal c_leads_of rfl rfl hr tk rfl (ma_v (me_var (pv 0)) (ma_nil))) (show 3 ∉ ([] : List Nat) by decide))
  (ss_cons (st_ownDcK (own := [("one", 5)]) (room0 hr) rfl sc_kin.nd rfl rfl rfl (show ∀ v ∈ ([5] : List Nat), v ∉ ([] : List Nat) by decide) (by decide) rfl (pv 3) (blkOk_by (by kernel_rfl)) (fun _ _ _ _ _ => tg_name sc_kin.nd rfl (by first | exact Or.inl rfl | exact Or.inr rfl) (show 5 ∉ ([] : List Nat) by decide)) (fun _ _ _ _ _ => me_var (pv 5)) (fun _ _ _ _ _ => me_int))
  (ss_cons (st_for po rfl rfl (mi_rng1 rfl B.b_range (mo_cons (pv 2) (mo_nil))) (tg_name sc_kin.nd rfl (by first | exact Or.inl rfl | exact Or.inr rfl) (show 6 ∉ ([] : List Nat) by decide)) (ss_cons (st_set sc_kin.nd rfl (by first | exact Or.inl rfl | exact Or.inr rfl) (me_cal c_counts_behind rfl rfl hr tk rfl (ma_v (me_var (pv 3)) (ma_v (me_var (pv 4)) (ma_nil)))) (show 4 ∉ ([] : List Nat) by decide))
  (ss_one (st_expr (me_cal c_need_few_states rfl rfl hr tk rfl (ma_v (me_get2 (pe_getA2 (room1 hr) (pv 4) (me_var (pv 1)) (me_int) ⟨rfl, rfl, rfl, rfl⟩)) (ma_nil)))))))
  (ss_one (st_ret (me_get2 (pe_getA2 (room1 hr) (pv 4) (me_var (pv 1)) (me_int) ⟨rfl, rfl, rfl, rfl⟩)))))))))), hm, F1.kp, hb⟩
theorem sc_need_told : FnScope ["web", "one", "told", "sign"] ["web", "one", "told"] (defScope (top 65)) := ⟨rfl, rfl, rfl, by decide +kernel, rfl, by decide +kernel, by decide +kernel⟩
theorem ok_need_told (B : Bs P w K mg) (c_need_web : Cal P w K mg base T "need_web" 3 1 f_need_web) (c_need_one : Cal P w K mg base T "need_one" 2 2 f_need_one) (c_need_few : Cal P w K mg base T "need_few" 3 1 f_need_few) {f : Addr} {fd : FuncData} (F1 : Fun K "need_told" "need_told" (top 65) f fd) (hm : mg "need_told" = some (.ref f)) (hb : Binds K fd ["web", "one", "told"] []) : Cal P w K mg base T "need_told" (3 + 1) 3 f_need_told :=
  ⟨f, fd, ["web", "one", "told"], fn_ok F1 sc_need_told rfl (fun cdv A outer s H E W hr tk po =>
  ss_cons (st_expr (me_cal c_need_web rfl rfl hr tk rfl (ma_v (me_var (pv 0)) (ma_nil))))
  (ss_cons (st_expr (me_cal c_need_one rfl rfl hr tk rfl (ma_v (me_var (pv 0)) (ma_v (me_var (pv 1)) (ma_nil)))))
  (ss_cons (st_if (mt_bool (mw_or (mt_not (mt_val (me_isi rfl rfl B.b_isinstance rfl B.b_str boot_str (pv 2)))) (mw_or (mt_not (mt_chain op_le op_le p_le p_le (me_int) (me_fnB call_lenA p_len rfl B.b_len PySem.boot_len (mo_cons (pv 2) (mo_nil))) (me_gint rfl B.g_MOST_TOLD))) (mw_or1 (mt_not (mt_val (me_fnB (cr_all rfl) p_all rfl B.b_all boot_all (mo_cons (me_of (fe_lc (own := [("sign", 3)]) rfl sc_need_told.nd (show ∀ v ∈ ([3] : List Nat), v ∉ ([] : List Nat) by decide) (by decide) (mi_seqS rfl (me_var (pv 2))) (blkOk_by (by kernel_rfl)) (fun _ _ _ _ _ => tg_name sc_need_told.nd rfl (by first | exact Or.inl rfl | exact Or.inr rfl) (show 3 ∉ ([] : List Nat) by decide)) (fun _ _ _ _ _ => mts_nil) (fun _ _ _ _ _ => me_cmp (op_inAny (room65 hr)) (p_inAny (f := id)) (pv 3) (me_gstr rfl B.g_SIGNS) (by with_unfolding_all rfl)))) (mo_nil))))))))) (ss_one (st_raiseE rfl tk B.e_NotText rfl rfl)) (ss_nil))
  (ss_one (st_expr (me_cal c_need_few rfl rfl hr tk rfl (ma_v (me_var (pv 0)) (ma_nil)))))))), hm, F1.kp, hb⟩
theorem sc_is_told : FnScope ["near", "state", "one", "told", "at"] ["near", "state", "one", "told"] (defScope (top 66)) := ⟨rfl, rfl, rfl, by decide +kernel, rfl, by decide +kernel, by decide +kernel⟩
theorem ok_is_told (B : Bs P w K mg) (c_next_state : Cal P w K mg base T "next_state" 3 2 f_next_state) {f : Addr} {fd : FuncData} (F1 : Fun K "is_told" "is_told" (top 66) f fd) (hm : mg "is_told" = some (.ref f)) (hb : Binds K fd ["near", "state", "one", "told"] []) : Cal P w K mg base T "is_told" (3 + 1) 4 f_is_told :=
  ⟨f, fd, ["near", "state", "one", "told"], fn_ok F1 sc_is_told rfl (fun cdv A outer s H E W hr tk po =>
  ss_cons (st_for po rfl rfl (mi_rng1 rfl B.b_range (mo_cons (me_fnB call_lenA p_len rfl B.b_len PySem.boot_len (mo_cons (pv 3) (mo_nil))) (mo_nil))) (tg_name sc_is_told.nd rfl (by first | exact Or.inl rfl | exact Or.inr rfl) (show 4 ∉ ([] : List Nat) by decide)) (ss_cons (st_if (mt_cmp (op_neD (room64 hr)) p_ne (me_fnT call_str_int p_strI rfl B.b_str boot_str (mo_cons (me_at (room1 hr) rfl (pv 1) (pv 2)) (mo_nil))) (me_at (room1 hr) rfl (pv 3) (pv 4)) (nomark _)) (ss_one (st_ret (me_bl))) (ss_nil))
  (ss_one (st_set sc_is_told.nd rfl (by first | exact Or.inl rfl | exact Or.inr rfl) (me_cal c_next_state rfl rfl hr tk rfl (ma_v (me_var (pv 0)) (ma_v (me_var (pv 1)) (ma_nil)))) (show 1 ∉ ([] : List Nat) by decide)))))
  (ss_one (st_ret (me_bl)))), hm, F1.kp, hb⟩
theorem sc_fits_in : FnScope ["web", "one", "told", "near", "state"] ["web", "one", "told"] (defScope (top 67)) := ⟨rfl, rfl, rfl, by decide +kernel, rfl, by decide +kernel, by decide +kernel⟩
theorem ok_fits_in (B : Bs P w K mg) (c_near_lists : Cal P w K mg base T "near_lists" 1 1 f_near_lists) (c_all_states : Cal P w K mg base T "all_states" 1 1 f_all_states) (c_is_told : Cal P w K mg base T "is_told" 4 4 f_is_told) {f : Addr} {fd : FuncData} (F1 : Fun K "fits_in" "fits_in" (top 67) f fd) (hm : mg "fits_in" = some (.ref f)) (hb : Binds K fd ["web", "one", "told"] []) : Cal P w K mg base T "fits_in" (4 + 1) 3 f_fits_in :=
  ⟨f, fd, ["web", "one", "told"], fn_ok F1 sc_fits_in rfl (fun cdv A outer s H E W hr tk po =>
  ss_cons (st_set sc_fits_in.nd rfl (by first | exact Or.inl rfl | exact Or.inr rfl) (me_cal c_near_lists rfl rfl hr tk rfl (ma_v (me_var (pv 0)) (ma_nil))) (show 3 ∉ ([] : List Nat) by decide))
  (ss_one (st_ret (me_of (fe_lc (own := [("state", 4)]) rfl sc_fits_in.nd (show ∀ v ∈ ([4] : List Nat), v ∉ ([] : List Nat) by decide) (by decide) (mi_seq rfl (me_cal c_all_states rfl rfl hr tk rfl (ma_v (me_at (room1 hr) rfl (pv 0) (me_int)) (ma_nil)))) (blkOk_by (by kernel_rfl)) (fun _ _ _ _ _ => tg_name sc_fits_in.nd rfl (by first | exact Or.inl rfl | exact Or.inr rfl) (show 4 ∉ ([] : List Nat) by decide)) (fun _ _ _ _ _ => mts_one (mt_val (me_cal c_is_told rfl rfl hr takes_no rfl (ma_v (me_var (pv 3)) (ma_v (me_var (pv 4)) (ma_v (me_var (pv 1)) (ma_v (me_var (pv 2)) (ma_nil)))))))) (fun _ _ _ _ _ => me_var (pv 4))))))), hm, F1.kp, hb⟩
theorem sc_fits : FnScope ["web", "one", "told"] ["web", "one", "told"] (defScope (top 68)) := ⟨rfl, rfl, rfl, by decide +kernel, rfl, by decide +kernel, by decide +kernel⟩
theorem ok_fits (B : Bs P w K mg) (c_need_told : Cal P w K mg base T "need_told" 4 3 f_need_told) (c_fits_in : Cal P w K mg base T "fits_in" 5 3 f_fits_in) {f : Addr} {fd : FuncData} (F1 : Fun K "fits" "fits" (top 68) f fd) (hm : mg "fits" = some (.ref f)) (hb : Binds K fd ["web", "one", "told"] []) : Cal P w K mg base T "fits" (5 + 1) 3 f_fits :=
  ⟨f, fd, ["web", "one", "told"], fn_ok F1 sc_fits rfl (fun cdv A outer s H E W hr tk po =>
  ss_cons (st_expr (me_cal c_need_told rfl rfl hr tk rfl (ma_v (me_var (pv 0)) (ma_v (me_var (pv 1)) (ma_v (me_var (pv 2)) (ma_nil))))))
  (ss_one (st_ret (me_fnT call_tuple_of p_tuple rfl B.b_tuple boot_tuple (mo_cons (me_cal c_fits_in rfl rfl hr tk rfl (ma_v (me_var (pv 0)) (ma_v (me_var (pv 1)) (ma_v (me_var (pv 2)) (ma_nil))))) (mo_nil)))))), hm, F1.kp, hb⟩
theorem sc_sure : FnScope ["web", "one", "told", "some", "state", "k"] ["web", "one", "told"] (defScope (top 69)) := ⟨rfl, rfl, rfl, by decide +kernel, rfl, by decide +kernel, by decide +kernel⟩
theorem ok_sure (B : Bs P w K mg) (c_need_told : Cal P w K mg base T "need_told" 4 3 f_need_told) (c_fits_in : Cal P w K mg base T "fits_in" 5 3 f_fits_in) {f : Addr} {fd : FuncData} (F1 : Fun K "sure" "sure" (top 69) f fd) (hm : mg "sure" = some (.ref f)) (hb : Binds K fd ["web", "one", "told"] []) : Cal P w K mg base T "sure" (5 + 1) 3 f_sure :=
  ⟨f, fd, ["web", "one", "told"], fn_ok F1 sc_sure rfl (fun cdv A outer s H E W hr tk po =>
  ss_cons (st_expr (me_cal c_need_told rfl rfl hr tk rfl (ma_v (me_var (pv 0)) (ma_v (me_var (pv 1)) (ma_v (me_var (pv 2)) (ma_nil))))))
  (ss_cons (st_set sc_sure.nd rfl (by first | exact Or.inl rfl | exact Or.inr rfl) (me_cal c_fits_in rfl rfl hr tk rfl (ma_v (me_var (pv 0)) (ma_v (me_var (pv 1)) (ma_v (me_var (pv 2)) (ma_nil))))) (show 3 ∉ ([] : List Nat) by decide))
  (ss_cons (st_if (mt_cmp (op_eqD (room64 hr)) p_eq (pv 3) (me_of (fe_lst (ms_nil))) (nomark _)) (ss_one (st_ret (me_non))) (ss_nil))
  (ss_one (st_ret (me_fnT call_tuple_of p_tuple rfl B.b_tuple boot_tuple (mo_cons (me_of (fe_lc (own := [("k", 5)]) rfl sc_sure.nd (show ∀ v ∈ ([5] : List Nat), v ∉ ([] : List Nat) by decide) (by decide) (mi_rng1 rfl B.b_range (mo_cons (me_at (room1 hr) rfl (pv 0) (me_int)) (mo_nil))) (blkOk_by (by kernel_rfl)) (fun _ _ _ _ _ => tg_name sc_sure.nd rfl (by first | exact Or.inl rfl | exact Or.inr rfl) (show 5 ∉ ([] : List Nat) by decide)) (fun _ _ _ _ _ => mts_nil) (fun _ _ _ _ _ => me_if (mt_val (me_fnB (cr_all rfl) p_all rfl B.b_all boot_all (mo_cons (me_of (fe_lc (own := [("state", 4)]) rfl sc_sure.nd (show ∀ v ∈ ([4] : List Nat), v ∉ ([] : List Nat) by decide) (by decide) (mi_seq rfl (me_var (pv 3))) (blkOk_by (by kernel_rfl)) (fun _ _ _ _ _ => tg_name sc_sure.nd rfl (by first | exact Or.inl rfl | exact Or.inr rfl) (show 4 ∉ ([] : List Nat) by decide)) (fun _ _ _ _ _ => mts_nil) (fun _ _ _ _ _ => me_cmp (op_eqD (room64 hr)) p_eq (me_at (room1 hr) rfl (pv 4) (pv 5)) (me_at (room1 hr) rfl (me_at (room1 hr) rfl (pv 3) (me_int)) (pv 5)) (nomark _)))) (mo_nil)))) (me_at (room1 hr) rfl (me_at (room1 hr) rfl (pv 3) (me_int)) (pv 5)) (me_non)))) (mo_nil)))))))), hm, F1.kp, hb⟩
theorem sc_story_in : FnScope ["near", "state", "one", "last", "here"] ["near", "state", "one", "last"] (defScope (top 72)) := ⟨rfl, rfl, rfl, by decide +kernel, rfl, by decide +kernel, by decide +kernel⟩
theorem ok_story_in (B : Bs P w K mg) (c_states_from : Cal P w K mg base T "states_from" 4 3 f_states_from) {f : Addr} {fd : FuncData} (F1 : Fun K "story_in" "story_in" (top 72) f fd) (hm : mg "story_in" = some (.ref f)) (hb : Binds K fd ["near", "state", "one", "last"] []) : Cal P w K mg base T "story_in" (4 + 1) 4 f_story_in :=
  ⟨f, fd, ["near", "state", "one", "last"], fn_ok F1 sc_story_in rfl (fun cdv A outer s H E W hr tk po =>
  ss_one (st_ret (me_join (pe_bm F.plainAttrs_str F.slot_str_join F.type_str_join mt_join pe_str (ms_cons (me_of (fe_lc (own := [("here", 4)]) rfl sc_story_in.nd (show ∀ v ∈ ([4] : List Nat), v ∉ ([] : List Nat) by decide) (by decide) (mi_seq rfl (me_cal c_states_from rfl rfl hr tk rfl (ma_v (me_var (pv 0)) (ma_v (me_var (pv 1)) (ma_v (me_var (pv 3)) (ma_nil)))))) (blkOk_by (by kernel_rfl)) (fun _ _ _ _ _ => tg_name sc_story_in.nd rfl (by first | exact Or.inl rfl | exact Or.inr rfl) (show 4 ∉ ([] : List Nat) by decide)) (fun _ _ _ _ _ => mts_nil) (fun _ _ _ _ _ => me_fnT call_str_int p_strI rfl B.b_str boot_str (mo_cons (me_at (room1 hr) rfl (pv 4) (pv 2)) (mo_nil))))) ms_nil))))), hm, F1.kp, hb⟩
theorem sc_story : FnScope ["web", "state", "one", "last"] ["web", "state", "one", "last"] (defScope (top 73)) := ⟨rfl, rfl, rfl, by decide +kernel, rfl, by decide +kernel, by decide +kernel⟩
theorem ok_story (B : Bs P w K mg) (c_need_one : Cal P w K mg base T "need_one" 2 2 f_need_one) (c_near_lists : Cal P w K mg base T "near_lists" 1 1 f_near_lists) (c_need_number : Cal P w K mg base T "need_number" 2 3 f_need_number) (c_need_both : Cal P w K mg base T "need_both" 4 2 f_need_both) (c_story_in : Cal P w K mg base T "story_in" 5 4 f_story_in) {f : Addr} {fd : FuncData} (F1 : Fun K "story" "story" (top 73) f fd) (hm : mg "story" = some (.ref f)) (hb : Binds K fd ["web", "state", "one", "last"] []) : Cal P w K mg base T "story" (5 + 1) 4 f_story :=
  ⟨f, fd, ["web", "state", "one", "last"], fn_ok F1 sc_story rfl (fun cdv A outer s H E W hr tk po =>
  ss_cons (st_expr (me_cal c_need_both rfl rfl hr tk rfl (ma_v (me_var (pv 0)) (ma_v (me_var (pv 1)) (ma_nil)))))
  (ss_cons (st_expr (me_cal c_need_one rfl rfl hr tk rfl (ma_v (me_var (pv 0)) (ma_v (me_var (pv 2)) (ma_nil)))))
  (ss_cons (st_expr (me_cal c_need_number rfl rfl hr tk rfl (ma_v (me_var (pv 3)) (ma_v (me_int) (ma_v (me_gint rfl B.g_MOST_STORY) (ma_nil))))))
  (ss_one (st_ret (me_cal c_story_in rfl rfl hr tk rfl (ma_v (me_cal c_near_lists rfl rfl hr tk rfl (ma_v (me_var (pv 0)) (ma_nil))) (ma_v (me_var (pv 1)) (ma_v (me_var (pv 2)) (ma_v (me_var (pv 3)) (ma_nil))))))))))), hm, F1.kp, hb⟩
theorem sc__law_taken : FnScope ["_law_row", "_law_many", "_law_found", "_law_cell"] ["_law_row", "_law_many"] (defScope (top 75)) := ⟨rfl, rfl, rfl, by decide +kernel, rfl, by decide +kernel, by decide +kernel⟩
theorem ok__law_taken (B : Bs P w K mg) {f : Addr} {fd : FuncData} (F1 : Fun K "_law_taken" "_law_taken" (top 75) f fd) (hm : mg "_law_taken" = some (.ref f)) (hb : Binds K fd ["_law_row", "_law_many"] []) : Cal P w K mg base T "_law_taken" (0 + 1) 2 f__law_taken :=
  ⟨f, fd, ["_law_row", "_law_many"], fn_ok F1 sc__law_taken rfl (fun cdv A outer s H E W hr tk po =>
  ss_cons (st_if (mt_cmp op_gt p_gt (me_at (room1 hr) rfl (pv 0) (me_int)) (me_int) (nomark _)) (ss_cons (st_set sc__law_taken.nd rfl (by first | exact Or.inl rfl | exact Or.inr rfl) (me_op op_mod p_mod (me_fnT call_int1 p_int rfl B.b_int boot_int (mo_cons (me_at (room1 hr) rfl (pv 0) (me_int)) (mo_nil))) (pv 1)) (show 2 ∉ ([0] : List Nat) by decide))
  (ss_cons (st_asg (me_op op_fdivW p_fdiv (me_at (room1 hr) rfl (pv 0) (me_int)) (pv 1)) (tg_put (pg_sub (pv 0) (me_int) (set_any (room1 hr)))))
  (ss_one (st_ret (me_var (pv 2)))))) (ss_nil))
  (ss_cons (st_asg (me_op op_addA p_add (me_at (room1 hr) rfl (pv 0) (me_int)) (me_int)) (tg_put (pg_sub (pv 0) (me_int) (set_any (room1 hr)))))
  (ss_cons (st_if (mt_cmp op_gt p_gt (me_at (room1 hr) rfl (pv 0) (me_int)) (me_fnB call_lenA p_len rfl B.b_len PySem.boot_len (mo_cons (me_at (room1 hr) rfl (pv 0) (me_int)) (mo_nil))) (nomark _)) (ss_cons (st_asg (me_op op_mod p_mod (me_fnT call_int1 p_int rfl B.b_int boot_int (mo_cons (me_op op_addA p_add (me_op op_mulA p_mul (me_at (room1 hr) rfl (pv 0) (me_int)) (me_int)) (me_int)) (mo_nil))) (me_int)) (tg_put (pg_sub (pv 0) (me_int) (set_any (room1 hr)))))
  (ss_one (st_ret (me_op op_mod p_mod (me_fnT call_int1 p_int rfl B.b_int boot_int (mo_cons (me_op op_fdivW p_fdiv (me_at (room1 hr) rfl (pv 0) (me_int)) (me_int)) (mo_nil))) (pv 1))))) (ss_nil))
  (ss_cons (st_set sc__law_taken.nd rfl (by first | exact Or.inl rfl | exact Or.inr rfl) (me_at (room1 hr) rfl (me_at (room1 hr) rfl (pv 0) (me_int)) (me_op op_sub p_sub (me_at (room1 hr) rfl (pv 0) (me_int)) (me_int))) (show 3 ∉ ([0] : List Nat) by decide))
  (ss_cons (st_asg (me_op op_mod p_mod (me_fnT call_int1 p_int rfl B.b_int boot_int (mo_cons (me_op op_addA p_add (me_op op_addA p_add (me_op op_mulA p_mul (me_at (room1 hr) rfl (pv 0) (me_int)) (me_int)) (pv 3)) (me_int)) (mo_nil))) (me_int)) (tg_put (pg_sub (pv 0) (me_int) (set_any (room1 hr)))))
  (ss_cons (st_if (mt_cmp (op_ge.or (op_geT (room0 hr))) p_ge (pv 3) (me_op op_pow p_pow (me_int) (me_int)) (nomark _)) (ss_one (st_asg (me_op op_fdivW p_fdiv (pv 3) (pv 1)) (tg_put (pg_sub (pv 0) (me_int) (set_any (room1 hr)))))) (ss_nil))
  (ss_one (st_ret (me_op op_mod p_mod (me_fnT call_int1 p_int rfl B.b_int boot_int (mo_cons (pv 3) (mo_nil))) (pv 1)))))))))), hm, F1.kp, hb⟩
theorem sc__law_web : FnScope ["_law_row", "_law_most", "_law_folk", "_law_way", "_law_found", "_law_one", "_law_turn", "_law_other"] ["_law_row", "_law_most"] (defScope (top 76)) := ⟨rfl, rfl, rfl, by decide +kernel, rfl, by decide +kernel, by decide +kernel⟩
theorem ok__law_web (B : Bs P w K mg) (c__law_taken : Cal P w K mg base T "_law_taken" 1 2 f__law_taken) {f : Addr} {fd : FuncData} (F1 : Fun K "_law_web" "_law_web" (top 76) f fd) (hm : mg "_law_web" = some (.ref f)) (hb : Binds K fd ["_law_row", "_law_most"] []) : Cal P w K mg base T "_law_web" (1 + 1) 2 f__law_web :=
  ⟨f, fd, ["_law_row", "_law_most"], fn_ok F1 sc__law_web rfl (fun cdv A outer s H E W hr tk po =>
  ss_cons (st_par3 rfl sc__law_web.nd rfl rfl rfl (by decide) (by decide) (by decide) rfl rfl rfl (mp_v (me_op op_addA p_add (me_int) (me_cal c__law_taken rfl rfl hr tk rfl (ma_io (pv 0) (ma_v (me_var (pv 1)) (ma_nil))))) (mp_v (me_cal c__law_taken rfl rfl hr tk rfl (ma_io (pv 0) (ma_v (me_int) (ma_nil)))) (mp_f (fe_dict0) (mp_nil)))) (show ∀ v ∈ ([2, 3, 4] : List Nat), v ∉ ([0] : List Nat) by decide) rfl rfl)
  (ss_cons (st_for po rfl rfl (mi_rng2 rfl B.b_range (mo_cons (me_int) (mo_cons (pv 2) (mo_nil)))) (tg_name sc__law_web.nd rfl (by first | exact Or.inl rfl | exact Or.inr rfl) (show 5 ∉ ([0] : List Nat) by decide)) (ss_one (st_if (mt_bool (mw_or (mt_cmp op_gt p_gt (pv 3) (me_int) (nomark _)) (mw_or1 (mt_cmp op_gt p_gt (me_cal c__law_taken rfl rfl hr tk rfl (ma_io (pv 0) (ma_v (me_int) (ma_nil)))) (me_int) (nomark _))))) (ss_one (st_asg (me_bl) (tg_put (pg_sub (pv 4) (me_tup (ms_cons (me_if (mt_cmp op_lt p_lt (pv 3) (me_int) (nomark _)) (me_op op_sub p_sub (pv 5) (me_int)) (me_cal c__law_taken rfl rfl hr tk rfl (ma_io (pv 0) (ma_v (me_var (pv 5)) (ma_nil))))) (ms_cons (me_var (pv 5)) (ms_nil)))) (set_any (room1 hr)))))) (ss_nil))))
  (ss_cons (st_if (mt_bool (mw_and (mt_cmp (op_inAny (room65 hr)) (p_inAny (f := id)) (pv 3) (me_of (fe_lst (ms_cons (me_int) (ms_cons (me_int) (ms_nil))))) (by with_unfolding_all rfl)) (mw_and1 (mt_cmp op_gt p_gt (pv 2) (me_int) (nomark _))))) (ss_one (st_asg (me_bl) (tg_put (pg_sub (pv 4) (me_tup (ms_cons (me_int) (ms_cons (me_op op_sub p_sub (pv 2) (me_int)) (ms_nil)))) (set_any (room1 hr)))))) (ss_nil))
  (ss_cons (st_for po rfl rfl (mi_rng1 rfl B.b_range (mo_cons (me_if (mt_cmp (op_neD (room64 hr)) p_ne (pv 3) (me_int) (nomark _)) (me_cal c__law_taken rfl rfl hr tk rfl (ma_io (pv 0) (ma_v (me_var (pv 2)) (ma_nil)))) (me_int)) (mo_nil))) (tg_name sc__law_web.nd rfl (by first | exact Or.inl rfl | exact Or.inr rfl) (show 6 ∉ ([0] : List Nat) by decide)) (ss_cons (st_par2 rfl sc__law_web.nd rfl rfl (by decide) rfl rfl (mp_v (me_cal c__law_taken rfl rfl hr tk rfl (ma_io (pv 0) (ma_v (me_var (pv 2)) (ma_nil)))) (mp_v (me_cal c__law_taken rfl rfl hr tk rfl (ma_io (pv 0) (ma_v (me_var (pv 2)) (ma_nil)))) (mp_nil))) (show ∀ v ∈ ([5, 7] : List Nat), v ∉ ([0] : List Nat) by decide) rfl rfl)
  (ss_one (st_if (mt_cmp (op_neD (room64 hr)) p_ne (pv 5) (pv 7) (nomark _)) (ss_one (st_asg (me_bl) (tg_put (pg_sub (pv 4) (me_tup (ms_cons (me_fnB (call_min2 rfl) p_min2 rfl B.b_min boot_min (mo_cons (pv 5) (mo_cons (pv 7) (mo_nil)))) (ms_cons (me_fnB (call_max2 rfl) p_max2 rfl B.b_max boot_max (mo_cons (pv 5) (mo_cons (pv 7) (mo_nil)))) (ms_nil)))) (set_any (room1 hr)))))) (ss_nil)))))
  (ss_one (st_ret (me_tup (ms_cons (me_var (pv 2)) (ms_cons (me_fnT call_tuple_of p_tuple rfl B.b_tuple boot_tuple (mo_cons (me_of (fe_sort rfl rfl B.b_sorted (mo_cons (me_of (fe_keys rfl rfl rfl B.b_list (mo_cons (pv 4) (mo_nil)))) (mo_nil)))) (mo_nil))) (ms_nil)))))))))), hm, F1.kp, hb⟩
theorem sc__law_state : FnScope ["_law_row", "_law_web_here", "_law_way", "_law_found", "_law_one", "_law_drawn"] ["_law_row", "_law_web_here"] (defScope (top 77)) := ⟨rfl, rfl, rfl, by decide +kernel, rfl, by decide +kernel, by decide +kernel⟩
theorem ok__law_state (B : Bs P w K mg) (c__law_taken : Cal P w K mg base T "_law_taken" 1 2 f__law_taken) {f : Addr} {fd : FuncData} (F1 : Fun K "_law_state" "_law_state" (top 77) f fd) (hm : mg "_law_state" = some (.ref f)) (hb : Binds K fd ["_law_row", "_law_web_here"] []) : Cal P w K mg base T "_law_state" (1 + 1) 2 f__law_state :=
  ⟨f, fd, ["_law_row", "_law_web_here"], fn_ok F1 sc__law_state rfl (fun cdv A outer s H E W hr tk po =>
  ss_cons (st_par2 rfl sc__law_state.nd rfl rfl (by decide) rfl rfl (mp_v (me_cal c__law_taken rfl rfl hr tk rfl (ma_io (pv 0) (ma_v (me_int) (ma_nil)))) (mp_f (fe_lst (ms_nil)) (mp_nil))) (show ∀ v ∈ ([2, 3] : List Nat), v ∉ ([0] : List Nat) by decide) rfl rfl)
  (ss_cons (st_for po rfl rfl (mi_rng1 rfl B.b_range (mo_cons (me_at (room1 hr) rfl (pv 1) (me_int)) (mo_nil))) (tg_name sc__law_state.nd rfl (by first | exact Or.inl rfl | exact Or.inr rfl) (show 4 ∉ ([0] : List Nat) by decide)) (ss_cons (st_set sc__law_state.nd rfl (by first | exact Or.inl rfl | exact Or.inr rfl) (me_cal c__law_taken rfl rfl hr tk rfl (ma_io (pv 0) (ma_v (me_int) (ma_nil)))) (show 5 ∉ ([0] : List Nat) by decide))
  (ss_one (st_expr (me_app (pe_bm F.plainAttrs_list F.slot_list_append F.type_list_append mt_append (pv 3) (ms_cons (me_if (mt_cmp op_gt p_gt (pv 2) (me_int) (nomark _)) (me_var (pv 5)) (me_op op_mod p_mod (me_fnT call_int1 p_int rfl B.b_int boot_int (mo_cons (me_op op_addA p_add (pv 4) (me_fnT call_int1 p_int rfl B.b_int boot_int (mo_cons (me_cmp (op_eqD (room64 hr)) p_eq (pv 5) (me_int) (nomark _)) (mo_nil)))) (mo_nil))) (me_int))) ms_nil)))))))
  (ss_one (st_ret (me_fnT call_tuple_of p_tuple rfl B.b_tuple boot_tuple (mo_cons (pv 3) (mo_nil))))))), hm, F1.kp, hb⟩
theorem sc_law : FnScope ["_law_script", "_law_row", "_law_web_here", "_law_state_here", "_law_one", "_law_many", "_law_other", "_law_here", "_law_there", "_law_k", "_law_way", "_law_elder", "_law_back", "_law_told", "_law_known", "_law_spot", "_law_counts"] ["_law_script"] (defScope (top 78)) := ⟨rfl, rfl, rfl, by decide +kernel, rfl, by decide +kernel, by decide +kernel⟩
theorem ok_law (B : Bs P w K mg) (c_far : Cal P w K mg base T "far" 4 3 f_far) (c_stirred : Cal P w K mg base T "stirred" 5 2 f_stirred) (c_tick : Cal P w K mg base T "tick" 5 2 f_tick) (c_run : Cal P w K mg base T "run" 5 3 f_run) (c_changes : Cal P w K mg base T "changes" 5 3 f_changes) (c_state_at : Cal P w K mg base T "state_at" 5 3 f_state_at) (c_coming_round : Cal P w K mg base T "coming_round" 5 2 f_coming_round) (c_meet : Cal P w K mg base T "meet" 5 3 f_meet) (c_becomes : Cal P w K mg base T "becomes" 5 3 f_becomes) (c_ahead : Cal P w K mg base T "ahead" 5 2 f_ahead) (c_eldest : Cal P w K mg base T "eldest" 5 2 f_eldest) (c_kin : Cal P w K mg base T "kin" 5 3 f_kin) (c_fits : Cal P w K mg base T "fits" 6 3 f_fits) (c_sure : Cal P w K mg base T "sure" 6 3 f_sure) (c_story : Cal P w K mg base T "story" 6 4 f_story) (c__law_taken : Cal P w K mg base T "_law_taken" 1 2 f__law_taken) (c__law_web : Cal P w K mg base T "_law_web" 2 2 f__law_web) (c__law_state : Cal P w K mg base T "_law_state" 2 2 f__law_state) {f : Addr} {fd : FuncData} (F1 : Fun K "law" "law" (top 78) f fd) : FnOk P w K mg base (L2.CX P w) (8 + 1) f fd ["_law_script"] (spM K T mg 1 f_law) :=
  fn_ok F1 sc_law rfl (fun cdv A outer s H E W hr tk po =>
  ss_cons (st_own sc_law.nd rfl (by first | exact Or.inl rfl | exact Or.inr rfl) (fe_lst (ms_cons (me_var (pv 0)) (ms_cons (me_int) (ms_cons (me_int) (ms_cons (me_int) (ms_nil)))))) (show 1 ∉ ([] : List Nat) by decide))
  (ss_cons (st_set sc_law.nd rfl (by first | exact Or.inl rfl | exact Or.inr rfl) (me_cal c__law_web rfl rfl hr tk rfl (ma_io (pv 1) (ma_v (me_int) (ma_nil)))) (show 2 ∉ ([] : List Nat) by decide))
  (ss_cons (st_parT rfl rfl (mp_v (me_cal c__law_state rfl rfl hr tk rfl (ma_io (pv 1) (ma_v (me_var (pv 2)) (ma_nil)))) (mp_v (me_cal c__law_taken rfl rfl hr tk rfl (ma_io (pv 1) (ma_v (me_at (room1 hr) rfl (pv 2) (me_int)) (ma_nil)))) (mp_v (me_cal c__law_taken rfl rfl hr tk rfl (ma_io (pv 1) (ma_v (me_int) (ma_nil)))) (mp_nil)))) (gt_nm sc_law.nd rfl (by first | exact Or.inl rfl | exact Or.inr rfl) (gt_nm sc_law.nd rfl (by first | exact Or.inl rfl | exact Or.inr rfl) (gt_nm sc_law.nd rfl (by first | exact Or.inl rfl | exact Or.inr rfl) (gt_nil)))) (fun t ht i e => by subst e; revert ht; exact (show ∀ (i : Nat), PT.nm i ∈ ([.nm 3, .nm 4, .nm 5] : List PT) → i ∉ ([] : List Nat) by intro i h; first | (simp; done) | (simp at h; simp; omega)) i))
  (ss_cons (st_set sc_law.nd rfl (by first | exact Or.inl rfl | exact Or.inr rfl) (me_op op_addA p_add (me_op op_addA p_add (me_cut rfl (pv 3) (po_no) (po_at (me_var (pv 4)))) (me_tup (ms_cons (me_cal c__law_taken rfl rfl hr tk rfl (ma_io (pv 1) (ma_v (me_int) (ma_nil)))) (ms_nil)))) (me_cut rfl (pv 3) (po_at (me_op op_addA p_add (pv 4) (me_int))) (po_no))) (show 6 ∉ ([] : List Nat) by decide))
  (ss_cons (st_par2 rfl sc_law.nd rfl rfl (by decide) rfl rfl (mp_v (me_at (room1 hr) rfl (me_cal c_run rfl rfl hr tk rfl (ma_v (me_var (pv 2)) (ma_v (me_var (pv 3)) (ma_v (me_var (pv 5)) (ma_nil))))) (pv 5)) (mp_v (me_at (room1 hr) rfl (me_cal c_run rfl rfl hr tk rfl (ma_v (me_var (pv 2)) (ma_v (me_var (pv 6)) (ma_v (me_var (pv 5)) (ma_nil))))) (pv 5)) (mp_nil))) (show ∀ v ∈ ([7, 8] : List Nat), v ∉ ([] : List Nat) by decide) rfl rfl)
  (ss_cons (st_for po rfl rfl (mi_rng1 rfl B.b_range (mo_cons (me_at (room1 hr) rfl (pv 2) (me_int)) (mo_nil))) (tg_name sc_law.nd rfl (by first | exact Or.inl rfl | exact Or.inr rfl) (show 9 ∉ ([] : List Nat) by decide)) (ss_cons (st_set sc_law.nd rfl (by first | exact Or.inl rfl | exact Or.inr rfl) (me_cal c_far rfl rfl hr tk rfl (ma_v (me_var (pv 2)) (ma_v (me_var (pv 4)) (ma_v (me_var (pv 9)) (ma_nil))))) (show 10 ∉ ([] : List Nat) by decide))
  (ss_one (st_if (mt_bool (mw_and (mt_cmp (op_neD (room64 hr)) p_ne (me_at (room1 hr) rfl (pv 7) (pv 9)) (me_at (room1 hr) rfl (pv 8) (pv 9)) (nomark _)) (mw_and1 (mt_bool (mw_or (mt_cmp op_isN p_isN (pv 10) (me_non) (nomark _)) (mw_or1 (mt_cmp op_gt p_gt (pv 10) (pv 5) (nomark _)))))))) (ss_one (st_ret (me_bl))) (ss_nil)))))
  (ss_cons (st_for po rfl rfl (mi_seq rfl (me_cut rfl (me_cal c_ahead rfl rfl hr tk rfl (ma_v (me_var (pv 2)) (ma_v (me_var (pv 7)) (ma_nil)))) (po_no) (po_at (me_int)))) (tg_name sc_law.nd rfl (by first | exact Or.inl rfl | exact Or.inr rfl) (show 11 ∉ ([] : List Nat) by decide)) (ss_one (st_if (mt_bool (mw_or (mt_cmp (op_neD (room64 hr)) p_ne (me_cal c_tick rfl rfl hr tk rfl (ma_v (me_var (pv 2)) (ma_v (me_var (pv 11)) (ma_nil)))) (pv 7) (nomark _)) (mw_or1 (mt_cmp (op_notInAny (room65 hr)) (p_inAny (f := not)) (me_cal c_becomes rfl rfl hr tk rfl (ma_v (me_var (pv 2)) (ma_v (me_var (pv 11)) (ma_v (me_var (pv 7)) (ma_nil))))) (me_of (fe_lst (ms_cons (me_int) (ms_cons (me_int) (ms_nil))))) (by with_unfolding_all rfl))))) (ss_one (st_ret (me_bl))) (ss_nil))))
  (ss_cons (st_if (mt_bool (mw_or (mt_bool (mw_and (mt_cmp op_gt p_gt (pv 5) (me_int) (nomark _)) (mw_and1 (mt_cmp (op_notInAny (room65 hr)) (p_inAny (f := not)) (me_at (room1 hr) rfl (me_cal c_run rfl rfl hr tk rfl (ma_v (me_var (pv 2)) (ma_v (me_var (pv 3)) (ma_v (me_var (pv 5)) (ma_nil))))) (me_op op_sub p_sub (pv 5) (me_int))) (me_cal c_ahead rfl rfl hr tk rfl (ma_v (me_var (pv 2)) (ma_v (me_var (pv 7)) (ma_nil)))) (by with_unfolding_all rfl))))) (mw_or1 (mt_cmp (op_neD (room64 hr)) p_ne (me_cal c_kin rfl rfl hr tk rfl (ma_v (me_var (pv 2)) (ma_v (me_var (pv 7)) (ma_v (me_int) (ma_nil))))) (me_fnB call_lenA p_len rfl B.b_len PySem.boot_len (mo_cons (me_cal c_ahead rfl rfl hr tk rfl (ma_v (me_var (pv 2)) (ma_v (me_var (pv 7)) (ma_nil)))) (mo_nil))) (nomark _))))) (ss_one (st_ret (me_bl))) (ss_nil))
  (ss_cons (st_set sc_law.nd rfl (by first | exact Or.inl rfl | exact Or.inr rfl) (me_cal c_eldest rfl rfl hr tk rfl (ma_v (me_var (pv 2)) (ma_v (me_var (pv 7)) (ma_nil)))) (show 12 ∉ ([] : List Nat) by decide))
  (ss_cons (st_if (mt_bool (mw_and (mt_cmp (op_neD (room64 hr)) p_ne (pv 12) (me_str) (nomark _)) (mw_and1 (mt_bool (mw_or (mt_cmp op_lt p_lt (pv 12) (pv 5) (nomark _)) (mw_or (mt_cmp (op_eqD (room64 hr)) p_eq (me_cal c_kin rfl rfl hr tk rfl (ma_v (me_var (pv 2)) (ma_v (me_var (pv 7)) (ma_v (me_var (pv 12)) (ma_nil))))) (me_int) (nomark _)) (mw_or1 (mt_cmp (op_neD (room64 hr)) p_ne (me_cal c_kin rfl rfl hr tk rfl (ma_v (me_var (pv 2)) (ma_v (me_var (pv 7)) (ma_v (me_op op_addA p_add (pv 12) (me_int)) (ma_nil))))) (me_int) (nomark _))))))))) (ss_one (st_ret (me_bl))) (ss_nil))
  (ss_cons (st_if (mt_cmp (op_neD (room64 hr)) p_ne (me_cmp (op_eqD (room64 hr)) p_eq (pv 12) (me_str) (nomark _)) (me_cmp (op_eqD (room64 hr)) p_eq (me_at (room1 hr) rfl (me_cal c_coming_round rfl rfl hr tk rfl (ma_v (me_var (pv 2)) (ma_v (me_var (pv 7)) (ma_nil)))) (me_int)) (me_int) (nomark _)) (nomark _)) (ss_one (st_ret (me_bl))) (ss_nil))
  (ss_cons (st_set sc_law.nd rfl (by first | exact Or.inl rfl | exact Or.inr rfl) (me_cal c_story rfl rfl hr tk rfl (ma_v (me_var (pv 2)) (ma_v (me_var (pv 3)) (ma_v (me_var (pv 4)) (ma_v (me_var (pv 5)) (ma_nil)))))) (show 13 ∉ ([] : List Nat) by decide))
  (ss_cons (st_if (mt_bool (mw_or (mt_cmp (op_notInAny (room65 hr)) (p_inAny (f := not)) (pv 3) (me_cal c_fits rfl rfl hr tk rfl (ma_v (me_var (pv 2)) (ma_v (me_var (pv 4)) (ma_v (me_var (pv 13)) (ma_nil))))) (by with_unfolding_all rfl)) (mw_or1 (mt_cmp (op_neD (room64 hr)) p_ne (me_at (room1 hr) rfl (pv 13) (me_int)) (me_fnT call_str_int p_strI rfl B.b_str boot_str (mo_cons (me_at (room1 hr) rfl (pv 3) (pv 4)) (mo_nil))) (nomark _))))) (ss_one (st_ret (me_bl))) (ss_nil))
  (ss_cons (st_set sc_law.nd rfl (by first | exact Or.inl rfl | exact Or.inr rfl) (me_cal c_sure rfl rfl hr tk rfl (ma_v (me_var (pv 2)) (ma_v (me_var (pv 4)) (ma_v (me_var (pv 13)) (ma_nil))))) (show 14 ∉ ([] : List Nat) by decide))
  (ss_cons (st_if (mt_bool (mw_or (mt_cmp (op_neD (room64 hr)) p_ne (me_at (room1 hr) rfl (pv 14) (pv 4)) (me_at (room1 hr) rfl (pv 3) (pv 4)) (nomark _)) (mw_or1 (mt_cmp (op_neD (room64 hr)) p_ne (me_of (fe_lc (own := [("_law_k", 9)]) rfl sc_law.nd (show ∀ v ∈ ([9] : List Nat), v ∉ ([] : List Nat) by decide) (by decide) (mi_rng1 rfl B.b_range (mo_cons (me_at (room1 hr) rfl (pv 2) (me_int)) (mo_nil))) (blkOk_by (by kernel_rfl)) (fun _ _ _ _ _ => tg_name sc_law.nd rfl (by first | exact Or.inl rfl | exact Or.inr rfl) (show 9 ∉ ([] : List Nat) by decide)) (fun _ _ _ _ _ => mts_one (mt_bool (mw_and (mt_cmp op_notN p_notN (me_at (room1 hr) rfl (pv 14) (pv 9)) (me_non) (nomark _)) (mw_and1 (mt_cmp (op_neD (room64 hr)) p_ne (me_at (room1 hr) rfl (pv 14) (pv 9)) (me_at (room1 hr) rfl (pv 3) (pv 9)) (nomark _)))))) (fun _ _ _ _ _ => me_var (pv 9)))) (me_of (fe_lst (ms_nil))) (nomark _))))) (ss_one (st_ret (me_bl))) (ss_nil))
  (ss_cons (st_set sc_law.nd rfl (by first | exact Or.inl rfl | exact Or.inr rfl) (me_cal c_meet rfl rfl hr tk rfl (ma_v (me_var (pv 2)) (ma_v (me_var (pv 3)) (ma_v (me_var (pv 6)) (ma_nil))))) (show 15 ∉ ([] : List Nat) by decide))
  (ss_cons (st_if (mt_bool (mw_and (mt_cmp op_notN p_notN (pv 15) (me_non) (nomark _)) (mw_and1 (mt_cmp (op_neD (room64 hr)) p_ne (me_cal c_state_at rfl rfl hr tk rfl (ma_v (me_var (pv 2)) (ma_v (me_var (pv 3)) (ma_v (me_var (pv 15)) (ma_nil))))) (me_cal c_state_at rfl rfl hr tk rfl (ma_v (me_var (pv 2)) (ma_v (me_var (pv 6)) (ma_v (me_var (pv 15)) (ma_nil))))) (nomark _))))) (ss_one (st_ret (me_bl))) (ss_nil))
  (ss_cons (st_if (mt_bool (mw_and (mt_cmp op_notN p_notN (pv 15) (me_non) (nomark _)) (mw_and (mt_cmp op_gt p_gt (pv 15) (me_int) (nomark _)) (mw_and1 (mt_cmp (op_eqD (room64 hr)) p_eq (me_cal c_state_at rfl rfl hr tk rfl (ma_v (me_var (pv 2)) (ma_v (me_var (pv 3)) (ma_v (me_op op_sub p_sub (pv 15) (me_int)) (ma_nil))))) (me_cal c_state_at rfl rfl hr tk rfl (ma_v (me_var (pv 2)) (ma_v (me_var (pv 6)) (ma_v (me_op op_sub p_sub (pv 15) (me_int)) (ma_nil))))) (nomark _)))))) (ss_one (st_ret (me_bl))) (ss_nil))
  (ss_cons (st_set sc_law.nd rfl (by first | exact Or.inl rfl | exact Or.inr rfl) (me_cal c_changes rfl rfl hr tk rfl (ma_v (me_var (pv 2)) (ma_v (me_var (pv 3)) (ma_v (me_var (pv 5)) (ma_nil))))) (show 16 ∉ ([] : List Nat) by decide))
  (ss_cons (st_if (mt_cmp (op_neD (room64 hr)) p_ne (me_fnB call_lenA p_len rfl B.b_len PySem.boot_len (mo_cons (me_of (fe_lc (own := [("_law_k", 9)]) rfl sc_law.nd (show ∀ v ∈ ([9] : List Nat), v ∉ ([] : List Nat) by decide) (by decide) (mi_rng1 rfl B.b_range (mo_cons (pv 5) (mo_nil))) (blkOk_by (by kernel_rfl)) (fun _ _ _ _ _ => tg_name sc_law.nd rfl (by first | exact Or.inl rfl | exact Or.inr rfl) (show 9 ∉ ([] : List Nat) by decide)) (fun _ _ _ _ _ => mts_one (mt_cmp (op_neD (room64 hr)) p_ne (me_at (room1 hr) rfl (pv 13) (pv 9)) (me_at (room1 hr) rfl (pv 13) (me_op op_addA p_add (pv 9) (me_int))) (nomark _))) (fun _ _ _ _ _ => me_int))) (mo_nil))) (me_at (room1 hr) rfl (pv 16) (pv 4)) (nomark _)) (ss_one (st_ret (me_bl))) (ss_nil))
  (ss_one (st_ret (me_cmp (op_eqD (room64 hr)) p_eq (me_cmp (op_inAny (room65 hr)) (p_inAny (f := id)) (pv 4) (me_cal c_stirred rfl rfl hr tk rfl (ma_v (me_var (pv 2)) (ma_v (me_var (pv 3)) (ma_nil)))) (by with_unfolding_all rfl)) (me_cmp (op_eqD (room64 hr)) p_eq (me_at (room1 hr) rfl (me_cal c_changes rfl rfl hr tk rfl (ma_v (me_var (pv 2)) (ma_v (me_var (pv 3)) (ma_v (me_int) (ma_nil))))) (pv 4)) (me_int) (nomark _)) (nomark _))))))))))))))))))))))))
end

set_option autoImplicit false
theorem atI_map {α β : Type} (f : α → β) (xs : List α) (i : Int) : L2.atI (xs.map f) i = (L2.atI xs i).map f := by
  unfold L2.atI
  rw [List.length_map]
  cases ixN xs.length i with
  | none => rfl
  | some j => simp
theorem set_set {ρ : Env} {i : Nat} {x : Sl} (h : ρ[i]? = some .no) : (ρ.set i x).set i .no = ρ := by
  rw [List.set_set]
  obtain ⟨hl, he⟩ := List.getElem?_eq_some_iff.mp h
  rw [← he]
  exact List.set_getElem_self hl
/-- a slot that a comprehension may use -/
def Free (ρ : Env) (i : Nat) : Prop := ∃ s, ρ[i]? = some s ∧ ∀ d, s ≠ .own d

set_option autoImplicit false
theorem ixN_nat (n i : Nat) : L2.ixN n (i : Int) = if i < n then some i else none := by
  unfold L2.ixN
  rw [if_pos (Int.natCast_nonneg i)]
  by_cases h : i < n
  · rw [if_pos (by omega), if_pos h]; rfl
  · rw [if_neg (by omega), if_neg h]
theorem atI_nat {α : Type} (xs : List α) (i : Nat) : L2.atI xs (i : Int) = xs[i]? := by
  unfold L2.atI
  rw [ixN_nat]
  by_cases h : i < xs.length
  · rw [if_pos h]; rfl
  · rw [if_neg h, List.getElem?_eq_none (by omega)]; rfl
theorem atI_0 {α : Type} (xs : List α) : L2.atI xs 0 = xs[0]? := atI_nat xs 0
theorem atI_1 {α : Type} (xs : List α) : L2.atI xs 1 = xs[1]? := atI_nat xs 1
theorem atI_2 {α : Type} (xs : List α) : L2.atI xs 2 = xs[2]? := atI_nat xs 2
theorem atI_3 {α : Type} (xs : List α) : L2.atI xs 3 = xs[3]? := atI_nat xs 3
theorem ix4_1 : L2.ixN 4 1 = some 1 := rfl
theorem ix4_2 : L2.ixN 4 2 = some 2 := rfl
theorem ix4_3 : L2.ixN 4 3 = some 3 := rfl
def rowD (ns : List Int) (k r h : Int) : D := .list [scrD ns, .int k, .int r, .int h]
structure RowOk (ns : List Int) (d : D) : Prop where
  ex : ∃ k r h, d = rowD ns k r h ∧ 0 ≤ k ∧ 0 ≤ r ∧ r < 2147483647
theorem log2_lt {m : Int} (h : m < 9000) (h0 : 0 < m) : m.natAbs.log2 < 9000 := by
  have h1 : m.natAbs.log2 ≤ m.natAbs := Nat.log2_le_self _
  omega
theorem lg7 : Nat.log2 7 < 9000 := Nat.lt_of_le_of_lt (Nat.log2_le_self 7) (by omega)
theorem taken {ns : List Int} {d : D} (h : RowOk ns d) {m : Int} (hm : 0 < m) (hm2 : m < 9000) : ∃ v d', f__law_taken [.own d, .fz (.int m)] = .ok (.int v) [d'] ∧ 0 ≤ v ∧ v < m ∧ RowOk ns d' := by
  obtain ⟨k, r, w, rfl, hk, hr, hr2⟩ := h
  have hl : m.natAbs.log2 < 9000 := log2_lt hm2 hm
  by_cases h1 : 0 < w
  · refine ⟨w % m, rowD ns k r (w / m), ?_, Int.emod_nonneg _ (by omega), Int.emod_lt_of_pos _ hm, ⟨k, r, w / m, rfl, hk, hr, hr2⟩⟩
    simp [f__law_taken, m__law_taken, fnM, ownIx, backs, sRet, sSeq, sIf, sSet, sOwn, sDo, sNil, sAsg, Rs.sr, mOp2, Opd.ev, Opd.fin, at_, Sl.val, Rs.then, mLit, mVar, mB, mAnd, mOr, mNot, bAnd, bOr, bNot, mIf, bYes, mTup, mLst, evm, evo, fino, mFn, mCall, eva, sls, ioIx, putBack, Arg.opd, iSeq, iRng, fR1, fR2, sFor, tmName, tmTup, tmSeq, mApp, mExt, mPutAt, dPutAt, mIsi, dTy, isB, dEq, dNe, dLt, dLe, dGt, dGe, dIsN, dNotN, dAdd, dSub, dMod, dFdiv, dMul, dAt, dLen, dInt, dTuple, dList, mChain, sPar, setP, rowD, atI_0, atI_1, atI_2, atI_3, ix4_3, h1, hm, hl, backs]
  · have hf : mulFits r 48271 = true := by simp [mulFits]
    by_cases h2 : (ns.length : Int) < k + 1
    · refine ⟨((r * 48271 + 11) % 2147483647) / 7 % m, rowD ns (k + 1) ((r * 48271 + 11) % 2147483647) w, ?_, Int.emod_nonneg _ (by omega), Int.emod_lt_of_pos _ hm, ⟨_, _, _, rfl, by omega, Int.emod_nonneg _ (by omega), Int.emod_lt_of_pos _ (by omega)⟩⟩
      simp [f__law_taken, m__law_taken, fnM, ownIx, backs, sRet, sSeq, sIf, sSet, sOwn, sDo, sNil, sAsg, Rs.sr, mOp2, Opd.ev, Opd.fin, at_, Sl.val, Rs.then, mLit, mVar, mB, mAnd, mOr, mNot, bAnd, bOr, bNot, mIf, bYes, mTup, mLst, evm, evo, fino, mFn, mCall, eva, sls, ioIx, putBack, Arg.opd, iSeq, iRng, fR1, fR2, sFor, tmName, tmTup, tmSeq, mApp, mExt, mPutAt, dPutAt, mIsi, dTy, isB, dEq, dNe, dLt, dLe, dGt, dGe, dIsN, dNotN, dAdd, dSub, dMod, dFdiv, dMul, dAt, dLen, dInt, dTuple, dList, mChain, sPar, setP, rowD, atI_0, atI_1, atI_2, atI_3, ix4_3, ix4_2, ix4_1, h1, hm, backs, hf, h2, scrD, lg7]
    · obtain ⟨x, hx⟩ : ∃ x, L2.atI ns k = some x := by
        have e : k = ((k.toNat : Nat) : Int) := by omega
        rw [e, atI_nat]
        exact ⟨_, List.getElem?_eq_getElem (by omega)⟩
      have hd : L2.atI (ns.map PyData.int) k = some (.int x) := by rw [atI_map, hx]; rfl
      have e1 : k + 1 - 1 = k := by omega
      by_cases h3 : (1000000000000000000 : Int) ≤ x
      · refine ⟨x % m, rowD ns (k + 1) ((r * 48271 + x + 11) % 2147483647) (x / m), ?_, Int.emod_nonneg _ (by omega), Int.emod_lt_of_pos _ hm, ⟨_, _, _, rfl, by omega, Int.emod_nonneg _ (by omega), Int.emod_lt_of_pos _ (by omega)⟩⟩
        simp [f__law_taken, m__law_taken, fnM, ownIx, backs, sRet, sSeq, sIf, sSet, sOwn, sDo, sNil, sAsg, Rs.sr, mOp2, Opd.ev, Opd.fin, at_, Sl.val, Rs.then, mLit, mVar, mB, mAnd, mOr, mNot, bAnd, bOr, bNot, mIf, bYes, mTup, mLst, evm, evo, fino, mFn, mCall, eva, sls, ioIx, putBack, Arg.opd, iSeq, iRng, fR1, fR2, sFor, tmName, tmTup, tmSeq, mApp, mExt, mPutAt, dPutAt, mIsi, dTy, isB, dEq, dNe, dLt, dLe, dGt, dGe, dIsN, dNotN, dAdd, dSub, dMod, dFdiv, dMul, dAt, dLen, dInt, dTuple, dList, mChain, sPar, setP, rowD, atI_0, atI_1, atI_2, atI_3, ix4_3, ix4_2, ix4_1, h1, hm, backs, hf, h2, scrD, dPow, hd, e1, h3, hl]
      · refine ⟨x % m, rowD ns (k + 1) ((r * 48271 + x + 11) % 2147483647) w, ?_, Int.emod_nonneg _ (by omega), Int.emod_lt_of_pos _ hm, ⟨_, _, _, rfl, by omega, Int.emod_nonneg _ (by omega), Int.emod_lt_of_pos _ (by omega)⟩⟩
        simp [f__law_taken, m__law_taken, fnM, ownIx, backs, sRet, sSeq, sIf, sSet, sOwn, sDo, sNil, sAsg, Rs.sr, mOp2, Opd.ev, Opd.fin, at_, Sl.val, Rs.then, mLit, mVar, mB, mAnd, mOr, mNot, bAnd, bOr, bNot, mIf, bYes, mTup, mLst, evm, evo, fino, mFn, mCall, eva, sls, ioIx, putBack, Arg.opd, iSeq, iRng, fR1, fR2, sFor, tmName, tmTup, tmSeq, mApp, mExt, mPutAt, dPutAt, mIsi, dTy, isB, dEq, dNe, dLt, dLe, dGt, dGe, dIsN, dNotN, dAdd, dSub, dMod, dFdiv, dMul, dAt, dLen, dInt, dTuple, dList, mChain, sPar, setP, rowD, atI_0, atI_1, atI_2, atI_3, ix4_3, ix4_2, ix4_1, h1, hm, backs, hf, h2, scrD, dPow, hd, e1, h3, hl]

set_option autoImplicit false
def WR (r : SR) (N : Env → Prop) (R : D → Env → Prop) : Prop := match r with
  | .nx ρ' => N ρ'
  | .rt d ρ' => R d ρ'
  | _ => False
/-- (a structure, so that nobody computes it by accident) -/
structure W (m : SM) (ρ : Env) (N : Env → Prop) (R : D → Env → Prop) : Prop where
  run : WR (m ρ) N R
theorem W.seq {a b : SM} {ρ : Env} {N : Env → Prop} {R : D → Env → Prop} (h : W a ρ (fun ρ' => W b ρ' N R) R) : W (sSeq a b) ρ N R := by
  obtain ⟨h⟩ := h
  refine ⟨?_⟩
  unfold sSeq
  cases e : a ρ with
  | nx ρ' => rw [e] at h; exact h.run
  | rt d ρ' => rw [e] at h; exact h
  | ex x ρ' => rw [e] at h; exact h.elim
  | stuck => rw [e] at h; exact h.elim
theorem W.imp {m : SM} {ρ : Env} {N N' : Env → Prop} {R R' : D → Env → Prop} (h : W m ρ N R) (hn : ∀ ρ, N ρ → N' ρ) (hr : ∀ d ρ, R d ρ → R' d ρ) : W m ρ N' R' := by
  obtain ⟨h⟩ := h
  refine ⟨?_⟩
  cases e : m ρ with
  | nx ρ' => rw [e] at h; exact hn _ h
  | rt d ρ' => rw [e] at h; exact hr _ _ h
  | ex x ρ' => rw [e] at h; exact h.elim
  | stuck => rw [e] at h; exact h.elim
theorem W.nx {m : SM} {ρ ρ' : Env} {N : Env → Prop} {R : D → Env → Prop} (e : m ρ = .nx ρ') (h : N ρ') : W m ρ N R := ⟨by rw [e]; exact h⟩
theorem W.rt {m : SM} {ρ ρ' : Env} {d : D} {N : Env → Prop} {R : D → Env → Prop} (e : m ρ = .rt d ρ') (h : R d ρ') : W m ρ N R := ⟨by rw [e]; exact h⟩
theorem W.forM {tm : TM} {b : SM} {R : D → Env → Prop} (I : Nat → Env → Prop) : ∀ (ds : List D) (k : Nat) (ρ : Env), I k ρ → (∀ i d ρ, ds[i]? = some d → I (k + i) ρ → ∃ ρ1, tm d ρ = .ok () ρ1 ∧ W b ρ1 (I (k + i + 1)) R) → W (forM tm b ds) ρ (I (k + ds.length)) R
  | [], k, ρ, h, _ => ⟨h⟩
  | d :: ds, k, ρ, h, hs => by
    obtain ⟨ρ1, e1, ⟨w⟩⟩ := hs 0 d ρ rfl h
    refine ⟨?_⟩
    unfold MP.forM
    rw [e1]
    show WR (match b ρ1 with
      | .nx ρ2 => MP.forM tm b ds ρ2
      | r => r) _ _
    cases e : b ρ1 with
    | nx ρ2 =>
      rw [e] at w
      have := W.forM (tm := tm) (b := b) (R := R) I ds (k + 1) ρ2 w fun i d ρ h1 h2 => by
        have := hs (i + 1) d ρ h1 (by rw [show k + (i + 1) = k + 1 + i by omega]; exact h2)
        rw [show k + (i + 1) + 1 = k + 1 + i + 1 by omega] at this
        exact this
      rw [show k + 1 + ds.length = k + (d :: ds).length by rw [List.length_cons]; omega] at this
      exact this.run
    | rt d ρ' => rw [e] at w; exact w
    | ex x ρ' => rw [e] at w; exact w.elim
    | stuck => rw [e] at w; exact w.elim
theorem W.for' {it : MI} {tm : TM} {b : SM} {ρ ρ0 : Env} {ds : List D} {N : Env → Prop} {R : D → Env → Prop} (I : Nat → Env → Prop) (hit : it ρ = .ok ds ρ0) (h0 : I 0 ρ0) (hs : ∀ i d ρ, ds[i]? = some d → I i ρ → ∃ ρ1, tm d ρ = .ok () ρ1 ∧ W b ρ1 (I (i + 1)) R) (hk : ∀ ρ, I ds.length ρ → N ρ) :
    W (sFor it tm b) ρ N R := by
  have h := W.forM (R := R) I ds 0 ρ0 h0 fun i d ρ h1 h2 => by
    rw [Nat.zero_add] at h2 ⊢
    exact hs i d ρ h1 h2
  rw [Nat.zero_add] at h
  have h' := (h.imp hk fun _ _ x => x).run
  refine ⟨?_⟩
  unfold sFor
  rw [hit]
  exact h'
theorem W.ite {t : MB} {a b : SM} {ρ ρ1 : Env} {x : Bool} {N : Env → Prop} {R : D → Env → Prop} (e : t ρ = .ok x ρ1) (h : W (if x = true then a else b) ρ1 N R) : W (sIf t a b) ρ N R := by
  obtain ⟨h⟩ := h
  refine ⟨?_⟩
  unfold sIf
  rw [e]
  cases x with
  | true => exact h
  | false => exact h
/-- a loop over numbers -/
theorem W.rngl {os : List Opd} {f : List D → Option (Int × Int)} {i : Nat} {b : SM} {ρ ρ0 : Env} {lo : Int} {n : Nat} {N : Env → Prop} {R : D → Env → Prop} (I : Nat → Env → Prop) (hit : iRng f os ρ = .ok (up lo n) ρ0) (h0 : I 0 ρ0)
    (hs : ∀ k ρ, k < n → I k ρ → W b (ρ.set i (.fz (.int (lo + k)))) (I (k + 1)) R) (hk : ∀ ρ, I n ρ → N ρ) : W (sFor (iRng f os) (tmName i) b) ρ N R := by
  refine W.for' I hit h0 (fun k d ρ h1 h2 => ?_) fun ρ h => hk ρ ?_
  · obtain ⟨h3, rfl⟩ := up_get _ _ _ _ h1
    exact ⟨_, rfl, hs k ρ h3 h2⟩
  · rw [up_len] at h
    exact h
theorem W.rng {os : List Opd} {f : List D → Option (Int × Int)} {i : Nat} {b : SM} {ρ ρ0 : Env} {n : Nat} {N : Env → Prop} {R : D → Env → Prop} (I : Nat → Env → Prop) (hit : iRng f os ρ = .ok (up 0 n) ρ0) (h0 : I 0 ρ0)
    (hs : ∀ (k : Nat) ρ, k < n → I k ρ → W b (ρ.set i (.fz (.int k))) (I (k + 1)) R) (hk : ∀ ρ, I n ρ → N ρ) : W (sFor (iRng f os) (tmName i) b) ρ N R :=
  W.rngl I hit h0 (fun k ρ h1 h2 => by rw [Int.zero_add]; exact hs k ρ h1 h2) hk
theorem iRng_ok {f : List D → Option (Int × Int)} {os : List Opd} {ρ ρ1 : Env} {xs : List (Option D)} {ds : List D} {lo hi : Int} (h1 : evo os ρ = .ok xs ρ1) (h2 : fino os xs ρ1 = some ds) (h3 : f ds = some (lo, hi)) (hb : -1000000 ≤ lo ∧ lo ≤ 1000000 ∧ -1000000 ≤ hi ∧ hi ≤ 1000000) : iRng f os ρ = .ok (up lo (hi - lo).toNat) ρ1 := by
  unfold iRng
  rw [h1]
  show (match (fino os xs ρ1).bind f with
    | some (i, j) => if -(2 ^ 62) ≤ i ∧ i < 2 ^ 62 ∧ -(2 ^ 62) ≤ j ∧ j < 2 ^ 62 then Rs.ok (up i (j - i).toNat) ρ1 else .stuck
    | none => .stuck) = _
  rw [h2]
  show (match f ds with
    | some (i, j) => if -(2 ^ 62) ≤ i ∧ i < 2 ^ 62 ∧ -(2 ^ 62) ≤ j ∧ j < 2 ^ 62 then Rs.ok (up i (j - i).toNat) ρ1 else .stuck
    | none => .stuck) = _
  rw [h3]
  exact if_pos (by omega)
theorem iRng_nat {os : List Opd} {ρ ρ1 : Env} {xs : List (Option D)} {n : Nat} (h1 : evo os ρ = .ok xs ρ1) (h2 : fino os xs ρ1 = some [.int n]) (hb : n ≤ 1000000) : iRng fR1 os ρ = .ok (up 0 n) ρ1 := by
  have := iRng_ok (f := fR1) (lo := 0) (hi := (n : Int)) h1 h2 rfl ⟨by omega, by omega, by omega, by omega⟩
  rw [show ((n : Int) - 0).toNat = n by omega] at this
  exact this
theorem W.fn {len n : Nat} {ios : List Nat} {m : SM} {ss : List Sl} {P : D → List D → Prop} (h : ownIx 0 ss = ios) (w : W m (ss ++ List.replicate (len - n) .no) (fun ρ => ∃ b, backs ios ρ = some b ∧ P .none b) fun d ρ => ∃ b, backs ios ρ = some b ∧ P d b) : ∃ d b, fnM len n ios m ss = .ok d b ∧ P d b := by
  obtain ⟨w⟩ := w
  unfold fnM
  rw [if_pos h]
  cases e : m (ss ++ List.replicate (len - n) .no) with
  | nx ρ' => rw [e] at w; obtain ⟨b, e1, p⟩ := w; exact ⟨_, b, by simp [e1], p⟩
  | rt d ρ' => rw [e] at w; obtain ⟨b, e1, p⟩ := w; exact ⟨d, b, by simp [e1], p⟩
  | ex x ρ' => rw [e] at w; exact w.elim
  | stuck => rw [e] at w; exact w.elim

set_option autoImplicit false
structure Web where
  n : Nat
  es : List (Nat × Nat)
def pairN (p : Nat × Nat) : D := .tuple [.int p.1, .int p.2]
def webD (w : Web) : D := .tuple [.int w.n, .tuple (w.es.map pairN)]
def stD (s : List Int) : D := .tuple (s.map PyData.int)
def lexN (p q : Nat × Nat) : Prop := p.1 < q.1 ∨ (p.1 = q.1 ∧ p.2 < q.2)
structure Web.Ok (w : Web) : Prop where
  pos : 1 ≤ w.n
  most : w.n ≤ 10
  few : w.es.length ≤ 100
  sorted : w.es.Pairwise lexN
  inn : ∀ e ∈ w.es, e.1 < e.2 ∧ e.2 < w.n
structure StOk (n : Nat) (s : List Int) : Prop where
  len : s.length = n
  three : ∀ x ∈ s, 0 ≤ x ∧ x < 3
theorem state_drawn {ns : List Int} {d : D} (h : RowOk ns d) {w : Web} (hw : w.Ok) : ∃ s d', f__law_state [.own d, .fz (webD w)] = .ok (stD s) [d'] ∧ StOk w.n s ∧ RowOk ns d' := by
  have hn := hw.pos
  have hm := hw.most
  obtain ⟨v, d1, e1, v0, v1, r1⟩ := taken h (m := 4) (by omega) (by omega)
  obtain ⟨r, b, e, s, d', er, eb, hs, hr⟩ := W.fn (len := 6) (n := 2) (ios := [0]) (m := m__law_state) (ss := [.own d, .fz (webD w)]) (P := fun r b => ∃ s d', r = stD s ∧ b = [d'] ∧ StOk w.n s ∧ RowOk ns d') rfl (by
    unfold m__law_state
    refine .seq (.nx (ρ' := [.own d1, .fz (webD w), .fz (.int v), .own (.list []), .no, .no]) (by simp [fnM, ownIx, backs, sRet, sSeq, sIf, sSet, sOwn, sDo, sNil, sAsg, Rs.sr, mOp2, Opd.ev, Opd.fin, at_, Sl.val, Rs.then, mLit, mVar, mB, mAnd, mOr, mNot, bAnd, bOr, bNot, mIf, bYes, mTup, mLst, evm, evo, fino, mFn, mCall, eva, sls, ioIx, putBack, Arg.opd, iSeq, iRng, fR1, fR2, sFor, tmName, tmTup, tmSeq, mApp, mExt, mPutAt, dPutAt, mIsi, dTy, isB, dEq, dNe, dLt, dLe, dGt, dGe, dIsN, dNotN, dAdd, dSub, dMod, dFdiv, dMul, dAt, dLen, dInt, dTuple, dList, mChain, sPar, setP, e1]) ?_)
    refine .seq (.rng (n := w.n) (ρ0 := [.own d1, .fz (webD w), .fz (.int v), .own (.list []), .no, .no]) (fun k ρ => ∃ (d : D) (s : List Int) (x y : Sl), ρ = [.own d, .fz (webD w), .fz (.int v), .own (.list (s.map PyData.int)), x, y] ∧ RowOk ns d ∧ s.length = k ∧ ∀ x ∈ s, 0 ≤ x ∧ x < 3) ?_ ?_ ?_ ?_)
    · refine iRng_nat (xs := [some (.int w.n)]) ?_ ?_ (by omega)
      · simp [fnM, ownIx, backs, sRet, sSeq, sIf, sSet, sOwn, sDo, sNil, sAsg, Rs.sr, mOp2, Opd.ev, Opd.fin, at_, Sl.val, Rs.then, mLit, mVar, mB, mAnd, mOr, mNot, bAnd, bOr, bNot, mIf, bYes, mTup, mLst, evm, evo, fino, mFn, mCall, eva, sls, ioIx, putBack, Arg.opd, iSeq, iRng, fR1, fR2, sFor, tmName, tmTup, tmSeq, mApp, mExt, mPutAt, dPutAt, mIsi, dTy, isB, dEq, dNe, dLt, dLe, dGt, dGe, dIsN, dNotN, dAdd, dSub, dMod, dFdiv, dMul, dAt, dLen, dInt, dTuple, dList, mChain, sPar, setP, webD, atI_0]
      · simp [fnM, ownIx, backs, sRet, sSeq, sIf, sSet, sOwn, sDo, sNil, sAsg, Rs.sr, mOp2, Opd.ev, Opd.fin, at_, Sl.val, Rs.then, mLit, mVar, mB, mAnd, mOr, mNot, bAnd, bOr, bNot, mIf, bYes, mTup, mLst, evm, evo, fino, mFn, mCall, eva, sls, ioIx, putBack, Arg.opd, iSeq, iRng, fR1, fR2, sFor, tmName, tmTup, tmSeq, mApp, mExt, mPutAt, dPutAt, mIsi, dTy, isB, dEq, dNe, dLt, dLe, dGt, dGe, dIsN, dNotN, dAdd, dSub, dMod, dFdiv, dMul, dAt, dLen, dInt, dTuple, dList, mChain, sPar, setP]
    · exact ⟨d1, [], .no, .no, rfl, r1, rfl, by simp⟩
    · rintro k _ k1 ⟨d, s, x, y, rfl, hr, hl, hs⟩
      obtain ⟨u, d2, e2, u0, u1, r2⟩ := taken hr (m := 3) (by omega) (by omega)
      have hz : s.length < sizeLine := by unfold sizeLine; omega
      have hput : ∀ z : Int, 0 ≤ z → z < 3 → ∃ (d : D) (s' : List Int) (x y : Sl), ([.own d2, .fz (webD w), .fz (.int v), .own (.list ((s ++ [z]).map PyData.int)), .fz (.int k), .fz (.int u)] : Env) = [.own d, .fz (webD w), .fz (.int v), .own (.list (s'.map PyData.int)), x, y] ∧ RowOk ns d ∧ s'.length = k + 1 ∧ ∀ x ∈ s', 0 ≤ x ∧ x < 3 := fun z z0 z1 =>
        ⟨d2, s ++ [z], _, _, rfl, r2, by simp; omega, fun q hq => by
          rcases List.mem_append.mp hq with p | p
          · exact hs q p
          · cases List.mem_singleton.mp p; exact ⟨z0, z1⟩⟩
      refine .seq (.nx (ρ' := [.own d2, .fz (webD w), .fz (.int v), .own (.list (s.map PyData.int)), .fz (.int k), .fz (.int u)]) (by simp [fnM, ownIx, backs, sRet, sSeq, sIf, sSet, sOwn, sDo, sNil, sAsg, Rs.sr, mOp2, Opd.ev, Opd.fin, at_, Sl.val, Rs.then, mLit, mVar, mB, mAnd, mOr, mNot, bAnd, bOr, bNot, mIf, bYes, mTup, mLst, evm, evo, fino, mFn, mCall, eva, sls, ioIx, putBack, Arg.opd, iSeq, iRng, fR1, fR2, sFor, tmName, tmTup, tmSeq, mApp, mExt, mPutAt, dPutAt, mIsi, dTy, isB, dEq, dNe, dLt, dLe, dGt, dGe, dIsN, dNotN, dAdd, dSub, dMod, dFdiv, dMul, dAt, dLen, dInt, dTuple, dList, mChain, sPar, setP, e2]) ?_)
      by_cases hv : 0 < v
      · exact .nx (ρ' := [.own d2, .fz (webD w), .fz (.int v), .own (.list ((s ++ [u]).map PyData.int)), .fz (.int k), .fz (.int u)]) (by simp [fnM, ownIx, backs, sRet, sSeq, sIf, sSet, sOwn, sDo, sNil, sAsg, Rs.sr, mOp2, Opd.ev, Opd.fin, at_, Sl.val, Rs.then, mLit, mVar, mB, mAnd, mOr, mNot, bAnd, bOr, bNot, mIf, bYes, mTup, mLst, evm, evo, fino, mFn, mCall, eva, sls, ioIx, putBack, Arg.opd, iSeq, iRng, fR1, fR2, sFor, tmName, tmTup, tmSeq, mApp, mExt, mPutAt, dPutAt, mIsi, dTy, isB, dEq, dNe, dLt, dLe, dGt, dGe, dIsN, dNotN, dAdd, dSub, dMod, dFdiv, dMul, dAt, dLen, dInt, dTuple, dList, mChain, sPar, setP, hv, hz]) (hput u u0 u1)
      · by_cases hu : u = 0
        · exact .nx (ρ' := [.own d2, .fz (webD w), .fz (.int v), .own (.list ((s ++ [((k : Int) + 1) % 3]).map PyData.int)), .fz (.int k), .fz (.int u)]) (by simp [fnM, ownIx, backs, sRet, sSeq, sIf, sSet, sOwn, sDo, sNil, sAsg, Rs.sr, mOp2, Opd.ev, Opd.fin, at_, Sl.val, Rs.then, mLit, mVar, mB, mAnd, mOr, mNot, bAnd, bOr, bNot, mIf, bYes, mTup, mLst, evm, evo, fino, mFn, mCall, eva, sls, ioIx, putBack, Arg.opd, iSeq, iRng, fR1, fR2, sFor, tmName, tmTup, tmSeq, mApp, mExt, mPutAt, dPutAt, mIsi, dTy, isB, dEq, dNe, dLt, dLe, dGt, dGe, dIsN, dNotN, dAdd, dSub, dMod, dFdiv, dMul, dAt, dLen, dInt, dTuple, dList, mChain, sPar, setP, hv, hz, hu, okD, SeqAt.shaped, PyData.canLay0, PyData.depth, PyData.eqv]) (hput _ (by omega) (by omega))
        · exact .nx (ρ' := [.own d2, .fz (webD w), .fz (.int v), .own (.list ((s ++ [((k : Int)) % 3]).map PyData.int)), .fz (.int k), .fz (.int u)]) (by simp [fnM, ownIx, backs, sRet, sSeq, sIf, sSet, sOwn, sDo, sNil, sAsg, Rs.sr, mOp2, Opd.ev, Opd.fin, at_, Sl.val, Rs.then, mLit, mVar, mB, mAnd, mOr, mNot, bAnd, bOr, bNot, mIf, bYes, mTup, mLst, evm, evo, fino, mFn, mCall, eva, sls, ioIx, putBack, Arg.opd, iSeq, iRng, fR1, fR2, sFor, tmName, tmTup, tmSeq, mApp, mExt, mPutAt, dPutAt, mIsi, dTy, isB, dEq, dNe, dLt, dLe, dGt, dGe, dIsN, dNotN, dAdd, dSub, dMod, dFdiv, dMul, dAt, dLen, dInt, dTuple, dList, mChain, sPar, setP, hv, hz, hu, okD, SeqAt.shaped, PyData.canLay0, PyData.depth, PyData.eqv]) (hput _ (by omega) (by omega))
    · rintro _ ⟨d, s, x, y, rfl, hr, hl, hs⟩
      exact .rt (d := stD s) (ρ' := [.own d, .fz (webD w), .fz (.int v), .own (.list (s.map PyData.int)), x, y]) (by simp [fnM, ownIx, backs, sRet, sSeq, sIf, sSet, sOwn, sDo, sNil, sAsg, Rs.sr, mOp2, Opd.ev, Opd.fin, at_, Sl.val, Rs.then, mLit, mVar, mB, mAnd, mOr, mNot, bAnd, bOr, bNot, mIf, bYes, mTup, mLst, evm, evo, fino, mFn, mCall, eva, sls, ioIx, putBack, Arg.opd, iSeq, iRng, fR1, fR2, sFor, tmName, tmTup, tmSeq, mApp, mExt, mPutAt, dPutAt, mIsi, dTy, isB, dEq, dNe, dLt, dLe, dGt, dGe, dIsN, dNotN, dAdd, dSub, dMod, dFdiv, dMul, dAt, dLen, dInt, dTuple, dList, mChain, sPar, setP, stD]) ⟨[d], rfl, s, d, rfl, rfl, ⟨hl, hs⟩, hr⟩)
  exact ⟨s, d', by rw [← er, ← eb]; exact e, hs, hr⟩

set_option autoImplicit false
def kvsD (es : List (Nat × Nat)) : List (D × D) := es.map fun p => (pairN p, .bool true)
theorem toKT_pair (p : Nat × Nat) : toKT (pairN p) = some [.inl (p.1 : Int), .inl (p.2 : Int)] := rfl
theorem toK1_pair (p : Nat × Nat) : toK1 (pairN p) = none := rfl
theorem dkEq_pair (p q : Nat × Nat) : dkEq (pairN p) (pairN q) = decide (p = q) := by
  unfold dkEq
  rw [toK1_pair, toK1_pair, toKT_pair, toKT_pair]
  obtain ⟨a, b⟩ := p
  obtain ⟨c, d⟩ := q
  simp
  congr 1 <;> exact decide_eq_decide.mpr (by omega)
theorem keyFits_pair (es : List (Nat × Nat)) (q : Nat × Nat) : keyFits (kvsD es) (pairN q) = true := by
  unfold keyFits
  rw [toK1_pair, toKT_pair]
  simp [kvsD, toKT_pair]
def addN (es : List (Nat × Nat)) (q : Nat × Nat) : List (Nat × Nat) := if q ∈ es then es else es ++ [q]
theorem dPutV_pair (es : List (Nat × Nat)) (q : Nat × Nat) : dPutV (kvsD es) (pairN q) (.bool true) = kvsD (addN es q) := by
  unfold dPutV addN
  have h : ((kvsD es).any fun p => dkEq p.1 (pairN q)) = decide (q ∈ es) := by
    rw [Bool.eq_iff_iff]
    simp [kvsD, dkEq_pair]
  rw [h]
  by_cases hq : q ∈ es
  · rw [if_pos (by simpa using hq), if_pos hq]
    unfold kvsD
    rw [List.map_map]
    refine List.map_congr_left fun p hp => ?_
    show (if dkEq (pairN p) (pairN q) = true then (pairN p, PyData.bool true) else (pairN p, PyData.bool true)) = _
    rw [ite_self]
  · rw [if_neg (by simpa using hq), if_neg hq]
    simp [kvsD]
def castP (p : Nat × Nat) : Int × Int := (p.1, p.2)
def unP (p : Int × Int) : Nat × Nat := (p.1.toNat, p.2.toNat)
def sortN (es : List (Nat × Nat)) : List (Nat × Nat) := (sortP (es.map castP)).map unP
theorem sortN_cast (es : List (Nat × Nat)) : (sortN es).map castP = sortP (es.map castP) := by
  unfold sortN
  rw [List.map_map]
  refine (List.map_congr_left fun p hp => ?_).trans (List.map_id _)
  have hm : p ∈ es.map castP := (isort_perm leP _).mem_iff.mp hp
  obtain ⟨q, _, rfl⟩ := List.mem_map.mp hm
  rfl
theorem sortN_perm (es : List (Nat × Nat)) : (sortN es).Perm es := by
  have h : (sortP (es.map castP)).Perm (es.map castP) := isort_perm leP _
  have h2 := h.map unP
  rw [List.map_map] at h2
  have e : List.map (unP ∘ castP) es = es := (List.map_congr_left fun p _ => rfl).trans (List.map_id _)
  rw [e] at h2
  exact h2
theorem sortN_sorted {es : List (Nat × Nat)} (h : es.Nodup) : (sortN es).Pairwise lexN := by
  have h1 : (sortP (es.map castP)).Pairwise fun x y => leP x y = true := isort_sorted (fun a b c h1 h2 => by rw [leP_iff] at *; omega) (fun a b => by rw [leP_iff, leP_iff]; omega) _
  rw [← sortN_cast, List.pairwise_map] at h1
  have h2 : (sortN es).Nodup := (sortN_perm es).nodup_iff.mpr h
  refine (h1.and h2).imp fun {a b} ⟨h3, h4⟩ => ?_
  rw [leP_iff] at h3
  obtain ⟨a1, a2⟩ := a
  obtain ⟨b1, b2⟩ := b
  have : ¬ (a1 = b1 ∧ a2 = b2) := fun ⟨x, y⟩ => h4 (by rw [x, y])
  simp only [castP] at h3
  simp only [lexN]
  omega
theorem dSort_pair (es : List (Nat × Nat)) : dSort [.list (es.map pairN)] = some (.list ((sortN es).map pairN)) := by
  have e : ∀ l : List (Nat × Nat), l.map pairN = (l.map castP).map pairD := fun l => by rw [List.map_map]; rfl
  cases es with
  | nil => rfl
  | cons p es =>
    have h1 : dInts ((p :: es).map pairN) = none := rfl
    have h2 : dPairs ((p :: es).map pairN) = some ((p :: es).map castP) := by rw [e]; exact dPairs_of _
    rw [e (sortN _), sortN_cast]
    unfold dSort
    simp only [h1, h2]
structure Half (n k : Nat) (es : List (Nat × Nat)) : Prop where
  nd : es.Nodup
  inn : ∀ e ∈ es, e.1 < e.2 ∧ e.2 < n
  few : es.length ≤ k
theorem Half.add {n k : Nat} {es : List (Nat × Nat)} (h : Half n k es) {a b : Nat} (h1 : a < b) (h2 : b < n) : Half n (k + 1) (addN es (a, b)) := by
  unfold addN
  by_cases hq : (a, b) ∈ es
  · rw [if_pos hq]; exact ⟨h.nd, h.inn, Nat.le_succ_of_le h.few⟩
  · rw [if_neg hq]
    refine ⟨List.nodup_append.mpr ⟨h.nd, by simp, fun x hx y hy e => ?_⟩, fun e he => ?_, by simp; exact h.few⟩
    · cases List.mem_singleton.mp hy; exact hq (e ▸ hx)
    · rcases List.mem_append.mp he with p | p
      · exact h.inn e p
      · cases List.mem_singleton.mp p; exact ⟨h1, h2⟩
theorem Half.more {n k l : Nat} {es : List (Nat × Nat)} (h : Half n k es) (hk : k ≤ l) : Half n l es := ⟨h.nd, h.inn, Nat.le_trans h.few hk⟩
theorem Half.ok {n k : Nat} {es : List (Nat × Nat)} (h : Half n k es) (h1 : 1 ≤ n) (h2 : n ≤ 10) (hk : k ≤ 100) : Web.Ok ⟨n, sortN es⟩ :=
  ⟨h1, h2, by rw [(sortN_perm es).length_eq]; exact Nat.le_trans h.few hk, sortN_sorted h.nd, fun e he => h.inn e ((sortN_perm es).mem_iff.mp he)⟩
theorem put_pair {es : List (Nat × Nat)} (h : es.length ≤ 100) (q : Nat × Nat) : dPutAt (.dict (kvsD es)) (pairN q) (.bool true) = some (.dict (kvsD (addN es q))) := by
  have hl : (kvsD es).length < sizeLine := by unfold kvsD sizeLine; rw [List.length_map]; omega
  unfold dPutAt
  have hk := keyFits_pair es q
  cases q with
  | mk a b =>
    show (if (kvsD es).length < sizeLine ∧ keyFits (kvsD es) (pairN (a, b)) = true then some (PyData.dict (dPutV (kvsD es) (pairN (a, b)) (.bool true))) else none) = _
    rw [if_pos ⟨hl, hk⟩, dPutV_pair]

set_option autoImplicit false
theorem kvsD_T (es : List (Nat × Nat)) : ((kvsD es).all fun p => (toKT p.1).isSome) = true := by simp [kvsD, toKT_pair]
theorem kvsD_keys (es : List (Nat × Nat)) : (kvsD es).map (·.1) = es.map pairN := by simp [kvsD]
theorem web_drawn {ns : List Int} {d : D} (h : RowOk ns d) {most : Int} (hm0 : 0 < most) (hm : most ≤ 10) : ∃ (w : Web) (d' : D), f__law_web [.own d, .fz (.int most)] = .ok (webD w) [d'] ∧ w.Ok ∧ (w.n : Int) ≤ most ∧ RowOk ns d' := by
  obtain ⟨u, d1, e1, u0, u1, r1⟩ := taken h (m := most) (by omega) (by omega)
  obtain ⟨way, d2, e2, y0, y1, r2⟩ := taken r1 (m := 5) (by omega) (by omega)
  obtain ⟨n, hn⟩ : ∃ n : Nat, 1 + u = n := ⟨(1 + u).toNat, by omega⟩
  have n1 : 1 ≤ n := by omega
  have n2 : (n : Int) ≤ most := by omega
  obtain ⟨r, b, e, w, d', er, eb, hs, hn', hr⟩ := W.fn (len := 8) (n := 2) (ios := [0]) (m := m__law_web) (ss := [.own d, .fz (.int most)]) (P := fun r b => ∃ w d', r = webD w ∧ b = [d'] ∧ w.Ok ∧ (w.n : Int) ≤ most ∧ RowOk ns d') rfl (by
    unfold m__law_web
    refine .seq (.nx (ρ' := [.own d2, .fz (.int most), .fz (.int n), .fz (.int way), .own (.dict (kvsD [])), .no, .no, .no]) (by simp [fnM, ownIx, backs, sRet, sSeq, sIf, sSet, sOwn, sDo, sNil, sAsg, Rs.sr, mOp2, Opd.ev, Opd.fin, at_, Sl.val, Rs.then, mLit, mVar, mB, mAnd, mOr, mNot, bAnd, bOr, bNot, mIf, bYes, mTup, mLst, evm, evo, fino, mFn, mCall, eva, sls, ioIx, putBack, Arg.opd, iSeq, iRng, fR1, fR2, sFor, tmName, tmTup, tmSeq, mApp, mExt, mPutAt, dPutAt, mIsi, dTy, isB, dEq, dNe, dLt, dLe, dGt, dGe, dIsN, dNotN, dAdd, dSub, dMod, dFdiv, dMul, dAt, dLen, dInt, dTuple, dList, mChain, sPar, setP, e1, e2, mDict0, hn, kvsD]) ?_)
    refine .seq (.rngl (lo := 1) (n := n - 1) (ρ0 := [.own d2, .fz (.int most), .fz (.int n), .fz (.int way), .own (.dict (kvsD [])), .no, .no, .no]) (fun k ρ => ∃ (d : D) (es : List (Nat × Nat)) (x : Sl), ρ = [.own d, .fz (.int most), .fz (.int n), .fz (.int way), .own (.dict (kvsD es)), x, .no, .no] ∧ RowOk ns d ∧ Half n k es) ?_ ?_ ?_ ?_)
    · have := iRng_ok (f := fR2) (os := [.ex (mLit (.int 1)), .sl 2]) (lo := 1) (hi := (n : Int)) (ρ := [.own d2, .fz (.int most), .fz (.int n), .fz (.int way), .own (.dict (kvsD [])), .no, .no, .no]) (ρ1 := [.own d2, .fz (.int most), .fz (.int n), .fz (.int way), .own (.dict (kvsD [])), .no, .no, .no]) (xs := [some (.int 1), none]) (ds := [.int 1, .int n]) (by simp [fnM, ownIx, backs, sRet, sSeq, sIf, sSet, sOwn, sDo, sNil, sAsg, Rs.sr, mOp2, Opd.ev, Opd.fin, at_, Sl.val, Rs.then, mLit, mVar, mB, mAnd, mOr, mNot, bAnd, bOr, bNot, mIf, bYes, mTup, mLst, evm, evo, fino, mFn, mCall, eva, sls, ioIx, putBack, Arg.opd, iSeq, iRng, fR1, fR2, sFor, tmName, tmTup, tmSeq, mApp, mExt, mPutAt, dPutAt, mIsi, dTy, isB, dEq, dNe, dLt, dLe, dGt, dGe, dIsN, dNotN, dAdd, dSub, dMod, dFdiv, dMul, dAt, dLen, dInt, dTuple, dList, mChain, sPar, setP]) (by simp [fnM, ownIx, backs, sRet, sSeq, sIf, sSet, sOwn, sDo, sNil, sAsg, Rs.sr, mOp2, Opd.ev, Opd.fin, at_, Sl.val, Rs.then, mLit, mVar, mB, mAnd, mOr, mNot, bAnd, bOr, bNot, mIf, bYes, mTup, mLst, evm, evo, fino, mFn, mCall, eva, sls, ioIx, putBack, Arg.opd, iSeq, iRng, fR1, fR2, sFor, tmName, tmTup, tmSeq, mApp, mExt, mPutAt, dPutAt, mIsi, dTy, isB, dEq, dNe, dLt, dLe, dGt, dGe, dIsN, dNotN, dAdd, dSub, dMod, dFdiv, dMul, dAt, dLen, dInt, dTuple, dList, mChain, sPar, setP]) rfl ⟨by omega, by omega, by omega, by omega⟩
      rw [show ((n : Int) - 1).toNat = n - 1 by omega] at this
      exact this
    · exact ⟨d2, [], _, rfl, r2, ⟨by simp, by simp, by simp⟩⟩
    · rintro k _ hk ⟨d, es, x, rfl, hr, hh⟩
      have hp : ∀ (a b : Nat) (x y : Int), x = a → y = b → dPutAt (.dict (kvsD es)) (.tuple [.int x, .int y]) (.bool true) = some (.dict (kvsD (addN es (a, b)))) := fun a b x y hx hy => by
        rw [hx, hy]; exact put_pair (es := es) (Nat.le_trans hh.few (by omega)) (a, b)
      have fin : ∀ (d : D) (a : Nat), RowOk ns d → a < k + 1 → ∃ (d' : D) (es' : List (Nat × Nat)) (x : Sl), ([.own d, .fz (.int most), .fz (.int n), .fz (.int way), .own (.dict (kvsD (addN es (a, k + 1)))), .fz (.int (1 + k)), .no, .no] : Env) = [.own d', .fz (.int most), .fz (.int n), .fz (.int way), .own (.dict (kvsD es')), x, .no, .no] ∧ RowOk ns d' ∧ Half n (k + 1) es' := fun d a h1 h2 => ⟨d, _, _, rfl, h1, hh.add h2 (by omega)⟩
      have key : ∀ d, RowOk ns d → W (sAsg (mLit (.bool true)) (mPutAt 4 (.ex (mTup [mIf (mB (mOp2 dLt (.sl 3) (.ex (mLit (.int 3))))) (mOp2 dSub (.sl 5) (.ex (mLit (.int 1)))) (mCall f__law_taken [.io 0, .v (mVar 5)]), mVar 5])))) [.own d, .fz (.int most), .fz (.int n), .fz (.int way), .own (.dict (kvsD es)), .fz (.int (1 + k)), .no, .no]
          (fun ρ => ∃ (d : D) (es : List (Nat × Nat)) (x : Sl), ρ = [.own d, .fz (.int most), .fz (.int n), .fz (.int way), .own (.dict (kvsD es)), x, .no, .no] ∧ RowOk ns d ∧ Half n (k + 1) es) fun d ρ => False := fun d hr => by
        by_cases hw : way < 3
        · exact .nx (by simp [fnM, ownIx, backs, sRet, sSeq, sIf, sSet, sOwn, sDo, sNil, sAsg, Rs.sr, mOp2, Opd.ev, Opd.fin, at_, Sl.val, Rs.then, mLit, mVar, mB, mAnd, mOr, mNot, bAnd, bOr, bNot, mIf, bYes, mTup, mLst, evm, evo, fino, mFn, mCall, eva, sls, ioIx, putBack, Arg.opd, iSeq, iRng, fR1, fR2, sFor, tmName, tmTup, tmSeq, mApp, mExt, mPutAt, mIsi, dTy, isB, dEq, dNe, dLt, dLe, dGt, dGe, dIsN, dNotN, dAdd, dSub, dMod, dFdiv, dMul, dAt, dLen, dInt, dTuple, dList, mChain, sPar, setP, hw, hp k (k + 1) (1 + k - 1) (1 + k) (by omega) (by omega)]) (fin d k hr (by omega))
        · obtain ⟨v, d', e, v0, v1, r⟩ := taken hr (m := 1 + k) (by omega) (by omega)
          exact .nx (by simp [fnM, ownIx, backs, sRet, sSeq, sIf, sSet, sOwn, sDo, sNil, sAsg, Rs.sr, mOp2, Opd.ev, Opd.fin, at_, Sl.val, Rs.then, mLit, mVar, mB, mAnd, mOr, mNot, bAnd, bOr, bNot, mIf, bYes, mTup, mLst, evm, evo, fino, mFn, mCall, eva, sls, ioIx, putBack, Arg.opd, iSeq, iRng, fR1, fR2, sFor, tmName, tmTup, tmSeq, mApp, mExt, mPutAt, mIsi, dTy, isB, dEq, dNe, dLt, dLe, dGt, dGe, dIsN, dNotN, dAdd, dSub, dMod, dFdiv, dMul, dAt, dLen, dInt, dTuple, dList, mChain, sPar, setP, hw, e, hp v.toNat (k + 1) v (1 + k) (by omega) (by omega)]) (fin d' v.toNat r (by omega))
      by_cases hy : 0 < way
      · exact .ite (x := true) (ρ1 := [.own d, .fz (.int most), .fz (.int n), .fz (.int way), .own (.dict (kvsD es)), .fz (.int (1 + k)), .no, .no]) (by simp [fnM, ownIx, backs, sRet, sSeq, sIf, sSet, sOwn, sDo, sNil, sAsg, Rs.sr, mOp2, Opd.ev, Opd.fin, at_, Sl.val, Rs.then, mLit, mVar, mB, mAnd, mOr, mNot, bAnd, bOr, bNot, mIf, bYes, mTup, mLst, evm, evo, fino, mFn, mCall, eva, sls, ioIx, putBack, Arg.opd, iSeq, iRng, fR1, fR2, sFor, tmName, tmTup, tmSeq, mApp, mExt, mPutAt, mIsi, dTy, isB, dEq, dNe, dLt, dLe, dGt, dGe, dIsN, dNotN, dAdd, dSub, dMod, dFdiv, dMul, dAt, dLen, dInt, dTuple, dList, mChain, sPar, setP, hy]) ((key d hr).imp (fun _ h => h) fun _ _ h => h.elim)
      · obtain ⟨v, d', e, v0, v1, r⟩ := taken hr (m := 3) (by omega) (by omega)
        by_cases hv : 0 < v
        · exact .ite (x := true) (ρ1 := [.own d', .fz (.int most), .fz (.int n), .fz (.int way), .own (.dict (kvsD es)), .fz (.int (1 + k)), .no, .no]) (by simp [fnM, ownIx, backs, sRet, sSeq, sIf, sSet, sOwn, sDo, sNil, sAsg, Rs.sr, mOp2, Opd.ev, Opd.fin, at_, Sl.val, Rs.then, mLit, mVar, mB, mAnd, mOr, mNot, bAnd, bOr, bNot, mIf, bYes, mTup, mLst, evm, evo, fino, mFn, mCall, eva, sls, ioIx, putBack, Arg.opd, iSeq, iRng, fR1, fR2, sFor, tmName, tmTup, tmSeq, mApp, mExt, mPutAt, mIsi, dTy, isB, dEq, dNe, dLt, dLe, dGt, dGe, dIsN, dNotN, dAdd, dSub, dMod, dFdiv, dMul, dAt, dLen, dInt, dTuple, dList, mChain, sPar, setP, hy, e, hv]) ((key d' r).imp (fun _ h => h) fun _ _ h => h.elim)
        · exact .ite (x := false) (ρ1 := [.own d', .fz (.int most), .fz (.int n), .fz (.int way), .own (.dict (kvsD es)), .fz (.int (1 + k)), .no, .no]) (by simp [fnM, ownIx, backs, sRet, sSeq, sIf, sSet, sOwn, sDo, sNil, sAsg, Rs.sr, mOp2, Opd.ev, Opd.fin, at_, Sl.val, Rs.then, mLit, mVar, mB, mAnd, mOr, mNot, bAnd, bOr, bNot, mIf, bYes, mTup, mLst, evm, evo, fino, mFn, mCall, eva, sls, ioIx, putBack, Arg.opd, iSeq, iRng, fR1, fR2, sFor, tmName, tmTup, tmSeq, mApp, mExt, mPutAt, mIsi, dTy, isB, dEq, dNe, dLt, dLe, dGt, dGe, dIsN, dNotN, dAdd, dSub, dMod, dFdiv, dMul, dAt, dLen, dInt, dTuple, dList, mChain, sPar, setP, hy, e, hv]) (.nx rfl ⟨d', es, _, rfl, r, hh.more (by omega)⟩)
    · rintro _ ⟨d3, es, x, rfl, r3, h3⟩
      have hp : dPutAt (.dict (kvsD es)) (.tuple [.int 0, .int ((n : Int) - 1)]) (.bool true) = some (.dict (kvsD (addN es (0, n - 1)))) := by
        have := put_pair (es := es) (Nat.le_trans h3.few (by omega)) (0, n - 1)
        rw [← this]
        unfold pairN
        rw [show (((0, n - 1) : Nat × Nat).2 : Int) = (n : Int) - 1 by show ((n - 1 : Nat) : Int) = _; omega]
        rfl
      refine .seq (W.imp (N := fun ρ => ∃ (d : D) (es : List (Nat × Nat)) (x y : Sl), ρ = [.own d, .fz (.int most), .fz (.int n), .fz (.int way), .own (.dict (kvsD es)), x, y, .no] ∧ RowOk ns d ∧ Half n n es) (R := fun _ _ => False) ?_ ?_ fun _ _ h => h.elim)
      · have st : ∀ (d : D) (es' : List (Nat × Nat)), RowOk ns d → Half n n es' → ∃ (d' : D) (es : List (Nat × Nat)) (x' y : Sl), ([.own d, .fz (.int most), .fz (.int n), .fz (.int way), .own (.dict (kvsD es')), x, .no, .no] : Env) = [.own d', .fz (.int most), .fz (.int n), .fz (.int way), .own (.dict (kvsD es)), x', y, .no] ∧ RowOk ns d' ∧ Half n n es := fun d es' h1 h2 => ⟨d, es', x, .no, rfl, h1, h2⟩
        by_cases hc : (way = 1 ∨ way = 2) ∧ 2 < n
        · obtain ⟨hc1, hc2⟩ := hc
          have hc3 : (2 : Int) < n := by omega
          refine .ite (x := true) (ρ1 := [.own d3, .fz (.int most), .fz (.int n), .fz (.int way), .own (.dict (kvsD es)), x, .no, .no]) ?_ (.nx (by simp [fnM, ownIx, backs, sRet, sSeq, sIf, sSet, sOwn, sDo, sNil, sAsg, Rs.sr, mOp2, Opd.ev, Opd.fin, at_, Sl.val, Rs.then, mLit, mVar, mB, mAnd, mOr, mNot, bAnd, bOr, bNot, mIf, bYes, mTup, mLst, evm, evo, fino, mFn, mCall, eva, sls, ioIx, putBack, Arg.opd, iSeq, iRng, fR1, fR2, sFor, tmName, tmTup, tmSeq, mApp, mExt, mPutAt, mIsi, dTy, isB, dEq, dNe, dLt, dLe, dGt, dGe, dIsN, dNotN, dAdd, dSub, dMod, dFdiv, dMul, dAt, dLen, dInt, dTuple, dList, mChain, sPar, setP, hp]) (st d3 _ r3 ((h3.add (a := 0) (b := n - 1) (by omega) (by omega)).more (by omega))))
          rcases hc1 with rfl | rfl <;> simp [fnM, ownIx, backs, sRet, sSeq, sIf, sSet, sOwn, sDo, sNil, sAsg, Rs.sr, mOp2, Opd.ev, Opd.fin, at_, Sl.val, Rs.then, mLit, mVar, mB, mAnd, mOr, mNot, bAnd, bOr, bNot, mIf, bYes, mTup, mLst, evm, evo, fino, mFn, mCall, eva, sls, ioIx, putBack, Arg.opd, iSeq, iRng, fR1, fR2, sFor, tmName, tmTup, tmSeq, mApp, mExt, mPutAt, mIsi, dTy, isB, dEq, dNe, dLt, dLe, dGt, dGe, dIsN, dNotN, dAdd, dSub, dMod, dFdiv, dMul, dAt, dLen, dInt, dTuple, dList, mChain, sPar, setP, dIn, dHas, inAny, okD, SeqAt.shaped, PyData.canLay0, PyData.canLayAll0, PyData.depth, PyData.depthAll, PyData.eqv, hc2, hc3]
        · refine .ite (x := false) (ρ1 := [.own d3, .fz (.int most), .fz (.int n), .fz (.int way), .own (.dict (kvsD es)), x, .no, .no]) ?_ (.nx rfl (st d3 _ r3 (h3.more (by omega))))
          by_cases hc1 : way = 1 ∨ way = 2
          · have hc3 : ¬ (2 : Int) < n := by omega
            rcases hc1 with rfl | rfl <;> simp [fnM, ownIx, backs, sRet, sSeq, sIf, sSet, sOwn, sDo, sNil, sAsg, Rs.sr, mOp2, Opd.ev, Opd.fin, at_, Sl.val, Rs.then, mLit, mVar, mB, mAnd, mOr, mNot, bAnd, bOr, bNot, mIf, bYes, mTup, mLst, evm, evo, fino, mFn, mCall, eva, sls, ioIx, putBack, Arg.opd, iSeq, iRng, fR1, fR2, sFor, tmName, tmTup, tmSeq, mApp, mExt, mPutAt, mIsi, dTy, isB, dEq, dNe, dLt, dLe, dGt, dGe, dIsN, dNotN, dAdd, dSub, dMod, dFdiv, dMul, dAt, dLen, dInt, dTuple, dList, mChain, sPar, setP, dIn, dHas, inAny, okD, SeqAt.shaped, PyData.canLay0, PyData.canLayAll0, PyData.depth, PyData.depthAll, PyData.eqv, hc3]
          · have hc2 : ¬ 1 = way := by omega
            have hc3 : ¬ 2 = way := by omega
            simp [fnM, ownIx, backs, sRet, sSeq, sIf, sSet, sOwn, sDo, sNil, sAsg, Rs.sr, mOp2, Opd.ev, Opd.fin, at_, Sl.val, Rs.then, mLit, mVar, mB, mAnd, mOr, mNot, bAnd, bOr, bNot, mIf, bYes, mTup, mLst, evm, evo, fino, mFn, mCall, eva, sls, ioIx, putBack, Arg.opd, iSeq, iRng, fR1, fR2, sFor, tmName, tmTup, tmSeq, mApp, mExt, mPutAt, mIsi, dTy, isB, dEq, dNe, dLt, dLe, dGt, dGe, dIsN, dNotN, dAdd, dSub, dMod, dFdiv, dMul, dAt, dLen, dInt, dTuple, dList, mChain, sPar, setP, dIn, dHas, inAny, okD, SeqAt.shaped, PyData.canLay0, PyData.canLayAll0, PyData.depth, PyData.depthAll, PyData.eqv, hc2, hc3]
      · rintro _ ⟨d4, es, x, y, rfl, r4, h4⟩
        obtain ⟨c, d5, hit, r5, hc⟩ : ∃ (c : Nat) (d5 : D), iRng fR1 [.ex (mIf (mB (mOp2 dNe (.sl 3) (.ex (mLit (.int 1))))) (mCall f__law_taken [.io 0, .v (mVar 2)]) (mLit (.int 0)))] [.own d4, .fz (.int most), .fz (.int n), .fz (.int way), .own (.dict (kvsD es)), x, y, .no] = .ok (up 0 c) [.own d5, .fz (.int most), .fz (.int n), .fz (.int way), .own (.dict (kvsD es)), x, y, .no] ∧ RowOk ns d5 ∧ c ≤ n := by
          by_cases hw : way = 1
          · refine ⟨0, d4, iRng_nat (xs := [some (.int 0)]) ?_ rfl (by omega), r4, by omega⟩
            simp [fnM, ownIx, backs, sRet, sSeq, sIf, sSet, sOwn, sDo, sNil, sAsg, Rs.sr, mOp2, Opd.ev, Opd.fin, at_, Sl.val, Rs.then, mLit, mVar, mB, mAnd, mOr, mNot, bAnd, bOr, bNot, mIf, bYes, mTup, mLst, evm, evo, fino, mFn, mCall, eva, sls, ioIx, putBack, Arg.opd, iSeq, iRng, fR1, fR2, sFor, tmName, tmTup, tmSeq, mApp, mExt, mPutAt, mIsi, dTy, isB, dEq, dNe, dLt, dLe, dGt, dGe, dIsN, dNotN, dAdd, dSub, dMod, dFdiv, dMul, dAt, dLen, dInt, dTuple, dList, mChain, sPar, setP, hw, okD, SeqAt.shaped, PyData.canLay0, PyData.depth, PyData.eqv]
          · obtain ⟨v, d', e, v0, v1, r⟩ := taken r4 (m := n) (by omega) (by omega)
            have hv : v = (v.toNat : Int) := by omega
            refine ⟨v.toNat, d', iRng_nat (xs := [some (.int v)]) ?_ (by rw [← hv]; rfl) (by omega), r, by omega⟩
            simp [fnM, ownIx, backs, sRet, sSeq, sIf, sSet, sOwn, sDo, sNil, sAsg, Rs.sr, mOp2, Opd.ev, Opd.fin, at_, Sl.val, Rs.then, mLit, mVar, mB, mAnd, mOr, mNot, bAnd, bOr, bNot, mIf, bYes, mTup, mLst, evm, evo, fino, mFn, mCall, eva, sls, ioIx, putBack, Arg.opd, iSeq, iRng, fR1, fR2, sFor, tmName, tmTup, tmSeq, mApp, mExt, mPutAt, mIsi, dTy, isB, dEq, dNe, dLt, dLe, dGt, dGe, dIsN, dNotN, dAdd, dSub, dMod, dFdiv, dMul, dAt, dLen, dInt, dTuple, dList, mChain, sPar, setP, hw, e, okD, SeqAt.shaped, PyData.canLay0, PyData.depth, PyData.eqv]
        refine .seq (.rng (n := c) (fun k ρ => ∃ (d : D) (es : List (Nat × Nat)) (x y z : Sl), ρ = [.own d, .fz (.int most), .fz (.int n), .fz (.int way), .own (.dict (kvsD es)), x, y, z] ∧ RowOk ns d ∧ Half n (n + k) es) hit ⟨d5, es, x, y, _, rfl, r5, h4⟩ ?_ ?_)
        · rintro k _ hk ⟨d, es, x, y, z, rfl, r, hh⟩
          obtain ⟨a', e1, g1, a0, a1, q1⟩ := taken r (m := n) (by omega) (by omega)
          obtain ⟨b', e2, g2, b0, b1, q2⟩ := taken q1 (m := n) (by omega) (by omega)
          refine .seq (.nx (ρ' := [.own e2, .fz (.int most), .fz (.int n), .fz (.int way), .own (.dict (kvsD es)), .fz (.int a'), .fz (.int k), .fz (.int b')]) (by simp [fnM, ownIx, backs, sRet, sSeq, sIf, sSet, sOwn, sDo, sNil, sAsg, Rs.sr, mOp2, Opd.ev, Opd.fin, at_, Sl.val, Rs.then, mLit, mVar, mB, mAnd, mOr, mNot, bAnd, bOr, bNot, mIf, bYes, mTup, mLst, evm, evo, fino, mFn, mCall, eva, sls, ioIx, putBack, Arg.opd, iSeq, iRng, fR1, fR2, sFor, tmName, tmTup, tmSeq, mApp, mExt, mPutAt, mIsi, dTy, isB, dEq, dNe, dLt, dLe, dGt, dGe, dIsN, dNotN, dAdd, dSub, dMod, dFdiv, dMul, dAt, dLen, dInt, dTuple, dList, mChain, sPar, setP, g1, g2]) ?_)
          have fin : ∀ es' : List (Nat × Nat), Half n (n + (k + 1)) es' → ∃ (d : D) (es : List (Nat × Nat)) (x y z : Sl), ([.own e2, .fz (.int most), .fz (.int n), .fz (.int way), .own (.dict (kvsD es')), .fz (.int a'), .fz (.int k), .fz (.int b')] : Env) = [.own d, .fz (.int most), .fz (.int n), .fz (.int way), .own (.dict (kvsD es)), x, y, z] ∧ RowOk ns d ∧ Half n (n + (k + 1)) es := fun es' h => ⟨e2, es', _, _, _, rfl, q2, h⟩
          by_cases hab : a' = b'
          · refine .ite (x := false) (ρ1 := [.own e2, .fz (.int most), .fz (.int n), .fz (.int way), .own (.dict (kvsD es)), .fz (.int a'), .fz (.int k), .fz (.int b')]) ?_ (.nx rfl (fin es (hh.more (by omega))))
            simp [fnM, ownIx, backs, sRet, sSeq, sIf, sSet, sOwn, sDo, sNil, sAsg, Rs.sr, mOp2, Opd.ev, Opd.fin, at_, Sl.val, Rs.then, mLit, mVar, mB, mAnd, mOr, mNot, bAnd, bOr, bNot, mIf, bYes, mTup, mLst, evm, evo, fino, mFn, mCall, eva, sls, ioIx, putBack, Arg.opd, iSeq, iRng, fR1, fR2, sFor, tmName, tmTup, tmSeq, mApp, mExt, mPutAt, mIsi, dTy, isB, dEq, dNe, dLt, dLe, dGt, dGe, dIsN, dNotN, dAdd, dSub, dMod, dFdiv, dMul, dAt, dLen, dInt, dTuple, dList, mChain, sPar, setP, okD, SeqAt.shaped, PyData.canLay0, PyData.depth, PyData.eqv, hab]
          · refine .ite (x := true) (ρ1 := [.own e2, .fz (.int most), .fz (.int n), .fz (.int way), .own (.dict (kvsD es)), .fz (.int a'), .fz (.int k), .fz (.int b')]) ?_ (.nx ?_ (fin (addN es ((min a' b').toNat, (max a' b').toNat)) (hh.add (by omega) (by omega))))
            · simp [fnM, ownIx, backs, sRet, sSeq, sIf, sSet, sOwn, sDo, sNil, sAsg, Rs.sr, mOp2, Opd.ev, Opd.fin, at_, Sl.val, Rs.then, mLit, mVar, mB, mAnd, mOr, mNot, bAnd, bOr, bNot, mIf, bYes, mTup, mLst, evm, evo, fino, mFn, mCall, eva, sls, ioIx, putBack, Arg.opd, iSeq, iRng, fR1, fR2, sFor, tmName, tmTup, tmSeq, mApp, mExt, mPutAt, mIsi, dTy, isB, dEq, dNe, dLt, dLe, dGt, dGe, dIsN, dNotN, dAdd, dSub, dMod, dFdiv, dMul, dAt, dLen, dInt, dTuple, dList, mChain, sPar, setP, okD, SeqAt.shaped, PyData.canLay0, PyData.depth, PyData.eqv, hab]
            · have hp : ∀ x y : Int, x = min a' b' → y = max a' b' → dPutAt (.dict (kvsD es)) (.tuple [.int x, .int y]) (.bool true) = some (.dict (kvsD (addN es ((min a' b').toNat, (max a' b').toNat)))) := fun x y hx hy => by
                rw [← put_pair (es := es) (Nat.le_trans hh.few (by omega)), show x = ((min a' b').toNat : Int) by omega, show y = ((max a' b').toNat : Int) by omega]
                rfl
              rcases Int.lt_or_gt_of_ne hab with l | l
              · have l1 : ¬ b' < a' := by omega
                simp [fnM, ownIx, backs, sRet, sSeq, sIf, sSet, sOwn, sDo, sNil, sAsg, Rs.sr, mOp2, Opd.ev, Opd.fin, at_, Sl.val, Rs.then, mLit, mVar, mB, mAnd, mOr, mNot, bAnd, bOr, bNot, mIf, bYes, mTup, mLst, evm, evo, fino, mFn, mCall, eva, sls, ioIx, putBack, Arg.opd, iSeq, iRng, fR1, fR2, sFor, tmName, tmTup, tmSeq, mApp, mExt, mPutAt, mIsi, dTy, isB, dEq, dNe, dLt, dLe, dGt, dGe, dIsN, dNotN, dAdd, dSub, dMod, dFdiv, dMul, dAt, dLen, dInt, dTuple, dList, mChain, sPar, setP, dMin2, dMax2, l, l1, hp a' b' (by omega) (by omega)]
              · have l1 : ¬ a' < b' := by omega
                have l2 : b' < a' := l
                simp [fnM, ownIx, backs, sRet, sSeq, sIf, sSet, sOwn, sDo, sNil, sAsg, Rs.sr, mOp2, Opd.ev, Opd.fin, at_, Sl.val, Rs.then, mLit, mVar, mB, mAnd, mOr, mNot, bAnd, bOr, bNot, mIf, bYes, mTup, mLst, evm, evo, fino, mFn, mCall, eva, sls, ioIx, putBack, Arg.opd, iSeq, iRng, fR1, fR2, sFor, tmName, tmTup, tmSeq, mApp, mExt, mPutAt, mIsi, dTy, isB, dEq, dNe, dLt, dLe, dGt, dGe, dIsN, dNotN, dAdd, dSub, dMod, dFdiv, dMul, dAt, dLen, dInt, dTuple, dList, mChain, sPar, setP, dMin2, dMax2, l1, l2, hp b' a' (by omega) (by omega)]
        · rintro _ ⟨d6, es, x, y, z, rfl, r6, h6⟩
          exact .rt (d := webD ⟨n, sortN es⟩) (ρ' := [.own d6, .fz (.int most), .fz (.int n), .fz (.int way), .own (.dict (kvsD es)), x, y, z]) (by simp [fnM, ownIx, backs, sRet, sSeq, sIf, sSet, sOwn, sDo, sNil, sAsg, Rs.sr, mOp2, Opd.ev, Opd.fin, at_, Sl.val, Rs.then, mLit, mVar, mB, mAnd, mOr, mNot, bAnd, bOr, bNot, mIf, bYes, mTup, mLst, evm, evo, fino, mFn, mCall, eva, sls, ioIx, putBack, Arg.opd, iSeq, iRng, fR1, fR2, sFor, tmName, tmTup, tmSeq, mApp, mExt, mPutAt, dPutAt, mIsi, dTy, isB, dEq, dNe, dLt, dLe, dGt, dGe, dIsN, dNotN, dAdd, dSub, dMod, dFdiv, dMul, dAt, dLen, dInt, dTuple, dList, mChain, sPar, setP, mKeys, kvsD_T, kvsD_keys, dSort_pair, webD]) ⟨[d6], rfl, ⟨n, sortN es⟩, d6, rfl, rfl, h6.ok n1 (by omega) (by omega), n2, r6⟩)
  exact ⟨w, d', by rw [← er, ← eb]; exact e, hs, hn', hr⟩

set_option autoImplicit false
theorem depthAll_le {α : Type} {f : α → D} {k : Nat} (h : ∀ x, (f x).depth ≤ k) : ∀ l : List α, PyData.depthAll (l.map f) ≤ k
  | [] => Nat.zero_le _
  | x :: l => by
    show max _ _ ≤ k
    have h1 := h x
    have h2 := depthAll_le h l
    omega
theorem canAll_map {α : Type} {f : α → D} (h : ∀ x, (f x).canLay0 = true) : ∀ l : List α, PyData.canLayAll0 (l.map f) = true
  | [] => by simp [PyData.canLayAll0]
  | x :: l => by
    simp only [List.map_cons, PyData.canLayAll0, h x, canAll_map h l, Bool.and_self]
/-- laid, no deeper than k -/
structure Shp (k : Nat) (d : D) : Prop where
  can : d.canLay0 = true
  dep : d.depth ≤ k
theorem Shp.ok {k : Nat} {d : D} (h : Shp k d) (hk : k ≤ 64 := by decide) : okD d = true := by
  unfold okD SeqAt.shaped
  rw [h.can, Bool.true_and, decide_eq_true_iff]
  exact Nat.le_trans h.dep hk
theorem Shp.int (i : Int) : Shp 0 (.int i) := ⟨by simp [PyData.canLay0], by simp [PyData.depth]⟩
theorem Shp.bool (b : Bool) : Shp 0 (.bool b) := ⟨by simp [PyData.canLay0], by simp [PyData.depth]⟩
theorem Shp.list {α : Type} {f : α → D} {k : Nat} (h : ∀ x, Shp k (f x)) (l : List α) : Shp (k + 1) (.list (l.map f)) := ⟨by simp only [PyData.canLay0]; exact canAll_map (fun x => (h x).can) l, by
  have := depthAll_le (fun x => (h x).dep) l
  simp only [PyData.depth]; omega⟩
theorem Shp.tup {α : Type} {f : α → D} {k : Nat} (h : ∀ x, Shp k (f x)) (l : List α) : Shp (k + 1) (.tuple (l.map f)) := ⟨by simp only [PyData.canLay0]; exact canAll_map (fun x => (h x).can) l, by
  have := depthAll_le (fun x => (h x).dep) l
  simp only [PyData.depth]; omega⟩
theorem Shp.pair (p : Nat × Nat) : Shp 1 (pairN p) := Shp.tup (f := PyData.int) (k := 0) Shp.int [(p.1 : Int), (p.2 : Int)]
theorem okI (i : Int) : okD (.int i) = true := (Shp.int i).ok
theorem okB (b : Bool) : okD (.bool b) = true := (Shp.bool b).ok
theorem okPair (p : Nat × Nat) : okD (pairN p) = true := (Shp.pair p).ok
theorem okPairs (es : List (Nat × Nat)) : okD (.tuple (es.map pairN)) = true := (Shp.tup Shp.pair es).ok
theorem okInts (l : List Int) : okD (.list (l.map PyData.int)) = true := (Shp.list Shp.int l).ok
theorem okIntsT (l : List Int) : okD (.tuple (l.map PyData.int)) = true := (Shp.tup Shp.int l).ok
theorem eqv_int (i j : Int) : PyData.eqv (.int i) (.int j) = decide (i = j) := by simp only [PyData.eqv]; rfl
theorem eqvAll_map {α : Type} [DecidableEq α] {f : α → D} (h : ∀ x y, PyData.eqv (f x) (f y) = decide (x = y)) : ∀ l m : List α, PyData.eqvAll (l.map f) (m.map f) = decide (l = m)
  | [], [] => by simp [PyData.eqvAll]
  | x :: l, [] => by simp [PyData.eqvAll]
  | [], x :: l => by simp [PyData.eqvAll]
  | x :: l, y :: m => by
    simp only [List.map_cons, PyData.eqvAll, h x y, eqvAll_map h l m]
    rw [← Bool.decide_and]
    exact decide_eq_decide.mpr (by simp)
theorem eqv_ints (l m : List Int) : PyData.eqv (.list (l.map PyData.int)) (.list (m.map PyData.int)) = decide (l = m) := by simp only [PyData.eqv]; exact eqvAll_map eqv_int l m
theorem eqv_intsT (l m : List Int) : PyData.eqv (.tuple (l.map PyData.int)) (.tuple (m.map PyData.int)) = decide (l = m) := by simp only [PyData.eqv]; exact eqvAll_map eqv_int l m
theorem eqv_pair (p q : Nat × Nat) : PyData.eqv (pairN p) (pairN q) = decide (p = q) := by
  have := eqv_intsT [(p.1 : Int), (p.2 : Int)] [(q.1 : Int), (q.2 : Int)]
  refine this.trans (decide_eq_decide.mpr ?_)
  obtain ⟨a, b⟩ := p
  obtain ⟨c, d⟩ := q
  simp
  omega
theorem inAny_map {α : Type} [DecidableEq α] {f : α → D} (h : ∀ x y, PyData.eqv (f x) (f y) = decide (x = y)) (l : List α) (x : α) : inAny (l.map f) (f x) = decide (x ∈ l) := by
  unfold inAny
  rw [Bool.eq_iff_iff]
  simp [h]
def natD (i : Nat) : D := .int i
theorem up_range (n : Nat) : up 0 n = (List.range n).map natD := by
  refine List.ext_getElem? fun i => ?_
  by_cases h : i < n
  · have h1 : i < (up 0 n).length := by rw [up_len]; exact h
    obtain ⟨_, h3⟩ := up_get n 0 i _ (List.getElem?_eq_getElem h1)
    rw [List.getElem?_eq_getElem h1, h3]
    simp [h, natD]
  · rw [List.getElem?_eq_none (by rw [up_len]; omega), List.getElem?_eq_none (by simp; omega)]
theorem compM_of {α : Type} {f : α → D} {i : Nat} {cd : MB} {elt : ME} {p : α → Bool} {g : α → D} {ρ : Env} (hi : ρ[i]? = some .no) : ∀ (ds : List α) (acc : List D), (∀ d ∈ ds, cd (ρ.set i (.fz (f d))) = .ok (p d) (ρ.set i (.fz (f d)))) → (∀ d ∈ ds, p d = true → elt (ρ.set i (.fz (f d))) = .ok (g d) (ρ.set i (.fz (f d)))) →
    compM (tmName i) cd elt [i] (ds.map f) acc ρ = .ok (acc ++ (ds.filter p).map g) ρ
  | [], acc, _, _ => by simp [compM]
  | d :: ds, acc, hc, he => by
    have h1 := hc d List.mem_cons_self
    have ih := fun acc' => compM_of hi ds acc' (fun x hx => hc x (List.mem_cons_of_mem _ hx)) fun x hx => he x (List.mem_cons_of_mem _ hx)
    have ew : wipeE (ρ.set i (.fz (f d))) [i] = ρ := by
      show (wipeE (ρ.set i (.fz (f d))) []).set i .no = ρ
      exact set_set hi
    have e0 : compM (tmName i) cd elt [i] ((d :: ds).map f) acc ρ = (cd (ρ.set i (.fz (f d)))).then fun b ρ2 => if b = true then (elt ρ2).then fun y ρ3 => compM (tmName i) cd elt [i] (ds.map f) (acc ++ [y]) (wipeE ρ3 [i]) else compM (tmName i) cd elt [i] (ds.map f) acc (wipeE ρ2 [i]) := rfl
    rw [e0, h1]
    cases hp : p d with
    | false =>
      show compM (tmName i) cd elt [i] (ds.map f) acc (wipeE (ρ.set i (.fz (f d))) [i]) = _
      rw [ew, ih acc, List.filter_cons_of_neg (by rw [hp]; decide)]
    | true =>
      have h2 := he d List.mem_cons_self hp
      show ((elt (ρ.set i (.fz (f d)))).then fun y ρ3 => compM (tmName i) cd elt [i] (ds.map f) (acc ++ [y]) (wipeE ρ3 [i])) = _
      rw [h2]
      show compM (tmName i) cd elt [i] (ds.map f) (acc ++ [g d]) (wipeE (ρ.set i (.fz (f d))) [i]) = _
      rw [ew, ih, List.filter_cons_of_pos hp, List.map_cons, List.append_assoc]
      rfl
theorem mComp_of {α : Type} {f : α → D} {i : Nat} {it : MI} {cd : MB} {elt : ME} (p : α → Bool) (g : α → D) {ρ ρ1 : Env} {ds : List α} (hit : it ρ = .ok (ds.map f) ρ1) (hf : Free ρ1 i) (hc : ∀ d ∈ ds, cd (ρ1.set i (.fz (f d))) = .ok (p d) (ρ1.set i (.fz (f d))))
    (he : ∀ d ∈ ds, p d = true → elt (ρ1.set i (.fz (f d))) = .ok (g d) (ρ1.set i (.fz (f d)))) (hz : ds.length ≤ 1000000 := by omega) : mComp it (tmName i) cd elt [i] ρ = .ok (.list ((ds.filter p).map g)) ρ1 := by
  obtain ⟨s, hs, hn⟩ := hf
  obtain ⟨hl, hg⟩ := List.getElem?_eq_some_iff.mp hs
  have hw : wipeE ρ1 [i] = ρ1.set i .no := rfl
  have hi : (ρ1.set i .no)[i]? = some .no := List.getElem?_set_self hl
  have z := compM_of (f := f) (cd := cd) (elt := elt) (p := p) (g := g) hi ds [] (fun d hd => by rw [List.set_set]; exact hc d hd) fun d hd hp => by rw [List.set_set]; exact he d hd hp
  unfold mComp
  rw [hit]
  show (if (ds.map f).length ≤ sizeLine then _ else _) = _
  rw [if_pos (by rw [List.length_map]; unfold sizeLine; omega), hw, z]
  show Rs.ok _ (unwipe ρ1 (ρ1.set i .no) [i]) = _
  have hu : unwipe ρ1 (ρ1.set i .no) [i] = ρ1 := by
    show (unwipe ρ1 (ρ1.set i .no) []).set i (Sl.keep ρ1[i]?) = ρ1
    show (ρ1.set i .no).set i (Sl.keep ρ1[i]?) = ρ1
    rw [List.set_set, hs]
    have hk : Sl.keep (some s) = s := by
      cases s with
      | no => rfl
      | fz d => rfl
      | own d => exact (hn d rfl).elim
    rw [hk, ← hg]
    exact List.set_getElem_self hl
  rw [hu]
  rfl

set_option autoImplicit false
def Web.adj (w : Web) (i j : Nat) : Bool := decide ((min i j, max i j) ∈ w.es)
def Web.nbr (w : Web) (i : Nat) : List Nat := (List.range w.n).filter (w.adj i)
def nearD (w : Web) : D := .list ((List.range w.n).map fun i => .list ((w.nbr i).map natD))
theorem fn_rt {len n : Nat} {ios : List Nat} {m : SM} {ss : List Sl} {d : D} {ρ : Env} {b : List D} (h : ownIx 0 ss = ios) (e : m (ss ++ List.replicate (len - n) .no) = .rt d ρ) (hb : backs ios ρ = some b) : fnM len n ios m ss = .ok d b := by
  unfold fnM
  rw [if_pos h, e]
  simp [hb]
/-- the same, by steps -/
theorem W.fn0 {len n : Nat} {m : SM} {ss : List Sl} {d : D} (h : ownIx 0 ss = []) (w : W m (ss ++ List.replicate (len - n) .no) (fun _ => d = .none) fun d' _ => d' = d) : fnM len n [] m ss = .ok d [] := by
  obtain ⟨d', b, e, rfl, rfl⟩ := W.fn (P := fun d' b => d' = d ∧ b = []) h (w.imp (fun ρ h => ⟨[], rfl, h.symm, rfl⟩) fun d ρ h => ⟨[], rfl, h, rfl⟩)
  exact e
/-- the same, with a law -/
theorem W.fnP {len n : Nat} {m : SM} {ss : List Sl} {P : D → Prop} (h : ownIx 0 ss = []) (w : W m (ss ++ List.replicate (len - n) .no) (fun _ => P .none) fun d _ => P d) : ∃ d, fnM len n [] m ss = .ok d [] ∧ P d := by
  obtain ⟨d, b, e, p, rfl⟩ := W.fn (P := fun d b => P d ∧ b = []) h (w.imp (fun ρ h => ⟨[], rfl, h, rfl⟩) fun d ρ h => ⟨[], rfl, h, rfl⟩)
  exact ⟨d, e, p⟩
theorem Free.no {ρ : Env} {i : Nat} (h : ρ[i]? = some .no) : Free ρ i := ⟨_, h, fun _ e => nomatch e⟩
theorem sDo_app {i : Nat} {m : ME} {ρ ρ' : Env} {d : D} {ds0 ds : List D} (h0 : ρ[i]? = some (.own (.list ds0))) (h1 : m ρ = .ok d ρ') (h2 : ρ'[i]? = some (.own (.list ds))) (hz : ds.length < sizeLine) : sDo (mApp i m) ρ = .nx (ρ'.set i (.own (.list (ds ++ [d])))) := by
  unfold sDo mApp
  rw [h0]
  simp only [h1, Rs.then]
  rw [h2]
  simp only [if_pos hz]
  rfl
theorem W.app {i : Nat} {m : ME} {ρ ρ' : Env} {d : D} {ds0 ds : List D} {N : Env → Prop} {R : D → Env → Prop} (h0 : ρ[i]? = some (.own (.list ds0))) (h1 : m ρ = .ok d ρ') (h2 : ρ'[i]? = some (.own (.list ds))) (hz : ds.length < 1000000) (h : N (ρ'.set i (.own (.list (ds ++ [d]))))) : W (sDo (mApp i m)) ρ N R :=
  .nx (sDo_app h0 h1 h2 (by unfold sizeLine; omega)) h
theorem W.own {i : Nat} {m : ME} {ρ ρ' : Env} {d : D} {N : Env → Prop} {R : D → Env → Prop} (e : m ρ = .ok d ρ') (h : N (ρ'.set i (.own d))) : W (sOwn i m) ρ N R := .nx (by unfold sOwn; rw [e]; rfl) h
theorem W.set' {i : Nat} {m : ME} {ρ ρ' : Env} {d : D} {N : Env → Prop} {R : D → Env → Prop} (e : m ρ = .ok d ρ') (h : N (ρ'.set i (.fz d))) : W (sSet i m) ρ N R := .nx (by unfold sSet; rw [e]; rfl) h
theorem W.ret {m : ME} {ρ ρ' : Env} {d : D} {N : Env → Prop} {R : D → Env → Prop} (e : m ρ = .ok d ρ') (h : R d ρ') : W (sRet m) ρ N R := .rt (by unfold sRet; rw [e]; rfl) h
theorem W.do' {m : ME} {ρ ρ' : Env} {d : D} {N : Env → Prop} {R : D → Env → Prop} (e : m ρ = .ok d ρ') (h : N ρ') : W (sDo m) ρ N R := .nx (by unfold sDo; rw [e]; rfl) h
theorem op2_ok {g : D → D → Option D} {o1 o2 : Opd} {ρ ρ1 ρ2 : Env} {x1 x2 : Option D} {d1 d2 d : D} (h1 : o1.ev ρ = .ok x1 ρ1) (h2 : o2.ev ρ1 = .ok x2 ρ2) (f1 : o1.fin x1 ρ2 = some d1) (f2 : o2.fin x2 ρ2 = some d2) (hg : g d1 d2 = some d) : mOp2 g o1 o2 ρ = .ok d ρ2 := by
  unfold mOp2
  rw [h1]
  simp only [Rs.then]
  rw [h2]
  simp only [Rs.then]
  rw [f1, f2]
  simp only [hg]
theorem mFn_ok {g : List D → Option D} {os : List Opd} {ρ ρ1 : Env} {xs : List (Option D)} {ds : List D} {d : D} (h1 : evo os ρ = .ok xs ρ1) (h2 : fino os xs ρ1 = some ds) (hg : g ds = some d) : mFn g os ρ = .ok d ρ1 := by
  unfold mFn
  rw [h1]
  simp only [Rs.then]
  rw [h2]
  simp only [hg]
theorem ev_ex {m : ME} {ρ ρ' : Env} {d : D} (e : m ρ = .ok d ρ') : (Opd.ex m).ev ρ = .ok (some d) ρ' := by
  show (m ρ).then _ = _
  rw [e]
  rfl
theorem W.ifT {t : MB} {a b : SM} {ρ ρ1 : Env} {N : Env → Prop} {R : D → Env → Prop} (e : t ρ = .ok true ρ1) (h : W a ρ1 N R) : W (sIf t a b) ρ N R := .ite e h
theorem W.ifF {t : MB} {a b : SM} {ρ ρ1 : Env} {N : Env → Prop} {R : D → Env → Prop} (e : t ρ = .ok false ρ1) (h : W b ρ1 N R) : W (sIf t a b) ρ N R := .ite e h
theorem W.nil {ρ : Env} {N : Env → Prop} {R : D → Env → Prop} (h : N ρ) : W sNil ρ N R := .nx rfl h
/-- a range of numbers, as it is evaluated -/
theorem rng_map {os : List Opd} {ρ ρ1 : Env} {xs : List (Option D)} {n : Nat} (h1 : evo os ρ = .ok xs ρ1) (h2 : fino os xs ρ1 = some [.int n]) (hb : n ≤ 1000000) : iRng fR1 os ρ = .ok ((List.range n).map natD) ρ1 := by
  rw [iRng_nat h1 h2 hb, up_range]
theorem in_es (w : Web) (a b : Int) (h : 0 ≤ a) (h2 : 0 ≤ b) : dIn (.tuple [.int a, .int b]) (.tuple (w.es.map pairN)) = some (.bool (decide ((a.toNat, b.toNat) ∈ w.es))) := by
  have e : (PyData.tuple [.int a, .int b]) = pairN (a.toNat, b.toNat) := by
    unfold pairN
    rw [show (((a.toNat, b.toNat) : Nat × Nat).1 : Int) = a by show ((a.toNat : Nat) : Int) = a; omega, show (((a.toNat, b.toNat) : Nat × Nat).2 : Int) = b by show ((b.toNat : Nat) : Int) = b; omega]
  rw [e]
  show Option.map PyData.bool (if (okD (pairN (a.toNat, b.toNat)) && okD (.tuple (w.es.map pairN))) = true then some (inAny (w.es.map pairN) (pairN (a.toNat, b.toNat))) else none) = _
  rw [okPair, okPairs, inAny_map eqv_pair]
  simp
theorem in_adj (w : Web) (i j : Nat) : dIn (.tuple [.int (if j < i then (j : Int) else i), .int (if i < j then (j : Int) else i)]) (.tuple (w.es.map pairN)) = some (.bool (w.adj i j)) := by
  rw [in_es w _ _ (by split <;> omega) (by split <;> omega)]
  unfold Web.adj
  rw [show (if j < i then (j : Int) else i).toNat = min i j by split <;> omega, show (if i < j then (j : Int) else i).toNat = max i j by split <;> omega]
theorem law_near_row {w : Web} (hw : w.Ok) {k : Nat} (hk : k < w.n) (L : D) : mComp (iRng fR1 [.ex (mOp2 dAt (.sl 0) (.ex (mLit (.int 0))))]) (tmName 3) (mB (mOp2 dIn (.ex (mTup [mFn dMin2 [.sl 2, .sl 3], mFn dMax2 [.sl 2, .sl 3]])) (.ex (mOp2 dAt (.sl 0) (.ex (mLit (.int 1))))))) (mVar 3) [3] [.fz (webD w), .own L, .fz (.int k), .no] = .ok (.list ((w.nbr k).map natD)) [.fz (webD w), .own L, .fz (.int k), .no] := by
  have hm := hw.most
  have hc := mComp_of (f := natD) (i := 3) (it := iRng fR1 [.ex (mOp2 dAt (.sl 0) (.ex (mLit (.int 0))))]) (cd := mB (mOp2 dIn (.ex (mTup [mFn dMin2 [.sl 2, .sl 3], mFn dMax2 [.sl 2, .sl 3]])) (.ex (mOp2 dAt (.sl 0) (.ex (mLit (.int 1)))))))
      (elt := mVar 3) (w.adj k) natD (ρ := [.fz (webD w), .own L, .fz (.int k), .no]) (ρ1 := [.fz (webD w), .own L, .fz (.int k), .no]) (ds := List.range w.n)
      (rng_map (xs := [some (.int w.n)]) (by simp [fnM, ownIx, backs, sRet, sSeq, sIf, sSet, sOwn, sDo, sNil, sAsg, Rs.sr, mOp2, Opd.ev, Opd.fin, at_, Sl.val, Rs.then, mLit, mVar, mB, mAnd, mOr, mNot, bAnd, bOr, bNot, mIf, bYes, mTup, mLst, evm, evo, fino, mFn, mCall, eva, sls, ioIx, putBack, Arg.opd, iSeq, iRng, fR1, fR2, sFor, tmName, tmTup, tmSeq, mApp, mExt, mPutAt, dPutAt, mIsi, dTy, isB, dEq, dNe, dLt, dLe, dGt, dGe, dIsN, dNotN, dAdd, dSub, dMod, dFdiv, dMul, dAt, dLen, dInt, dTuple, dList, mChain, sPar, setP, webD, atI_0]) (by simp [fnM, ownIx, backs, sRet, sSeq, sIf, sSet, sOwn, sDo, sNil, sAsg, Rs.sr, mOp2, Opd.ev, Opd.fin, at_, Sl.val, Rs.then, mLit, mVar, mB, mAnd, mOr, mNot, bAnd, bOr, bNot, mIf, bYes, mTup, mLst, evm, evo, fino, mFn, mCall, eva, sls, ioIx, putBack, Arg.opd, iSeq, iRng, fR1, fR2, sFor, tmName, tmTup, tmSeq, mApp, mExt, mPutAt, dPutAt, mIsi, dTy, isB, dEq, dNe, dLt, dLe, dGt, dGe, dIsN, dNotN, dAdd, dSub, dMod, dFdiv, dMul, dAt, dLen, dInt, dTuple, dList, mChain, sPar, setP]) (by omega)) (.no rfl) (fun j hj => by simp [fnM, ownIx, backs, sRet, sSeq, sIf, sSet, sOwn, sDo, sNil, sAsg, Rs.sr, mOp2, Opd.ev, Opd.fin, at_, Sl.val, Rs.then, mLit, mVar, mB, mAnd, mOr, mNot, bAnd, bOr, bNot, mIf, bYes, mTup, mLst, evm, evo, fino, mFn, mCall, eva, sls, ioIx, putBack, Arg.opd, iSeq, iRng, fR1, fR2, sFor, tmName, tmTup, tmSeq, mApp, mExt, mPutAt, dPutAt, mIsi, dTy, isB, dEq, dNe, dLt, dLe, dGt, dGe, dIsN, dNotN, dAdd, dSub, dMod, dFdiv, dMul, dAt, dLen, dInt, dTuple, dList, mChain, sPar, setP, webD, natD, atI_1, dMin2, dMax2, in_adj]) (fun j hj _ => by simp [fnM, ownIx, backs, sRet, sSeq, sIf, sSet, sOwn, sDo, sNil, sAsg, Rs.sr, mOp2, Opd.ev, Opd.fin, at_, Sl.val, Rs.then, mLit, mVar, mB, mAnd, mOr, mNot, bAnd, bOr, bNot, mIf, bYes, mTup, mLst, evm, evo, fino, mFn, mCall, eva, sls, ioIx, putBack, Arg.opd, iSeq, iRng, fR1, fR2, sFor, tmName, tmTup, tmSeq, mApp, mExt, mPutAt, dPutAt, mIsi, dTy, isB, dEq, dNe, dLt, dLe, dGt, dGe, dIsN, dNotN, dAdd, dSub, dMod, dFdiv, dMul, dAt, dLen, dInt, dTuple, dList, mChain, sPar, setP, natD]) (by simp; omega)
  exact hc
theorem law_near_eq {w : Web} (hw : w.Ok) : f__law_near [.fz (webD w)] = .ok (nearD w) [] := by
  have hm := hw.most
  refine W.fn0 rfl ?_
  unfold m__law_near
  refine .seq (.nx (ρ' := [.fz (webD w), .own (.list []), .no, .no]) (by simp [fnM, ownIx, backs, sRet, sSeq, sIf, sSet, sOwn, sDo, sNil, sAsg, Rs.sr, mOp2, Opd.ev, Opd.fin, at_, Sl.val, Rs.then, mLit, mVar, mB, mAnd, mOr, mNot, bAnd, bOr, bNot, mIf, bYes, mTup, mLst, evm, evo, fino, mFn, mCall, eva, sls, ioIx, putBack, Arg.opd, iSeq, iRng, fR1, fR2, sFor, tmName, tmTup, tmSeq, mApp, mExt, mPutAt, dPutAt, mIsi, dTy, isB, dEq, dNe, dLt, dLe, dGt, dGe, dIsN, dNotN, dAdd, dSub, dMod, dFdiv, dMul, dAt, dLen, dInt, dTuple, dList, mChain, sPar, setP]) ?_)
  refine .seq (.rng (n := w.n) (ρ0 := [.fz (webD w), .own (.list []), .no, .no]) (fun k ρ => ∃ (x : Sl), ρ = [.fz (webD w), .own (.list ((List.range k).map fun i => .list ((w.nbr i).map natD))), x, .no]) ?_ ⟨_, rfl⟩ ?_ ?_)
  · exact iRng_nat (xs := [some (.int w.n)]) (by simp [fnM, ownIx, backs, sRet, sSeq, sIf, sSet, sOwn, sDo, sNil, sAsg, Rs.sr, mOp2, Opd.ev, Opd.fin, at_, Sl.val, Rs.then, mLit, mVar, mB, mAnd, mOr, mNot, bAnd, bOr, bNot, mIf, bYes, mTup, mLst, evm, evo, fino, mFn, mCall, eva, sls, ioIx, putBack, Arg.opd, iSeq, iRng, fR1, fR2, sFor, tmName, tmTup, tmSeq, mApp, mExt, mPutAt, dPutAt, mIsi, dTy, isB, dEq, dNe, dLt, dLe, dGt, dGe, dIsN, dNotN, dAdd, dSub, dMod, dFdiv, dMul, dAt, dLen, dInt, dTuple, dList, mChain, sPar, setP, webD, atI_0]) (by simp [fnM, ownIx, backs, sRet, sSeq, sIf, sSet, sOwn, sDo, sNil, sAsg, Rs.sr, mOp2, Opd.ev, Opd.fin, at_, Sl.val, Rs.then, mLit, mVar, mB, mAnd, mOr, mNot, bAnd, bOr, bNot, mIf, bYes, mTup, mLst, evm, evo, fino, mFn, mCall, eva, sls, ioIx, putBack, Arg.opd, iSeq, iRng, fR1, fR2, sFor, tmName, tmTup, tmSeq, mApp, mExt, mPutAt, dPutAt, mIsi, dTy, isB, dEq, dNe, dLt, dLe, dGt, dGe, dIsN, dNotN, dAdd, dSub, dMod, dFdiv, dMul, dAt, dLen, dInt, dTuple, dList, mChain, sPar, setP]) (by omega)
  · rintro k _ hk ⟨x, rfl⟩
    have hc := law_near_row hw hk (.list ((List.range k).map fun i => .list ((w.nbr i).map natD)))
    refine .app rfl hc rfl (by simp; omega) ⟨.fz (.int k), ?_⟩
    simp [List.range_succ]
  · rintro _ ⟨x, rfl⟩
    exact .rt (ρ' := [.fz (webD w), .fz (nearD w), x, .no]) (by simp [fnM, ownIx, backs, sRet, sSeq, sIf, sSet, sOwn, sDo, sNil, sAsg, Rs.sr, mOp2, Opd.ev, Opd.fin, at_, Sl.val, Rs.then, mLit, mVar, mB, mAnd, mOr, mNot, bAnd, bOr, bNot, mIf, bYes, mTup, mLst, evm, evo, fino, mFn, mCall, eva, sls, ioIx, putBack, Arg.opd, iSeq, iRng, fR1, fR2, sFor, tmName, tmTup, tmSeq, mApp, mExt, mPutAt, dPutAt, mIsi, dTy, isB, dEq, dNe, dLt, dLe, dGt, dGe, dIsN, dNotN, dAdd, dSub, dMod, dFdiv, dMul, dAt, dLen, dInt, dTuple, dList, mChain, sPar, setP, nearD]) rfl

set_option autoImplicit false
theorem Web.adj_lt {w : Web} (hw : w.Ok) {i j : Nat} (h : w.adj i j = true) : i < w.n ∧ j < w.n ∧ i ≠ j := by
  unfold Web.adj at h
  have h1 := hw.inn _ (of_decide_eq_true h)
  simp only at h1
  omega
theorem Web.adj_comm (w : Web) (i j : Nat) : w.adj i j = w.adj j i := by
  unfold Web.adj
  rw [Nat.min_comm, Nat.max_comm]
theorem Web.mem_nbr {w : Web} (hw : w.Ok) {i j : Nat} : j ∈ w.nbr i ↔ w.adj i j = true := by
  unfold Web.nbr
  rw [List.mem_filter, List.mem_range]
  exact ⟨fun h => h.2, fun h => ⟨(Web.adj_lt hw h).2.1, h⟩⟩
def mood (s : List Int) (i : Nat) : Int := s.getD i 0
def stp (s : List Int) (a b : Nat) : Int := (mood s b - mood s a + 1) % 3 - 1
def hot (w : Web) (s : List Int) (i : Nat) : Bool := (w.nbr i).any fun j => decide (stp s i j = 1)
def nxt (w : Web) (s : List Int) : List Int := (List.range w.n).map fun i => if hot w s i = true then (mood s i + 1) % 3 else mood s i
def runL (w : Web) (s : List Int) : Nat → List Int
  | 0 => s
  | k + 1 => nxt w (runL w s k)
def cnt (w : Web) (s : List Int) : Nat → Nat → Int
  | 0, _ => 0
  | k + 1, i => cnt w s k i + if hot w (runL w s k) i = true then 1 else 0
theorem mood_nxt {w : Web} {s : List Int} {i : Nat} (h : i < w.n) : mood (nxt w s) i = if hot w s i = true then (mood s i + 1) % 3 else mood s i := by
  unfold nxt
  conv => lhs; unfold mood
  rw [List.getD_eq_getElem?_getD, List.getElem?_map, List.getElem?_range h]
  rfl
theorem mood_three {n : Nat} {s : List Int} (h : StOk n s) (i : Nat) : 0 ≤ mood s i ∧ mood s i < 3 := by
  unfold mood
  rw [List.getD_eq_getElem?_getD]
  cases e : s[i]? with
  | none => simp
  | some x => exact h.three x (List.mem_of_getElem? e)
theorem nxt_ok {w : Web} {s : List Int} (h : StOk w.n s) : StOk w.n (nxt w s) := by
  refine ⟨by unfold nxt; simp, fun x hx => ?_⟩
  unfold nxt at hx
  obtain ⟨i, _, rfl⟩ := List.mem_map.mp hx
  have := mood_three h i
  split <;> omega
theorem run_ok {w : Web} {s : List Int} (h : StOk w.n s) : ∀ k, StOk w.n (runL w s k)
  | 0 => h
  | k + 1 => nxt_ok (run_ok h k)
theorem hot_of {w : Web} (hw : w.Ok) {s : List Int} {i j : Nat} (h : w.adj i j = true) (e : stp s i j = 1) : hot w s i = true := by
  unfold hot
  rw [List.any_eq_true]
  exact ⟨j, (Web.mem_nbr hw).mpr h, decide_eq_true e⟩
theorem of_hot {w : Web} (hw : w.Ok) {s : List Int} {i : Nat} (h : hot w s i = true) : ∃ j, w.adj i j = true ∧ stp s i j = 1 := by
  unfold hot at h
  rw [List.any_eq_true] at h
  obtain ⟨j, h1, h2⟩ := h
  exact ⟨j, (Web.mem_nbr hw).mp h1, of_decide_eq_true h2⟩
/-- the change of a step by a tick -/
theorem stp_nxt {w : Web} (hw : w.Ok) {s : List Int} (hs : StOk w.n s) {a b : Nat} (h : w.adj a b = true) : stp (nxt w s) a b = stp s a b + (if hot w s b = true then 1 else 0) - (if hot w s a = true then 1 else 0) := by
  obtain ⟨ha, hb, _⟩ := Web.adj_lt hw h
  have h1 : stp s a b = 1 → hot w s a = true := hot_of hw h
  have h2 : stp s b a = 1 → hot w s b = true := hot_of hw (by rw [Web.adj_comm]; exact h)
  have ma := mood_three hs a
  have mb := mood_three hs b
  have e1 := mood_nxt (s := s) ha
  have e2 := mood_nxt (s := s) hb
  unfold stp at h1 h2 ⊢
  rw [e1, e2]
  cases x : hot w s a <;> cases y : hot w s b <;> simp only [x, y, if_true, if_false, Bool.false_eq_true, imp_false] at h1 h2 ⊢ <;> omega
theorem stp_run {w : Web} (hw : w.Ok) {s : List Int} (hs : StOk w.n s) {a b : Nat} (h : w.adj a b = true) : ∀ k, stp (runL w s k) a b = stp s a b + cnt w s k b - cnt w s k a
  | 0 => by show stp s a b = stp s a b + 0 - 0; omega
  | k + 1 => by
    show stp (nxt w (runL w s k)) a b = stp s a b + (cnt w s k b + if hot w (runL w s k) b = true then 1 else 0) - (cnt w s k a + if hot w (runL w s k) a = true then 1 else 0)
    rw [stp_nxt hw (run_ok hs k) h, stp_run hw hs h k]
    omega
theorem mood_run {w : Web} {s : List Int} (hs : StOk w.n s) {i : Nat} (hi : i < w.n) : ∀ k, mood (runL w s k) i = (mood s i + cnt w s k i) % 3
  | 0 => by
    show mood s i = (mood s i + 0) % 3
    have := mood_three hs i
    omega
  | k + 1 => by
    show mood (nxt w (runL w s k)) i = (mood s i + (cnt w s k i + if hot w (runL w s k) i = true then 1 else 0)) % 3
    rw [mood_nxt hi, mood_run hs hi k]
    split <;> omega
section
variable {w : Web} {s : List Int} {h : Nat → Int}
end
/-- a way from one to another -/
inductive Reach (w : Web) : Nat → Nat → Prop where
  | here (i : Nat) : Reach w i i
  | on {i j k : Nat} (h : Reach w i j) (e : w.adj j k = true) : Reach w i k

set_option autoImplicit false
theorem W.whileM {t : MB} {b : SM} {N : Env → Prop} {R : D → Env → Prop} (I : Nat → Env → Prop)
    (hs : ∀ m ρ, I m ρ → ∃ x ρ1, t ρ = .ok x ρ1 ∧ (x = true → W b ρ1 (fun ρ' => ∃ m', m' < m ∧ I m' ρ') R) ∧ (x = false → N ρ1)) : ∀ (fuel m : Nat) (ρ : Env), m < fuel → I m ρ → W (whileM t b fuel) ρ N R
  | 0, m, ρ, h, _ => by omega
  | fuel + 1, m, ρ, h, hI => by
    obtain ⟨x, ρ1, e, h1, h2⟩ := hs m ρ hI
    refine ⟨?_⟩
    unfold MP.whileM
    rw [e]
    cases x with
    | false => exact h2 rfl
    | true =>
      obtain ⟨w⟩ := h1 rfl
      show WR (match b ρ1 with
        | .nx ρ2 => MP.whileM t b fuel ρ2
        | r => r) _ _
      cases eb : b ρ1 with
      | nx ρ2 =>
        rw [eb] at w
        obtain ⟨m', hm, hI'⟩ := w
        exact (W.whileM I hs fuel m' ρ2 (by omega) hI').run
      | rt d ρ' => rw [eb] at w; exact w
      | ex x ρ' => rw [eb] at w; exact w.elim
      | stuck => rw [eb] at w; exact w.elim
theorem W.forA {α : Type} {f : α → D} {l : List α} {it : MI} {v : Nat} {b : SM} {ρ ρ0 : Env} {N : Env → Prop} {R : D → Env → Prop} (I : Nat → Env → Prop) (hit : it ρ = .ok (l.map f) ρ0) (h0 : I 0 ρ0)
    (hs : ∀ i a ρ, l[i]? = some a → I i ρ → W b (ρ.set v (.fz (f a))) (I (i + 1)) R) (hk : ∀ ρ, I l.length ρ → N ρ) : W (sFor it (tmName v) b) ρ N R := by
  refine W.for' I hit h0 (fun i d ρ h1 h2 => ?_) fun ρ h => hk ρ (by rw [List.length_map] at h; exact h)
  rw [List.getElem?_map] at h1
  cases e : l[i]? with
  | none => rw [e] at h1; cases h1
  | some a =>
    rw [e] at h1
    cases h1
    exact ⟨_, rfl, hs i a ρ e h2⟩
def optD : Option Int → D
  | none => .none
  | some i => .int i
def fD (f : List (Option Int)) : D := .list (f.map optD)
def nc (f : List (Option Int)) : Nat := (f.filter (·.isNone)).length
theorem nc_set : ∀ {f : List (Option Int)} {i : Nat} (x : Int), f[i]? = some none → nc (f.set i (some x)) + 1 = nc f
  | [], i, x, h => by cases i <;> cases h
  | y :: f, 0, x, h => by
    cases h
    rfl
  | y :: f, i + 1, x, h => by
    have := nc_set (f := f) (i := i) x h
    unfold nc at *
    show ((y :: f.set i (some x)).filter _).length + 1 = _
    rw [List.filter_cons, List.filter_cons]
    split <;> (try simp only [List.length_cons]) <;> omega
theorem nc_le (f : List (Option Int)) : nc f ≤ f.length := List.length_filter_le _ _
theorem near_at {w : Web} {i : Nat} (h : i < w.n) : dAt (nearD w) (.int i) = some (.list ((w.nbr i).map natD)) := by
  unfold nearD
  show atI _ (i : Int) = _
  rw [atI_nat, List.getElem?_map, List.getElem?_range h]
  rfl
theorem near_at' {w : Web} {i : Nat} (h : i < w.n) : dAt (nearD w) (natD i) = some (.list ((w.nbr i).map natD)) := near_at h
theorem okNats (l : List Nat) : okD (.list (l.map natD)) = true := (Shp.list (f := natD) (k := 0) (fun x => Shp.int x) l).ok
theorem okNatsT (l : List Nat) : okD (.tuple (l.map natD)) = true := (Shp.tup (f := natD) (k := 0) (fun x => Shp.int x) l).ok
theorem eqv_nat (i j : Nat) : PyData.eqv (natD i) (natD j) = decide (i = j) := by
  unfold natD
  rw [eqv_int]
  exact decide_eq_decide.mpr (by omega)
theorem eqv_nats (l m : List Nat) : PyData.eqv (.list (l.map natD)) (.list (m.map natD)) = decide (l = m) := by simp only [PyData.eqv]; exact eqvAll_map eqv_nat l m
theorem ne_nil (l : List Nat) : dNe (.list (l.map natD)) (.list []) = some (.bool (!l.isEmpty)) := by
  have h := eqv_nats l []
  have h2 := okNats []
  unfold dNe
  simp only [List.map_nil] at h h2
  rw [okNats, h2, h]
  cases l <;> rfl
theorem look_lt {α : Type} {f : List α} {i : Nat} {x : α} (h : f[i]? = some x) : i < f.length := by
  obtain ⟨h, _⟩ := List.getElem?_eq_some_iff.mp h
  exact h
theorem Web.nbr_len (w : Web) (i : Nat) : (w.nbr i).length ≤ w.n := by
  have := List.length_filter_le (w.adj i) (List.range w.n)
  rw [List.length_range] at this
  exact this
def Has (f : List (Option Int)) (v : Nat) : Prop := ∃ x, f[v]? = some (some x)
theorem dRep_list (a : List D) (k : Int) : dRep (.list a) (.int k) = if repFits a.length k = true then some (.list (reps a k)) else none := rfl
theorem rep_none {n : Nat} (h : n ≤ 10) : dRep (.list [.none]) (.int n) = some (.list ((List.replicate n (none : Option Int)).map optD)) := by
  have h1 : reps [PyData.none] (n : Int) = (List.replicate n (none : Option Int)).map optD := by
    unfold reps
    rw [Int.toNat_natCast, List.map_replicate]
    clear h
    induction n with
    | zero => rfl
    | succ n ih => rw [List.replicate_succ, List.flatten_cons, ih, List.replicate_succ]; rfl
  have h2 : repFits 1 (n : Int) = true := by
    unfold repFits sizeLine
    simp
    omega
  rw [dRep_list, if_pos (show repFits [PyData.none].length n = true from h2), h1]

set_option autoImplicit false
def nbE (i : Nat) (e : Nat × Nat) : Option Nat := if e.1 = i then some e.2 else if e.2 = i then some e.1 else none
def nb (es : List (Nat × Nat)) (i : Nat) : List Nat := es.filterMap (nbE i)
theorem nb_len (es : List (Nat × Nat)) (i : Nat) : (nb es i).length ≤ es.length := List.length_filterMap_le _ _
theorem nb_snoc (es : List (Nat × Nat)) (e : Nat × Nat) (i : Nat) : nb (es ++ [e]) i = nb es i ++ (nbE i e).toList := by
  unfold nb
  rw [List.filterMap_append]
  cases h : nbE i e <;> simp [h]
theorem set_range {α : Type} (n : Nat) (g : Nat → α) (a : Nat) (x : α) : ((List.range n).map g).set a x = (List.range n).map fun i => if i = a then x else g i := by
  refine List.ext_getElem? fun i => ?_
  rw [List.getElem?_set, List.getElem?_map, List.getElem?_map]
  by_cases hi : i < n
  · rw [List.getElem?_range hi]
    by_cases e : a = i
    · subst e
      simp [hi]
    · rw [if_neg e]
      simp [show ¬ i = a from fun z => e z.symm]
  · rw [List.getElem?_eq_none (by simp; omega)]
    simp; intro _; omega
theorem nb_near {w : Web} (hw : w.Ok) (i : Nat) : dSort [.list ((nb w.es i).map natD)] = some (.list ((w.nbr i).map natD)) := by
  have e : ∀ l : List Nat, l.map natD = (l.map fun (k : Nat) => (k : Int)).map PyData.int := fun l => by rw [List.map_map]; rfl
  have hp : ((w.nbr i).map fun (k : Nat) => (k : Int)).Perm ((nb w.es i).map fun (k : Nat) => (k : Int)) := by
    refine List.Perm.map _ ((List.perm_ext_iff_of_nodup ?_ ?_).mpr fun v => ?_)
    · unfold Web.nbr
      exact List.Pairwise.filter _ List.nodup_range
    · unfold nb List.Nodup
      rw [List.pairwise_filterMap]
      refine (List.Pairwise.and_mem.mp hw.sorted).imp fun {p q} ⟨hp, hq, hl⟩ b hb b' hb' => ?_
      have h1 := hw.inn p hp
      have h2 := hw.inn q hq
      unfold nbE at hb hb'
      unfold lexN at hl
      split at hb <;> split at hb' <;> simp at hb hb' <;> omega
    · rw [Web.mem_nbr hw]
      unfold nb Web.adj
      rw [List.mem_filterMap, decide_eq_true_iff]
      constructor
      · intro h
        have := hw.inn _ h
        refine ⟨_, h, ?_⟩
        unfold nbE
        simp only at this ⊢
        by_cases hv : i ≤ v
        · rw [if_pos (by omega)]
          congr 1
          omega
        · rw [if_neg (by omega), if_pos (by omega)]
          congr 1
          omega
      · rintro ⟨⟨a, b⟩, h, hn⟩
        have := hw.inn _ h
        unfold nbE at hn
        simp only at this hn
        split at hn
        · cases hn
          subst i
          rw [show min a v = a by omega, show max a v = v by omega]
          exact h
        · split at hn
          · cases hn
            subst i
            rw [show min b v = v by omega, show max b v = b by omega]
            exact h
          · cases hn
  have hs : ((w.nbr i).map fun (k : Nat) => (k : Int)).Pairwise (· ≤ ·) := by
    rw [List.pairwise_map]
    unfold Web.nbr
    refine List.Pairwise.filter _ ?_
    exact (List.pairwise_lt_range (n := w.n)).imp fun {a b} h => by omega
  unfold dSort
  rw [e, e]
  simp only [dInts_of]
  rw [← sortI_uniq hp hs]
def nbsD (n : Nat) (es : List (Nat × Nat)) : List (List D) := (List.range n).map fun i => (nb es i).map natD
theorem dApp_ok {ix : Opd} {m : ME} {dss : List (List D)} {ρ ρ1 ρ2 : Env} {kx : Option D} {k : Int} {j : Nat} {d : D} {ds : List D} (h1 : ix.ev ρ = .ok kx ρ1) (h2 : ix.fin kx ρ1 = some (.int k)) (h3 : ixN dss.length k = some j) (h4 : m ρ1 = .ok d ρ2) (h5 : dss[j]? = some ds) (h6 : ds.length < sizeLine) : dApp ix m dss ρ = .nx (dss.set j (ds ++ [d])) ρ2 := by
  unfold dApp
  rw [h1]
  simp only [Rs.dr]
  rw [h2]
  simp only [h3, h4, h5, if_pos h6]
theorem near_for {w : Web} (hw : w.Ok) : ∀ (rest done : List (Nat × Nat)) (x2 x3 x4 : Sl), done ++ rest = w.es → ∃ y2 y3, dForM (tmTup [([2], tmName 2), ([3], tmName 3)]) (dSeq (dApp (.sl 2) (mVar 3)) (dApp (.sl 3) (mVar 2))) (rest.map pairN) (nbsD w.n done) [.fz (webD w), .no, x2, x3, x4] = .nx (nbsD w.n w.es) [.fz (webD w), .no, y2, y3, x4]
  | [], done, x2, x3, x4, h => ⟨x2, x3, by rw [List.append_nil] at h; subst h; rfl⟩
  | (a, b) :: rest, done, x2, x3, x4, h => by
    have hi := hw.inn (a, b) (by rw [← h]; simp)
    simp only at hi
    obtain ⟨y2, y3, ih⟩ := near_for hw rest (done ++ [(a, b)]) (.fz (natD a)) (.fz (natD b)) x4 (by rw [← h]; simp)
    refine ⟨y2, y3, ?_⟩
    rw [← ih]
    have hd : done.length ≤ 100 := by
      have := hw.few
      rw [← h] at this
      simp at this
      omega
    have la := nb_len done a
    have lb := nb_len done b
    have za : (nb done a).length < sizeLine := by unfold sizeLine; omega
    have zb : (nb done b).length < sizeLine := by unfold sizeLine; omega
    have hl : ∀ es, (nbsD w.n es).length = w.n := fun es => by unfold nbsD; simp
    have ha : (nbsD w.n done)[a]? = some ((nb done a).map natD) := by
      unfold nbsD
      rw [List.getElem?_map, List.getElem?_range (by omega)]
      rfl
    have hb : ((nbsD w.n done).set a ((nb done a).map natD ++ [natD b]))[b]? = some ((nb done b).map natD) := by
      rw [List.getElem?_set_ne (by omega)]
      unfold nbsD
      rw [List.getElem?_map, List.getElem?_range (by omega)]
      rfl
    have hn : ((nbsD w.n done).set a ((nb done a).map natD ++ [natD b])).set b ((nb done b).map natD ++ [natD a]) = nbsD w.n (done ++ [(a, b)]) := by
      unfold nbsD
      rw [set_range, set_range]
      refine List.map_congr_left fun i _ => ?_
      rw [nb_snoc]
      unfold nbE
      simp only
      by_cases e1 : i = b
      · subst e1
        rw [if_pos rfl, if_neg (by omega), if_pos rfl]
        simp
      · rw [if_neg e1]
        by_cases e2 : i = a
        · subst e2
          rw [if_pos rfl, if_pos rfl]
          simp
        · rw [if_neg e2, if_neg (fun z => e2 z.symm), if_neg (fun z => e1 z.symm)]
          simp
    show (Rs.dr (tmTup [([2], tmName 2), ([3], tmName 3)] (pairN (a, b)) [.fz (webD w), .no, x2, x3, x4]) _) = _
    have ht : tmTup [([2], tmName 2), ([3], tmName 3)] (pairN (a, b)) [.fz (webD w), .no, x2, x3, x4] = .ok () [.fz (webD w), .no, .fz (natD a), .fz (natD b), x4] := rfl
    rw [ht]
    show (match (dSeq (dApp (.sl 2) (mVar 3)) (dApp (.sl 3) (mVar 2))) (nbsD w.n done) [.fz (webD w), .no, .fz (natD a), .fz (natD b), x4] with
      | .nx dss' ρ2 => dForM _ _ (rest.map pairN) dss' ρ2
      | .stuck => .stuck) = _
    have hb2 : (dSeq (dApp (.sl 2) (mVar 3)) (dApp (.sl 3) (mVar 2))) (nbsD w.n done) [.fz (webD w), .no, .fz (natD a), .fz (natD b), x4] = .nx (nbsD w.n (done ++ [(a, b)])) [.fz (webD w), .no, .fz (natD a), .fz (natD b), x4] := by
      rw [← hn]
      have la' : a < w.n := by omega
      have lb' : b < w.n := by omega
      have ea : dApp (.sl 2) (mVar 3) (nbsD w.n done) [.fz (webD w), .no, .fz (natD a), .fz (natD b), x4] = .nx ((nbsD w.n done).set a ((nb done a).map natD ++ [natD b])) [.fz (webD w), .no, .fz (natD a), .fz (natD b), x4] := by
        exact dApp_ok (k := a) (kx := none) (ρ1 := [.fz (webD w), .no, .fz (natD a), .fz (natD b), x4]) rfl rfl (by rw [ixN_nat, hl, if_pos la']) rfl ha (by rw [List.length_map]; exact za)
      have eb : dApp (.sl 3) (mVar 2) ((nbsD w.n done).set a ((nb done a).map natD ++ [natD b])) [.fz (webD w), .no, .fz (natD a), .fz (natD b), x4] = .nx (((nbsD w.n done).set a ((nb done a).map natD ++ [natD b])).set b ((nb done b).map natD ++ [natD a])) [.fz (webD w), .no, .fz (natD a), .fz (natD b), x4] := by
        exact dApp_ok (k := b) (kx := none) (ρ1 := [.fz (webD w), .no, .fz (natD a), .fz (natD b), x4]) rfl rfl (by rw [ixN_nat, List.length_set, hl, if_pos lb']) rfl hb (by rw [List.length_map]; exact zb)
      unfold dSeq
      rw [ea]
      exact eb
    rw [hb2]
theorem make_nil (x1 x3 x4 : Sl) (wd : D) : ∀ (ds : List D) (acc : List (List D)), makeM (tmName 2) (mLst []) [2] ds acc [.fz wd, x1, .no, x3, x4] = .ok (acc ++ List.replicate ds.length []) [.fz wd, x1, .no, x3, x4]
  | [], acc => by simp [makeM]
  | d :: ds, acc => by
    have : makeM (tmName 2) (mLst []) [2] (d :: ds) acc [.fz wd, x1, .no, x3, x4] = makeM (tmName 2) (mLst []) [2] ds (acc ++ [[]]) [.fz wd, x1, .no, x3, x4] := rfl
    rw [this, make_nil x1 x3 x4 wd ds]
    simp [List.replicate_succ]
theorem near_eq {w : Web} (hw : w.Ok) : f_near_lists [.fz (webD w)] = .ok (nearD w) [] := by
  have hm := hw.most
  refine W.fn0 rfl ⟨?_⟩
  show WR (m_near_lists [.fz (webD w), .no, .no, .no, .no]) _ _
  unfold m_near_lists sDeep
  rw [rng_map (n := w.n) (xs := [some (.int w.n)]) (ρ1 := [.fz (webD w), .no, .no, .no, .no]) (by simp [fnM, ownIx, backs, sRet, sSeq, sIf, sSet, sOwn, sDo, sNil, sAsg, Rs.sr, mOp2, Opd.ev, Opd.fin, at_, Sl.val, Rs.then, mLit, mVar, mB, mAnd, mOr, mNot, bAnd, bOr, bNot, mIf, bYes, mTup, mLst, evm, evo, fino, mFn, mCall, eva, sls, ioIx, putBack, Arg.opd, iSeq, iRng, fR1, fR2, sFor, tmName, tmTup, tmSeq, mApp, mExt, mPutAt, dPutAt, mIsi, dTy, isB, dEq, dNe, dLt, dLe, dGt, dGe, dIsN, dNotN, dAdd, dSub, dMod, dFdiv, dMul, dAt, dLen, dInt, dTuple, dList, mChain, sPar, setP, webD, atI_0]) (by simp [fnM, ownIx, backs, sRet, sSeq, sIf, sSet, sOwn, sDo, sNil, sAsg, Rs.sr, mOp2, Opd.ev, Opd.fin, at_, Sl.val, Rs.then, mLit, mVar, mB, mAnd, mOr, mNot, bAnd, bOr, bNot, mIf, bYes, mTup, mLst, evm, evo, fino, mFn, mCall, eva, sls, ioIx, putBack, Arg.opd, iSeq, iRng, fR1, fR2, sFor, tmName, tmTup, tmSeq, mApp, mExt, mPutAt, dPutAt, mIsi, dTy, isB, dEq, dNe, dLt, dLe, dGt, dGe, dIsN, dNotN, dAdd, dSub, dMod, dFdiv, dMul, dAt, dLen, dInt, dTuple, dList, mChain, sPar, setP]) (by omega)]
  simp only [Rs.sr]
  rw [if_pos ⟨by unfold sizeLine; rw [List.length_map, List.length_range]; omega, by simp⟩]
  have h0 : wipeE [.fz (webD w), .no, .no, .no, .no] [2] = [.fz (webD w), .no, .no, .no, .no] := rfl
  rw [h0, make_nil]
  simp only [List.nil_append, List.length_map, List.length_range]
  have h1 : (unwipe [.fz (webD w), .no, .no, .no, .no] [.fz (webD w), .no, .no, .no, .no] [2]).set 1 .no = [.fz (webD w), .no, .no, .no, .no] := rfl
  rw [h1]
  have h2 : List.replicate w.n ([] : List D) = nbsD w.n [] := by
    refine (List.eq_replicate_iff.mpr ⟨by unfold nbsD; simp, fun x hx => ?_⟩).symm
    unfold nbsD at hx
    obtain ⟨_, _, rfl⟩ := List.mem_map.mp hx
    rfl
  rw [h2]
  obtain ⟨y2, y3, e⟩ := near_for hw w.es [] .no .no .no rfl
  have h3 : dFor (iSeq (mOp2 dAt (.sl 0) (.ex (mLit (.int 1))))) (tmTup [([2], tmName 2), ([3], tmName 3)]) (dSeq (dApp (.sl 2) (mVar 3)) (dApp (.sl 3) (mVar 2))) (nbsD w.n []) [.fz (webD w), .no, .no, .no, .no] = .nx (nbsD w.n w.es) [.fz (webD w), .no, y2, y3, .no] := by
    unfold dFor
    have : iSeq (mOp2 dAt (.sl 0) (.ex (mLit (.int 1)))) [.fz (webD w), .no, .no, .no, .no] = .ok (w.es.map pairN) [.fz (webD w), .no, .no, .no, .no] := by simp [fnM, ownIx, backs, sRet, sSeq, sIf, sSet, sOwn, sDo, sNil, sAsg, Rs.sr, mOp2, Opd.ev, Opd.fin, at_, Sl.val, Rs.then, mLit, mVar, mB, mAnd, mOr, mNot, bAnd, bOr, bNot, mIf, bYes, mTup, mLst, evm, evo, fino, mFn, mCall, eva, sls, ioIx, putBack, Arg.opd, iSeq, iRng, fR1, fR2, sFor, tmName, tmTup, tmSeq, mApp, mExt, mPutAt, dPutAt, mIsi, dTy, isB, dEq, dNe, dLt, dLe, dGt, dGe, dIsN, dNotN, dAdd, dSub, dMod, dFdiv, dMul, dAt, dLen, dInt, dTuple, dList, mChain, sPar, setP, webD, atI_1]
    rw [this]
    exact e
  rw [h3]
  have h4 : (nbsD w.n w.es).map PyData.list = (List.range w.n).map fun i => .list ((nb w.es i).map natD) := by
    unfold nbsD
    rw [List.map_map]
    rfl
  simp only [h4]
  have hc := mComp_of (f := fun i => .list ((nb w.es i).map natD)) (i := 4) (it := iSeq (mVar 1)) (cd := bYes) (elt := mFn dSort [.sl 4]) (fun _ => true) (fun i => .list ((w.nbr i).map natD))
    (ρ := [.fz (webD w), .fz (.list ((List.range w.n).map fun i => .list ((nb w.es i).map natD))), y2, y3, .no]) (ρ1 := [.fz (webD w), .fz (.list ((List.range w.n).map fun i => .list ((nb w.es i).map natD))), y2, y3, .no]) (ds := List.range w.n)
    (by simp [fnM, ownIx, backs, sRet, sSeq, sIf, sSet, sOwn, sDo, sNil, sAsg, Rs.sr, mOp2, Opd.ev, Opd.fin, at_, Sl.val, Rs.then, mLit, mVar, mB, mAnd, mOr, mNot, bAnd, bOr, bNot, mIf, bYes, mTup, mLst, evm, evo, fino, mFn, mCall, eva, sls, ioIx, putBack, Arg.opd, iSeq, iRng, fR1, fR2, sFor, tmName, tmTup, tmSeq, mApp, mExt, mPutAt, dPutAt, mIsi, dTy, isB, dEq, dNe, dLt, dLe, dGt, dGe, dIsN, dNotN, dAdd, dSub, dMod, dFdiv, dMul, dAt, dLen, dInt, dTuple, dList, mChain, sPar, setP]) (.no rfl) (fun j hj => by simp [bYes]) (fun j hj _ => by simp [fnM, ownIx, backs, sRet, sSeq, sIf, sSet, sOwn, sDo, sNil, sAsg, Rs.sr, mOp2, Opd.ev, Opd.fin, at_, Sl.val, Rs.then, mLit, mVar, mB, mAnd, mOr, mNot, bAnd, bOr, bNot, mIf, bYes, mTup, mLst, evm, evo, fino, mFn, mCall, eva, sls, ioIx, putBack, Arg.opd, iSeq, iRng, fR1, fR2, sFor, tmName, tmTup, tmSeq, mApp, mExt, mPutAt, dPutAt, mIsi, dTy, isB, dEq, dNe, dLt, dLe, dGt, dGe, dIsN, dNotN, dAdd, dSub, dMod, dFdiv, dMul, dAt, dLen, dInt, dTuple, dList, mChain, sPar, setP, nb_near hw]) (by simp; omega)
  have h5 : ([.fz (webD w), .no, y2, y3, .no] : Env).set 1 (.fz (.list ((List.range w.n).map fun i => .list ((nb w.es i).map natD)))) = [.fz (webD w), .fz (.list ((List.range w.n).map fun i => .list ((nb w.es i).map natD))), y2, y3, .no] := rfl
  rw [h5]
  unfold sRet
  rw [hc]
  show _ = _
  unfold nearD
  rw [List.filter_eq_self.mpr (fun _ _ => rfl)]

set_option autoImplicit false
theorem fD_at (f : List (Option Int)) (v : Nat) : dAt (fD f) (natD v) = (f[v]?).map optD := by
  show atI (f.map optD) (v : Int) = _
  rw [atI_nat, List.getElem?_map]
theorem web_0 (w : Web) : dAt (webD w) (.int 0) = some (natD w.n) := rfl
theorem web_1 (w : Web) : dAt (webD w) (.int 1) = some (.tuple (w.es.map pairN)) := rfl
theorem has_nat (l : List Nat) (v : Nat) : dHas (natD v) (.list (l.map natD)) = some (decide (v ∈ l)) := by
  show (if (okD (natD v) && okD (.list (l.map natD))) = true then some (inAny (l.map natD) (natD v)) else none) = _
  rw [show okD (natD v) = true from okI _, okNats, inAny_map eqv_nat]
  simp
theorem has_natT (l : List Nat) (v : Nat) : dHas (natD v) (.tuple (l.map natD)) = some (decide (v ∈ l)) := by
  show (if (okD (natD v) && okD (.tuple (l.map natD))) = true then some (inAny (l.map natD) (natD v)) else none) = _
  rw [show okD (natD v) = true from okI _, okNatsT, inAny_map eqv_nat]
  simp
theorem W.ext {i : Nat} {m : ME} {ρ ρ' : Env} {d : D} {b : Bool} {ds0 ds es : List D} {N : Env → Prop} {R : D → Env → Prop} (h0 : ρ[i]? = some (.own (.list ds0))) (h1 : m ρ = .ok d ρ') (hd : seqOf d = some (b, es)) (h2 : ρ'[i]? = some (.own (.list ds))) (hz : ds.length + es.length ≤ 1000000) (h : N (ρ'.set i (.own (.list (ds ++ es))))) : W (sDo (mExt i m)) ρ N R := by
  refine .nx ?_ h
  unfold sDo mExt
  rw [h0]
  simp only [h1, Rs.then]
  rw [hd, h2]
  simp only [if_pos (show ds.length + es.length ≤ sizeLine by unfold sizeLine; omega)]
  rfl
theorem mCall_ok {f : FM} {as : List Arg} {ρ ρ1 : Env} {xs : List (Option D)} {ss : List Sl} {d : D} {b : List D} (h1 : eva as ρ = .ok xs ρ1) (h2 : sls as xs ρ1 = some ss) (h3 : f ss = .ok d b) : mCall f as ρ = .ok d (putBack (ioIx as) b ρ1) := by
  unfold mCall
  rw [h1]
  simp only [Rs.then]
  rw [h2]
  simp only [h3]
theorem mCall_0 {f : FM} {as : List Arg} {ρ ρ1 : Env} {xs : List (Option D)} {ss : List Sl} {d : D} (h1 : eva as ρ = .ok xs ρ1) (h2 : sls as xs ρ1 = some ss) (h3 : f ss = .ok d []) : mCall f as ρ = .ok d ρ1 := by
  rw [mCall_ok h1 h2 h3]
  cases ioIx as <;> rfl
theorem evo_1 {m : ME} {ρ ρ1 : Env} {d : D} (h1 : m ρ = .ok d ρ1) : evo [.ex m] ρ = .ok [some d] ρ1 := by
  show ((m ρ).then fun d ρ' => Rs.ok (some d) ρ').then _ = _
  rw [h1]
  rfl
theorem mFn_1 {g : List D → Option D} {m : ME} {ρ ρ1 : Env} {d e : D} (h1 : m ρ = .ok d ρ1) (hg : g [d] = some e) : mFn g [.ex m] ρ = .ok e ρ1 := mFn_ok (evo_1 h1) rfl hg
theorem evm_cons {m : ME} {ms : List ME} {ρ ρ1 ρ2 : Env} {d : D} {ds : List D} (h1 : m ρ = .ok d ρ1) (h2 : evm ms ρ1 = .ok ds ρ2) : evm (m :: ms) ρ = .ok (d :: ds) ρ2 := by
  unfold evm
  rw [h1]
  simp only [Rs.then]
  rw [h2]
theorem W.par {is : List Nat} {ms : List (Bool × ME)} {ρ ρ1 : Env} {ds : List D} {N : Env → Prop} {R : D → Env → Prop} (e : evm (ms.map (·.2)) ρ = .ok ds ρ1) (h : N (setP is (ms.map (·.1)) ds ρ1)) : W (sPar is ms) ρ N R := .nx (by unfold sPar; rw [e]; rfl) h
def tupN (p : List Nat) : D := .tuple (p.map natD)
def hasB (f : List (Option Int)) (v : Nat) : Bool := (f[v]?.getD none).isSome
theorem hasB_iff (f : List (Option Int)) (v : Nat) : hasB f v = true ↔ Has f v := by
  unfold hasB Has
  cases e : f[v]? with
  | none => simp
  | some o => cases o <;> simp

set_option autoImplicit false
theorem mood_at {s : List Int} {i : Nat} (h : i < s.length) : s[i]? = some (mood s i) := by
  unfold mood
  rw [List.getD_eq_getElem?_getD, List.getElem?_eq_getElem h]
  rfl
theorem st_at {s : List Int} {i : Nat} (h : i < s.length) : dAt (stD s) (natD i) = some (.int (mood s i)) := by
  show atI (s.map PyData.int) (i : Int) = _
  rw [atI_nat, List.getElem?_map, mood_at h]
  rfl
theorem step_eq {s : List Int} {a b : Nat} (ha : a < s.length) (hb : b < s.length) : f_step [.fz (stD s), .fz (natD a), .fz (natD b)] = .ok (.int (stp s a b)) [] := by
  unfold f_step
  refine fn_rt (ρ := [.fz (stD s), .fz (natD a), .fz (natD b)]) rfl ?_ rfl
  simp [m_step, fnM, ownIx, backs, sRet, sSeq, sIf, sSet, sOwn, sDo, sNil, sAsg, Rs.sr, mOp2, Opd.ev, Opd.fin, at_, Sl.val, Rs.then, mLit, mVar, mB, mAnd, mOr, mNot, bAnd, bOr, bNot, mIf, bYes, mTup, mLst, evm, evo, fino, mFn, mCall, eva, sls, ioIx, putBack, Arg.opd, iSeq, iRng, fR1, fR2, sFor, tmName, tmTup, tmSeq, mApp, mExt, mPutAt, dPutAt, mIsi, dTy, isB, dEq, dNe, dLt, dLe, dGt, dGe, dIsN, dNotN, dAdd, dSub, dMod, dFdiv, dMul, dLen, dInt, dTuple, dList, mChain, sPar, setP, st_at ha, st_at hb, stp]
theorem ne_int (a b : Int) : dNe (.int a) (.int b) = some (.bool (!decide (a = b))) := by
  unfold dNe
  rw [okI, okI, eqv_int]
  rfl
section
variable {w : Web} {s : List Int} {p : List Nat} {r : Nat} {F0 f : List (Option Int)} {q : List Nat}
end

set_option autoImplicit false
theorem list_max : ∀ {l : List Int}, l ≠ [] → ∃ m, m ∈ l ∧ ∀ y ∈ l, y ≤ m
  | [], h => (h rfl).elim
  | [a], _ => ⟨a, by simp, by simp⟩
  | a :: b :: l, _ => by
    obtain ⟨m, h1, h2⟩ := list_max (l := b :: l) (by simp)
    by_cases e : a ≤ m
    · exact ⟨m, List.mem_cons_of_mem _ h1, fun y hy => by
        rcases List.mem_cons.mp hy with rfl | hy
        · exact e
        · exact h2 y hy⟩
    · exact ⟨a, List.mem_cons_self, fun y hy => by
        rcases List.mem_cons.mp hy with rfl | hy
        · exact Int.le_refl _
        · have := h2 y hy; omega⟩
theorem maxI_of {l : List Int} {m : Int} (h : m ∈ l) (h2 : ∀ y ∈ l, y ≤ m) : maxI l = some m := by
  cases l with
  | nil => cases h
  | cons a l =>
    show some (l.foldl max a) = _
    rw [foldl_max_of l a m h h2]
def valF (f : List (Option Int)) (v : Nat) : Int := (f[v]?.getD none).getD 0
theorem valF_eq {f : List (Option Int)} {v : Nat} {x : Int} (h : f[v]? = some (some x)) : valF f v = x := by
  unfold valF
  rw [h]
  rfl
theorem Has.val {f : List (Option Int)} {v : Nat} (h : Has f v) : f[v]? = some (some (valF f v)) := by
  obtain ⟨x, hx⟩ := h
  rw [valF_eq hx, hx]

set_option autoImplicit false
theorem mB_ok {m : ME} {ρ ρ' : Env} {b : Bool} (h : m ρ = .ok (.bool b) ρ') : mB m ρ = .ok b ρ' := by
  unfold mB
  rw [h]
  rfl
theorem bNot_ok {m : MB} {ρ ρ' : Env} {b : Bool} (h : m ρ = .ok b ρ') : bNot m ρ = .ok (!b) ρ' := by
  unfold bNot
  rw [h]
  rfl
theorem bOr_F {m n : MB} {ρ ρ1 ρ2 : Env} {b : Bool} (h : m ρ = .ok false ρ1) (h2 : n ρ1 = .ok b ρ2) : bOr m n ρ = .ok b ρ2 := by
  unfold bOr
  rw [h]
  exact h2
theorem bOr_T {m n : MB} {ρ ρ1 : Env} (h : m ρ = .ok true ρ1) : bOr m n ρ = .ok true ρ1 := by
  unfold bOr
  rw [h]
  rfl
theorem bAnd_T {m n : MB} {ρ ρ1 ρ2 : Env} {b : Bool} (h : m ρ = .ok true ρ1) (h2 : n ρ1 = .ok b ρ2) : bAnd m n ρ = .ok b ρ2 := by
  unfold bAnd
  rw [h]
  exact h2
theorem bAnd_F {m n : MB} {ρ ρ1 : Env} (h : m ρ = .ok false ρ1) : bAnd m n ρ = .ok false ρ1 := by
  unfold bAnd
  rw [h]
  rfl
theorem mAnd_T {m n : ME} {ρ ρ1 ρ2 : Env} {d : D} (h : m ρ = .ok (.bool true) ρ1) (h2 : n ρ1 = .ok d ρ2) : mAnd m n ρ = .ok d ρ2 := by
  unfold mAnd
  rw [h]
  exact h2
theorem isi_ok {Ts : List String} {o : Opd} {ρ ρ' : Env} {x : Option D} {t : String} (h : o.ev ρ = .ok x ρ') (h2 : (o.fin x ρ').bind dTy = some t) : mIsi Ts o ρ = .ok (.bool (Ts.any fun T => isB t T)) ρ' := by
  unfold mIsi
  rw [h]
  simp only [Rs.then, h2]
theorem num_int (i a b : Int) : f_is_number [.fz (.int i), .fz (.int a), .fz (.int b)] = .ok (.bool (decide (a ≤ i) && decide (i ≤ b))) [] := by
  unfold f_is_number
  by_cases h : a ≤ i
  · exact fn_rt (ρ := [.fz (.int i), .fz (.int a), .fz (.int b)]) rfl (by simp [m_is_number, fnM, ownIx, backs, sRet, sSeq, sIf, sSet, sOwn, sDo, sNil, sAsg, Rs.sr, mOp2, Opd.ev, Opd.fin, at_, Sl.val, Rs.then, mLit, mVar, mB, mAnd, mOr, mNot, bAnd, bOr, bNot, mIf, bYes, mTup, mLst, evm, evo, fino, mFn, mCall, eva, sls, ioIx, putBack, Arg.opd, iSeq, iRng, fR1, fR2, sFor, tmName, tmTup, tmSeq, mApp, mExt, mPutAt, dPutAt, mIsi, dTy, isB, dEq, dNe, dLt, dLe, dGt, dGe, dIsN, dNotN, dAdd, dSub, dMod, dFdiv, dMul, dAt, dLen, dInt, dTuple, dList, mChain, sPar, setP, h]) rfl
  · exact fn_rt (ρ := [.fz (.int i), .fz (.int a), .fz (.int b)]) rfl (by simp [m_is_number, fnM, ownIx, backs, sRet, sSeq, sIf, sSet, sOwn, sDo, sNil, sAsg, Rs.sr, mOp2, Opd.ev, Opd.fin, at_, Sl.val, Rs.then, mLit, mVar, mB, mAnd, mOr, mNot, bAnd, bOr, bNot, mIf, bYes, mTup, mLst, evm, evo, fino, mFn, mCall, eva, sls, ioIx, putBack, Arg.opd, iSeq, iRng, fR1, fR2, sFor, tmName, tmTup, tmSeq, mApp, mExt, mPutAt, dPutAt, mIsi, dTy, isB, dEq, dNe, dLt, dLe, dGt, dGe, dIsN, dNotN, dAdd, dSub, dMod, dFdiv, dMul, dAt, dLen, dInt, dTuple, dList, mChain, sPar, setP, h]) rfl
theorem need_one_ok {w : Web} {i : Nat} (h : i < w.n) : f_need_one [.fz (webD w), .fz (natD i)] = .ok .none [] := by
  have e : f_is_number [.fz (natD i), .fz (.int 0), .fz (.int ((w.n : Int) - 1))] = .ok (.bool true) [] := by
    unfold natD
    rw [num_int, decide_eq_true (by omega : (0 : Int) ≤ i), decide_eq_true (by omega : (i : Int) ≤ w.n - 1)]
    rfl
  refine W.fn0 rfl ?_
  unfold m_need_one
  refine .ifF (ρ1 := [.fz (webD w), .fz (natD i)]) ?_ (.nil rfl)
  have := web_0 w
  unfold natD at this
  simp [fnM, ownIx, backs, sRet, sSeq, sIf, sSet, sOwn, sDo, sNil, sAsg, Rs.sr, mOp2, Opd.ev, Opd.fin, at_, Sl.val, Rs.then, mLit, mVar, mB, mAnd, mOr, mNot, bAnd, bOr, bNot, mIf, bYes, mTup, mLst, evm, evo, fino, mFn, mCall, eva, sls, ioIx, putBack, Arg.opd, iSeq, iRng, fR1, fR2, sFor, tmName, tmTup, tmSeq, mApp, mExt, mPutAt, dPutAt, mIsi, dTy, isB, dEq, dNe, dLt, dLe, dGt, dGe, dIsN, dNotN, dAdd, dSub, dMod, dFdiv, dMul, dLen, dInt, dTuple, dList, mChain, sPar, setP, this, e]
theorem ge_pair {p q : Nat × Nat} (h : lexN p q) : dGe (pairN p) (pairN q) = some (.bool false) := by
  show some (PyData.bool (geI [(p.1 : Int), (p.2 : Int)] [(q.1 : Int), (q.2 : Int)])) = _
  congr 2
  unfold lexN at h
  by_cases e : (p.1 : Int) = q.1
  · simp only [geI, e, if_true]
    rw [if_neg (by omega)]
    exact decide_eq_false (by omega)
  · simp only [geI]
    rw [if_neg e]
    exact decide_eq_false (by omega)
theorem street_ok {w : Web} (hw : w.Ok) {e : Nat × Nat} (h : e ∈ w.es) : f_is_street [.fz (.int w.n), .fz (pairN e)] = .ok (.bool true) [] := by
  obtain ⟨h1, h2⟩ := hw.inn e h
  obtain ⟨a, b⟩ := e
  have e0 : f_is_number [.fz (.int a), .fz (.int 0), .fz (.int ((w.n : Int) - 1))] = .ok (.bool true) [] := by
    rw [num_int, decide_eq_true (by omega : (0 : Int) ≤ a), decide_eq_true (by simp only at h1 h2; omega : (a : Int) ≤ w.n - 1)]
    rfl
  have e1 : f_is_number [.fz (.int b), .fz (.int ((a : Int) + 1)), .fz (.int ((w.n : Int) - 1))] = .ok (.bool true) [] := by
    rw [num_int, decide_eq_true (by simp only at h1 h2; omega : (a : Int) + 1 ≤ b), decide_eq_true (by simp only at h1 h2; omega : (b : Int) ≤ w.n - 1)]
    rfl
  have d0 : dAt (pairN (a, b)) (.int 0) = some (.int a) := rfl
  have d1 : dAt (pairN (a, b)) (.int 1) = some (.int b) := rfl
  have t : dTy (pairN (a, b)) = some "tuple" := rfl
  have l : dLen [pairN (a, b)] = some (.int 2) := rfl
  have n2 : dNe (.int 2) (.int 2) = some (.bool false) := ne_int 2 2
  refine W.fn0 rfl ?_
  unfold m_is_street
  refine .seq (.ifF (ρ1 := [.fz (.int w.n), .fz (pairN (a, b))]) ?_ (.nil ?_))
  · have i0 : mIsi ["tuple"] (.sl 1) [.fz (.int w.n), .fz (pairN (a, b))] = .ok (.bool true) [.fz (.int w.n), .fz (pairN (a, b))] := isi_ok (x := none) (t := "tuple") rfl rfl
    have i1 : mOp2 dNe (.ex (mFn dLen [.sl 1])) (.ex (mLit (.int 2))) [.fz (.int w.n), .fz (pairN (a, b))] = .ok (.bool false) [.fz (.int w.n), .fz (pairN (a, b))] := op2_ok (x1 := some (.int 2)) (x2 := some (.int 2)) (ρ1 := [.fz (.int w.n), .fz (pairN (a, b))]) rfl rfl rfl rfl n2
    refine bOr_F (bNot_ok (mB_ok i0)) (bOr_F (mB_ok i1) (bNot_ok (b := true) (mB_ok ?_)))
    simp [fnM, ownIx, backs, sRet, sSeq, sIf, sSet, sOwn, sDo, sNil, sAsg, Rs.sr, mOp2, Opd.ev, Opd.fin, at_, Sl.val, Rs.then, mLit, mVar, mB, mAnd, mOr, mNot, bAnd, bOr, bNot, mIf, bYes, mTup, mLst, evm, evo, fino, mFn, mCall, eva, sls, ioIx, putBack, Arg.opd, iSeq, iRng, fR1, fR2, sFor, tmName, tmTup, tmSeq, mApp, mExt, mPutAt, dPutAt, mIsi, dTy, isB, dEq, dNe, dLt, dLe, dGt, dGe, dIsN, dNotN, dAdd, dSub, dMod, dFdiv, dMul, dLen, dInt, dTuple, dList, mChain, sPar, setP, d0, e0]
  · refine .rt (ρ' := [.fz (.int w.n), .fz (pairN (a, b))]) ?_ rfl
    simp [fnM, ownIx, backs, sRet, sSeq, sIf, sSet, sOwn, sDo, sNil, sAsg, Rs.sr, mOp2, Opd.ev, Opd.fin, at_, Sl.val, Rs.then, mLit, mVar, mB, mAnd, mOr, mNot, bAnd, bOr, bNot, mIf, bYes, mTup, mLst, evm, evo, fino, mFn, mCall, eva, sls, ioIx, putBack, Arg.opd, iSeq, iRng, fR1, fR2, sFor, tmName, tmTup, tmSeq, mApp, mExt, mPutAt, dPutAt, mIsi, dTy, isB, dEq, dNe, dLt, dLe, dGt, dGe, dIsN, dNotN, dAdd, dSub, dMod, dFdiv, dMul, dLen, dInt, dTuple, dList, mChain, sPar, setP, d0, d1, e1]
theorem need_web_ok {w : Web} (hw : w.Ok) : f_need_web [.fz (webD w)] = .ok .none [] := by
  have hm := hw.most
  have hp := hw.pos
  have hf := hw.few
  have e0 : f_is_number [.fz (.int w.n), .fz (.int 1), .fz (.int 10)] = .ok (.bool true) [] := by
    rw [num_int, decide_eq_true (by omega : (1 : Int) ≤ w.n), decide_eq_true (by omega : (w.n : Int) ≤ 10)]
    rfl
  have d0 : dAt (webD w) (.int 0) = some (.int w.n) := rfl
  have t : dTy (webD w) = some "tuple" := rfl
  have l : dLen [webD w] = some (.int 2) := rfl
  have n2 : dNe (.int 2) (.int 2) = some (.bool false) := ne_int 2 2
  refine W.fn0 rfl ?_
  unfold m_need_web
  refine .seq (.ifF (ρ1 := [.fz (webD w), .no, .no, .no]) ?_ (.nil ?_))
  · have i0 : mIsi ["tuple"] (.sl 0) [.fz (webD w), .no, .no, .no] = .ok (.bool true) [.fz (webD w), .no, .no, .no] := isi_ok (x := none) (t := "tuple") rfl rfl
    have i1 : mOp2 dNe (.ex (mFn dLen [.sl 0])) (.ex (mLit (.int 2))) [.fz (webD w), .no, .no, .no] = .ok (.bool false) [.fz (webD w), .no, .no, .no] := op2_ok (x1 := some (.int 2)) (x2 := some (.int 2)) (ρ1 := [.fz (webD w), .no, .no, .no]) rfl rfl rfl rfl n2
    refine bOr_F (bNot_ok (mB_ok i0)) (bOr_F (mB_ok i1) (bNot_ok (b := true) (mB_ok ?_)))
    simp [fnM, ownIx, backs, sRet, sSeq, sIf, sSet, sOwn, sDo, sNil, sAsg, Rs.sr, mOp2, Opd.ev, Opd.fin, at_, Sl.val, Rs.then, mLit, mVar, mB, mAnd, mOr, mNot, bAnd, bOr, bNot, mIf, bYes, mTup, mLst, evm, evo, fino, mFn, mCall, eva, sls, ioIx, putBack, Arg.opd, iSeq, iRng, fR1, fR2, sFor, tmName, tmTup, tmSeq, mApp, mExt, mPutAt, dPutAt, mIsi, dTy, isB, dEq, dNe, dLt, dLe, dGt, dGe, dIsN, dNotN, dAdd, dSub, dMod, dFdiv, dMul, dLen, dInt, dTuple, dList, mChain, sPar, setP, d0, e0]
  refine .seq (.ifF (ρ1 := [.fz (webD w), .no, .no, .no]) (by simp [fnM, ownIx, backs, sRet, sSeq, sIf, sSet, sOwn, sDo, sNil, sAsg, Rs.sr, mOp2, Opd.ev, Opd.fin, at_, Sl.val, Rs.then, mLit, mVar, mB, mAnd, mOr, mNot, bAnd, bOr, bNot, mIf, bYes, mTup, mLst, evm, evo, fino, mFn, mCall, eva, sls, ioIx, putBack, Arg.opd, iSeq, iRng, fR1, fR2, sFor, tmName, tmTup, tmSeq, mApp, mExt, mPutAt, dPutAt, mIsi, dTy, isB, dEq, dNe, dLt, dLe, dGt, dGe, dIsN, dNotN, dAdd, dSub, dMod, dFdiv, dMul, dLen, dInt, dTuple, dList, mChain, sPar, setP, web_1]) (.nil ?_))
  refine .seq (.nx (ρ' := [.fz (webD w), .fz (.int w.n), .fz (.tuple (w.es.map pairN)), .no]) (by simp [fnM, ownIx, backs, sRet, sSeq, sIf, sSet, sOwn, sDo, sNil, sAsg, Rs.sr, mOp2, Opd.ev, Opd.fin, at_, Sl.val, Rs.then, mLit, mVar, mB, mAnd, mOr, mNot, bAnd, bOr, bNot, mIf, bYes, mTup, mLst, evm, evo, fino, mFn, mCall, eva, sls, ioIx, putBack, Arg.opd, iSeq, iRng, fR1, fR2, sFor, tmName, tmTup, tmSeq, mApp, mExt, mPutAt, dPutAt, mIsi, dTy, isB, dEq, dNe, dLt, dLe, dGt, dGe, dIsN, dNotN, dAdd, dSub, dMod, dFdiv, dMul, dLen, dInt, dTuple, dList, mChain, sPar, setP, webD]) ?_)
  refine .rng (n := w.es.length) (ρ0 := [.fz (webD w), .fz (.int w.n), .fz (.tuple (w.es.map pairN)), .no]) (fun k ρ => ∃ x, ρ = [.fz (webD w), .fz (.int w.n), .fz (.tuple (w.es.map pairN)), x]) ?_ ⟨_, rfl⟩ ?_ (fun _ _ => rfl)
  · exact iRng_nat (xs := [some (.int w.es.length)]) (by simp [fnM, ownIx, backs, sRet, sSeq, sIf, sSet, sOwn, sDo, sNil, sAsg, Rs.sr, mOp2, Opd.ev, Opd.fin, at_, Sl.val, Rs.then, mLit, mVar, mB, mAnd, mOr, mNot, bAnd, bOr, bNot, mIf, bYes, mTup, mLst, evm, evo, fino, mFn, mCall, eva, sls, ioIx, putBack, Arg.opd, iSeq, iRng, fR1, fR2, sFor, tmName, tmTup, tmSeq, mApp, mExt, mPutAt, dPutAt, mIsi, dTy, isB, dEq, dNe, dLt, dLe, dGt, dGe, dIsN, dNotN, dAdd, dSub, dMod, dFdiv, dMul, dAt, dLen, dInt, dTuple, dList, mChain, sPar, setP]) rfl (by omega)
  · rintro k _ hk ⟨x, rfl⟩
    have ek : dAt (.tuple (w.es.map pairN)) (.int k) = some (pairN w.es[k]) := by
      show atI _ (k : Int) = _
      rw [atI_nat, List.getElem?_map, List.getElem?_eq_getElem hk]
      rfl
    have es := street_ok hw (List.getElem_mem hk)
    refine .ifF (ρ1 := [.fz (webD w), .fz (.int w.n), .fz (.tuple (w.es.map pairN)), .fz (.int k)]) ?_ (.nil ⟨_, rfl⟩)
    by_cases h0 : 0 < k
    · have ek1 : dAt (.tuple (w.es.map pairN)) (.int ((k : Int) - 1)) = some (pairN (w.es[k - 1]'(by omega))) := by
        rw [show (k : Int) - 1 = ((k - 1 : Nat) : Int) by omega]
        show atI _ ((k - 1 : Nat) : Int) = _
        rw [atI_nat, List.getElem?_map, List.getElem?_eq_getElem (by omega)]
        rfl
      have hg := ge_pair (List.pairwise_iff_getElem.mp hw.sorted (k - 1) k (by omega) hk (by omega))
      simp [fnM, ownIx, backs, sRet, sSeq, sIf, sSet, sOwn, sDo, sNil, sAsg, Rs.sr, mOp2, Opd.ev, Opd.fin, at_, Sl.val, Rs.then, mLit, mVar, mB, mAnd, mOr, mNot, bAnd, bOr, bNot, mIf, bYes, mTup, mLst, evm, evo, fino, mFn, mCall, eva, sls, ioIx, putBack, Arg.opd, iSeq, iRng, fR1, fR2, sFor, tmName, tmTup, tmSeq, mApp, mExt, mPutAt, dPutAt, mIsi, dTy, isB, dEq, dLt, dLe, dGt, dIsN, dNotN, dAdd, dSub, dMod, dFdiv, dMul, dLen, dInt, dTuple, dList, mChain, sPar, setP, ek, es, ek1, hg, h0]
    · simp [fnM, ownIx, backs, sRet, sSeq, sIf, sSet, sOwn, sDo, sNil, sAsg, Rs.sr, mOp2, Opd.ev, Opd.fin, at_, Sl.val, Rs.then, mLit, mVar, mB, mAnd, mOr, mNot, bAnd, bOr, bNot, mIf, bYes, mTup, mLst, evm, evo, fino, mFn, mCall, eva, sls, ioIx, putBack, Arg.opd, iSeq, iRng, fR1, fR2, sFor, tmName, tmTup, tmSeq, mApp, mExt, mPutAt, dPutAt, mIsi, dTy, isB, dEq, dLt, dLe, dGt, dIsN, dNotN, dAdd, dSub, dMod, dFdiv, dMul, dLen, dInt, dTuple, dList, mChain, sPar, setP, ek, es, h0]
theorem are_moods_ok {n : Nat} {s : List Int} (hs : StOk n s) (hn : n ≤ 10) : f_are_moods [.fz (stD s), .fz (.int n)] = .ok (.bool true) [] := by
  have t : dTy (stD s) = some "tuple" := rfl
  have l : dLen [stD s] = some (.int n) := by
    show some (PyData.int ((s.map PyData.int).length : Nat)) = _
    rw [List.length_map, hs.len]
  have q : dEq (.int (n : Int)) (.int n) = some (.bool true) := by
    unfold dEq
    rw [okI, eqv_int]
    simp
  have hc := mComp_of (f := PyData.int) (i := 2) (it := iSeq (mVar 0)) (cd := bYes) (elt := mCall f_is_number [.v (mVar 2), .v (mLit (.int 0)), .v (mOp2 dSub (.ex (mLit (.int 3))) (.ex (mLit (.int 1))))]) (fun _ => true) (fun _ => .bool true) (ρ := [.fz (stD s), .fz (.int n), .no]) (ρ1 := [.fz (stD s), .fz (.int n), .no]) (ds := s)
    (by simp [fnM, ownIx, backs, sRet, sSeq, sIf, sSet, sOwn, sDo, sNil, sAsg, Rs.sr, mOp2, Opd.ev, Opd.fin, at_, Sl.val, Rs.then, mLit, mVar, mB, mAnd, mOr, mNot, bAnd, bOr, bNot, mIf, bYes, mTup, mLst, evm, evo, fino, mFn, mCall, eva, sls, ioIx, putBack, Arg.opd, iSeq, iRng, fR1, fR2, sFor, tmName, tmTup, tmSeq, mApp, mExt, mPutAt, dPutAt, mIsi, dTy, isB, dEq, dNe, dLt, dLe, dGt, dGe, dIsN, dNotN, dAdd, dSub, dMod, dFdiv, dMul, dAt, dLen, dInt, dTuple, dList, mChain, sPar, setP, stD]) (.no rfl) (fun j hj => by simp [bYes]) (fun j hj _ => by
      have h3 := hs.three j hj
      have e := num_int j 0 2
      rw [decide_eq_true h3.1, decide_eq_true (by omega : j ≤ 2)] at e
      simp [fnM, ownIx, backs, sRet, sSeq, sIf, sSet, sOwn, sDo, sNil, sAsg, Rs.sr, mOp2, Opd.ev, Opd.fin, at_, Sl.val, Rs.then, mLit, mVar, mB, mAnd, mOr, mNot, bAnd, bOr, bNot, mIf, bYes, mTup, mLst, evm, evo, fino, mFn, mCall, eva, sls, ioIx, putBack, Arg.opd, iSeq, iRng, fR1, fR2, sFor, tmName, tmTup, tmSeq, mApp, mExt, mPutAt, dPutAt, mIsi, dTy, isB, dEq, dNe, dLt, dLe, dGt, dGe, dIsN, dNotN, dAdd, dSub, dMod, dFdiv, dMul, dAt, dLen, dInt, dTuple, dList, mChain, sPar, setP, e]) (by have := hs.len; omega)
  rw [List.filter_eq_self.mpr (fun _ _ => rfl)] at hc
  have ha : dAll [.list (s.map fun _ => PyData.bool true)] = some (.bool true) := by
    have hb : ∀ s : List Int, dBls (s.map fun _ => PyData.bool true) = some (s.map fun _ => true) := fun s => by
      induction s with
      | nil => rfl
      | cons a s ih => show (dBls (s.map fun _ => PyData.bool true)).map _ = _; rw [ih]; rfl
    show (dBls (s.map fun _ => PyData.bool true)).map _ = _
    rw [hb]
    simp
  refine W.fn0 rfl ?_
  unfold m_are_moods
  refine .ret (ρ' := [.fz (stD s), .fz (.int n), .no]) ?_ rfl
  have i0 : mIsi ["tuple"] (.sl 0) [.fz (stD s), .fz (.int n), .no] = .ok (.bool true) [.fz (stD s), .fz (.int n), .no] := isi_ok (x := none) (t := "tuple") rfl rfl
  have l1 : mFn dLen [.sl 0] [.fz (stD s), .fz (.int n), .no] = .ok (.int n) [.fz (stD s), .fz (.int n), .no] := mFn_ok (xs := [none]) (ds := [stD s]) rfl rfl l
  refine mAnd_T i0 (mAnd_T (op2_ok (x1 := some (.int n)) (x2 := none) (ρ1 := [.fz (stD s), .fz (.int n), .no]) (ev_ex l1) rfl rfl rfl q) (mFn_1 hc ha))
theorem need_both_ok {w : Web} (hw : w.Ok) {s : List Int} (hs : StOk w.n s) : f_need_both [.fz (webD w), .fz (stD s)] = .ok .none [] := by
  refine W.fn0 rfl ?_
  unfold m_need_both
  refine .seq (.do' (mCall_0 (ρ1 := [.fz (webD w), .fz (stD s)]) (xs := [some (webD w)]) (ss := [.fz (webD w)]) rfl rfl (need_web_ok hw)) ?_)
  have e : mCall f_are_moods [.v (mVar 1), .v (mOp2 dAt (.sl 0) (.ex (mLit (.int 0))))] [.fz (webD w), .fz (stD s)] = .ok (.bool true) [.fz (webD w), .fz (stD s)] := mCall_0 (xs := [some (stD s), some (.int w.n)]) (ss := [.fz (stD s), .fz (.int w.n)]) rfl rfl (are_moods_ok hs hw.most)
  refine .ifF (ρ1 := [.fz (webD w), .fz (stD s)]) ?_ (.nil rfl)
  unfold bNot mB
  simp only [e, Rs.then]
  rfl

set_option autoImplicit false
theorem in_ring {a b : Int} (ha : 0 ≤ a ∧ a < 3) (hb : 0 ≤ b ∧ b < 3) : dIn (.tuple [.int a, .int b]) (.list [.tuple [.int 0, .int 1], .tuple [.int 1, .int 2], .tuple [.int 2, .int 0]]) = some (.bool (decide ((b - a + 1) % 3 - 1 = 1))) := by
  have e : ∀ c d : Int, PyData.eqv (.tuple [.int c, .int d]) (.tuple [.int a, .int b]) = decide (c = a ∧ d = b) := fun c d => by
    refine (eqv_intsT [c, d] [a, b]).trans (decide_eq_decide.mpr (by simp))
  have o1 : okD (.tuple [.int a, .int b]) = true := okIntsT [a, b]
  have o2 : okD (.list [.tuple [.int 0, .int 1], .tuple [.int 1, .int 2], .tuple [.int 2, .int 0]]) = true := by decide
  show Option.map PyData.bool (if (okD (.tuple [.int a, .int b]) && okD (.list [.tuple [.int 0, .int 1], .tuple [.int 1, .int 2], .tuple [.int 2, .int 0]])) = true then some (inAny [.tuple [.int 0, .int 1], .tuple [.int 1, .int 2], .tuple [.int 2, .int 0]] (.tuple [.int a, .int b])) else none) = _
  rw [o1, o2]
  simp only [Bool.and_self, if_true, Option.map_some, inAny, List.any_cons, List.any_nil, e]
  congr 2
  clear e o1 o2
  have h1 : a = 0 ∨ a = 1 ∨ a = 2 := by omega
  have h2 : b = 0 ∨ b = 1 ∨ b = 2 := by omega
  rcases h1 with rfl | rfl | rfl <;> rcases h2 with rfl | rfl | rfl <;> decide
theorem eva_cons {a : Arg} {as : List Arg} {ρ ρ1 ρ2 : Env} {x : Option D} {xs : List (Option D)} (h1 : a.opd.ev ρ = .ok x ρ1) (h2 : eva as ρ1 = .ok xs ρ2) : eva (a :: as) ρ = .ok (x :: xs) ρ2 := by
  unfold eva
  rw [h1]
  simp only [Rs.then]
  rw [h2]
theorem law_step_eq {n : Nat} {s : List Int} (hs : StOk n s) {i j : Nat} (hi : i < n) (hj : j < n) : f__law_step [.fz (stD s), .fz (natD i), .fz (natD j)] = .ok (.int (stp s i j)) [] := by
  have a := mood_three hs i
  have b := mood_three hs j
  have ei := st_at (s := s) (i := i) (by rw [hs.len]; exact hi)
  have ej := st_at (s := s) (i := j) (by rw [hs.len]; exact hj)
  refine W.fn0 rfl ?_
  unfold m__law_step
  refine .seq (.set' (d := .tuple [.int (mood s i), .int (mood s j)]) (ρ' := [.fz (stD s), .fz (natD i), .fz (natD j), .no]) (by simp [fnM, ownIx, backs, sRet, sSeq, sIf, sSet, sOwn, sDo, sNil, sAsg, Rs.sr, mOp2, Opd.ev, Opd.fin, at_, Sl.val, Rs.then, mLit, mVar, mB, mAnd, mOr, mNot, bAnd, bOr, bNot, mIf, bYes, mTup, mLst, evm, evo, fino, mFn, mCall, eva, sls, ioIx, putBack, Arg.opd, iSeq, iRng, fR1, fR2, sFor, tmName, tmTup, tmSeq, mApp, mExt, mPutAt, dPutAt, mIsi, dTy, isB, dEq, dNe, dLt, dLe, dGt, dGe, dIsN, dNotN, dAdd, dSub, dMod, dFdiv, dMul, dLen, dInt, dTuple, dList, mChain, sPar, setP, ei, ej]) ?_)
  show W _ [.fz (stD s), .fz (natD i), .fz (natD j), .fz (.tuple [.int (mood s i), .int (mood s j)])] _ _
  have e1 : mB (mOp2 dIn (.sl 3) (.ex (mLst [mTup [mLit (.int 0), mLit (.int 1)], mTup [mLit (.int 1), mLit (.int 2)], mTup [mLit (.int 2), mLit (.int 0)]]))) [.fz (stD s), .fz (natD i), .fz (natD j), .fz (.tuple [.int (mood s i), .int (mood s j)])] = .ok (decide (stp s i j = 1)) [.fz (stD s), .fz (natD i), .fz (natD j), .fz (.tuple [.int (mood s i), .int (mood s j)])] :=
    mB_ok (op2_ok (x1 := none) (x2 := some (.list [.tuple [.int 0, .int 1], .tuple [.int 1, .int 2], .tuple [.int 2, .int 0]])) (ρ1 := [.fz (stD s), .fz (natD i), .fz (natD j), .fz (.tuple [.int (mood s i), .int (mood s j)])]) rfl rfl rfl rfl (in_ring a b))
  have e2 : mB (mOp2 dNe (.ex (mOp2 dAt (.sl 3) (.ex (mLit (.int 0))))) (.ex (mOp2 dAt (.sl 3) (.ex (mLit (.int 1)))))) [.fz (stD s), .fz (natD i), .fz (natD j), .fz (.tuple [.int (mood s i), .int (mood s j)])] = .ok (!decide (mood s i = mood s j)) [.fz (stD s), .fz (natD i), .fz (natD j), .fz (.tuple [.int (mood s i), .int (mood s j)])] :=
    mB_ok (op2_ok (x1 := some (.int (mood s i))) (x2 := some (.int (mood s j))) (ρ1 := [.fz (stD s), .fz (natD i), .fz (natD j), .fz (.tuple [.int (mood s i), .int (mood s j)])]) rfl rfl rfl rfl (ne_int _ _))
  refine .ret (ρ' := [.fz (stD s), .fz (natD i), .fz (natD j), .fz (.tuple [.int (mood s i), .int (mood s j)])]) ?_ rfl
  unfold mIf
  simp only [e1, e2, Rs.then]
  by_cases h1 : stp s i j = 1
  · simp [h1, mLit]
  · by_cases h2 : mood s i = mood s j
    · have h3 : stp s i j = 0 := by unfold stp; omega
      simp [h3, h2, mLit]
    · have h3 : stp s i j = -1 := by unfold stp at h1 ⊢; omega
      simp [h3, h2, mLit, mNeg, Rs.then]
theorem dict3 {m : Int} (h : 0 ≤ m ∧ m < 3) : dAt (.dict [(.int 0, .int 1), (.int 1, .int 2), (.int 2, .int 0)]) (.int m) = some (.int ((m + 1) % 3)) := by
  have : m = 0 ∨ m = 1 ∨ m = 2 := by omega
  rcases this with rfl | rfl | rfl <;> rfl
def mix (w : Web) (s : List Int) (k : Nat) : List Int := (List.range w.n).map fun i => if i < k ∧ hot w s i = true then (mood s i + 1) % 3 else mood s i
theorem mix_0 {w : Web} {s : List Int} (hs : StOk w.n s) : mix w s 0 = s := by
  refine List.ext_getElem? fun i => ?_
  unfold mix
  rw [List.getElem?_map]
  by_cases hi : i < w.n
  · rw [List.getElem?_range hi, mood_at (by rw [hs.len]; exact hi)]
    simp
  · rw [List.getElem?_eq_none (by simp; omega), List.getElem?_eq_none (by rw [hs.len]; omega)]
    rfl
theorem mix_n (w : Web) (s : List Int) : mix w s w.n = nxt w s := by
  unfold mix nxt
  refine List.map_congr_left fun i hi => ?_
  have := List.mem_range.mp hi
  simp [this]
theorem mix_on {w : Web} {s : List Int} {k : Nat} (hk : k < w.n) (h : hot w s k = true) : (mix w s k).set k ((mood s k + 1) % 3) = mix w s (k + 1) := by
  unfold mix
  rw [set_range]
  refine List.map_congr_left fun i _ => ?_
  by_cases e : i = k
  · subst e
    simp [h]
  · simp only [if_neg e]
    by_cases e2 : i < k
    · simp [e2, show i < k + 1 by omega]
    · simp [e2, show ¬ i < k + 1 by omega]
theorem mix_off {w : Web} {s : List Int} {k : Nat} (h : hot w s k = false) : mix w s k = mix w s (k + 1) := by
  unfold mix
  refine List.map_congr_left fun i _ => ?_
  by_cases e : i = k
  · subst e
    simp [h]
  · by_cases e2 : i < k
    · simp [e2, show i < k + 1 by omega]
    · simp [e2, show ¬ i < k + 1 by omega]
theorem mix_len (w : Web) (s : List Int) (k : Nat) : (mix w s k).length = w.n := by unfold mix; simp
theorem law_next_eq {w : Web} (hw : w.Ok) {s : List Int} (hs : StOk w.n s) : f__law_next [.fz (webD w), .fz (stD s)] = .ok (stD (nxt w s)) [] := by
  have hm := hw.most
  refine W.fn0 rfl ?_
  unfold m__law_next
  have e0 : mCall f__law_near [.v (mVar 0)] [.fz (webD w), .fz (stD s), .no, .no, .no, .no] = .ok (nearD w) [.fz (webD w), .fz (stD s), .no, .no, .no, .no] := mCall_0 (xs := [some (webD w)]) (ss := [.fz (webD w)]) rfl rfl (law_near_eq hw)
  have e1 : mFn dList [.sl 1] [.fz (webD w), .fz (stD s), .no, .no, .no, .no] = .ok (.list (s.map PyData.int)) [.fz (webD w), .fz (stD s), .no, .no, .no, .no] := rfl
  refine .seq (.par (ds := [.list (s.map PyData.int), nearD w]) (ρ1 := [.fz (webD w), .fz (stD s), .no, .no, .no, .no]) ?_ ?_)
  · show evm [mFn dList [.sl 1], mCall f__law_near [.v (mVar 0)]] [.fz (webD w), .fz (stD s), .no, .no, .no, .no] = _
    exact evm_cons (ρ1 := [.fz (webD w), .fz (stD s), .no, .no, .no, .no]) e1 (evm_cons (ρ1 := [.fz (webD w), .fz (stD s), .no, .no, .no, .no]) e0 rfl)
  show W _ [.fz (webD w), .fz (stD s), .own (.list (s.map PyData.int)), .fz (nearD w), .no, .no] _ _
  refine .seq (.forA (f := natD) (l := List.range w.n) (ρ0 := [.fz (webD w), .fz (stD s), .own (.list (s.map PyData.int)), .fz (nearD w), .no, .no]) (fun k ρ => ∃ x, ρ = [.fz (webD w), .fz (stD s), .own (.list ((mix w s k).map PyData.int)), .fz (nearD w), x, .no]) ?_ ⟨.no, by rw [mix_0 hs]⟩ ?_ ?_)
  · exact rng_map (xs := [some (natD w.n)]) (by simp [fnM, ownIx, backs, sRet, sSeq, sIf, sSet, sOwn, sDo, sNil, sAsg, Rs.sr, mOp2, Opd.ev, Opd.fin, at_, Sl.val, Rs.then, mLit, mVar, mB, mAnd, mOr, mNot, bAnd, bOr, bNot, mIf, bYes, mTup, mLst, evm, evo, fino, mFn, mCall, eva, sls, ioIx, putBack, Arg.opd, iSeq, iRng, fR1, fR2, sFor, tmName, tmTup, tmSeq, mApp, mExt, mPutAt, dPutAt, mIsi, dTy, isB, dEq, dNe, dLt, dLe, dGt, dGe, dIsN, dNotN, dAdd, dSub, dMod, dFdiv, dMul, dLen, dInt, dTuple, dList, mChain, sPar, setP, web_0]) rfl (by omega)
  · rintro k a _ ek ⟨x, rfl⟩
    have hk : k < w.n := by
      have := look_lt ek
      rw [List.length_range] at this
      exact this
    rw [List.getElem?_range hk] at ek
    cases ek
    have hc := mComp_of (f := natD) (i := 5) (it := iSeq (mOp2 dAt (.sl 3) (.sl 4))) (cd := mB (mOp2 dEq (.ex (mCall f__law_step [.v (mVar 1), .v (mVar 4), .v (mVar 5)])) (.ex (mLit (.int 1))))) (elt := mVar 5) (fun j => decide (stp s k j = 1)) natD
      (ρ := [.fz (webD w), .fz (stD s), .own (.list ((mix w s k).map PyData.int)), .fz (nearD w), .fz (natD k), .no]) (ρ1 := [.fz (webD w), .fz (stD s), .own (.list ((mix w s k).map PyData.int)), .fz (nearD w), .fz (natD k), .no]) (ds := w.nbr k)
      (by simp [fnM, ownIx, backs, sRet, sSeq, sIf, sSet, sOwn, sDo, sNil, sAsg, Rs.sr, mOp2, Opd.ev, Opd.fin, at_, Sl.val, Rs.then, mLit, mVar, mB, mAnd, mOr, mNot, bAnd, bOr, bNot, mIf, bYes, mTup, mLst, evm, evo, fino, mFn, mCall, eva, sls, ioIx, putBack, Arg.opd, iSeq, iRng, fR1, fR2, sFor, tmName, tmTup, tmSeq, mApp, mExt, mPutAt, dPutAt, mIsi, dTy, isB, dEq, dNe, dLt, dLe, dGt, dGe, dIsN, dNotN, dAdd, dSub, dMod, dFdiv, dMul, dLen, dInt, dTuple, dList, mChain, sPar, setP, near_at' hk]) (.no rfl) (fun j hj => ?_) (fun j hj _ => by simp [fnM, ownIx, backs, sRet, sSeq, sIf, sSet, sOwn, sDo, sNil, sAsg, Rs.sr, mOp2, Opd.ev, Opd.fin, at_, Sl.val, Rs.then, mLit, mVar, mB, mAnd, mOr, mNot, bAnd, bOr, bNot, mIf, bYes, mTup, mLst, evm, evo, fino, mFn, mCall, eva, sls, ioIx, putBack, Arg.opd, iSeq, iRng, fR1, fR2, sFor, tmName, tmTup, tmSeq, mApp, mExt, mPutAt, dPutAt, mIsi, dTy, isB, dEq, dNe, dLt, dLe, dGt, dGe, dIsN, dNotN, dAdd, dSub, dMod, dFdiv, dMul, dAt, dLen, dInt, dTuple, dList, mChain, sPar, setP]) (by have := w.nbr_len k; omega)
    · have hcond : mB (mOp2 dNe (.ex (mComp (iSeq (mOp2 dAt (.sl 3) (.sl 4))) (tmName 5) (mB (mOp2 dEq (.ex (mCall f__law_step [.v (mVar 1), .v (mVar 4), .v (mVar 5)])) (.ex (mLit (.int 1))))) (mVar 5) [5])) (.ex (mLst []))) [.fz (webD w), .fz (stD s), .own (.list ((mix w s k).map PyData.int)), .fz (nearD w), .fz (natD k), .no] = .ok (hot w s k) [.fz (webD w), .fz (stD s), .own (.list ((mix w s k).map PyData.int)), .fz (nearD w), .fz (natD k), .no] := by
        have hb : (!((w.nbr k).filter fun j => decide (stp s k j = 1)).isEmpty) = hot w s k := by
          unfold hot
          generalize w.nbr k = l
          induction l with
          | nil => rfl
          | cons j l ih =>
            rw [List.filter_cons, List.any_cons]
            by_cases e : stp s k j = 1
            · simp [e]
            · simp only [e, decide_false, Bool.false_eq_true, if_false, Bool.false_or]
              exact ih
        rw [← hb]
        exact mB_ok (op2_ok (x2 := some (.list [])) (ev_ex hc) rfl rfl rfl (ne_nil _))
      cases hh : hot w s k with
      | true =>
        rw [hh] at hcond
        refine .ifT hcond (.nx (ρ' := [.fz (webD w), .fz (stD s), .own (.list ((mix w s (k + 1)).map PyData.int)), .fz (nearD w), .fz (natD k), .no]) ?_ ⟨_, rfl⟩)
        have ed : mDict [(mLit (.int 0), mLit (.int 1)), (mLit (.int 1), mLit (.int 2)), (mLit (.int 2), mLit (.int 0))] [.fz (webD w), .fz (stD s), .own (.list ((mix w s k).map PyData.int)), .fz (nearD w), .fz (natD k), .no] = .ok (.dict [(.int 0, .int 1), (.int 1, .int 2), (.int 2, .int 0)]) [.fz (webD w), .fz (stD s), .own (.list ((mix w s k).map PyData.int)), .fz (nearD w), .fz (natD k), .no] := rfl
        have em : mOp2 dAt (.sl 1) (.sl 4) [.fz (webD w), .fz (stD s), .own (.list ((mix w s k).map PyData.int)), .fz (nearD w), .fz (natD k), .no] = .ok (.int (mood s k)) [.fz (webD w), .fz (stD s), .own (.list ((mix w s k).map PyData.int)), .fz (nearD w), .fz (natD k), .no] := by simp [fnM, ownIx, backs, sRet, sSeq, sIf, sSet, sOwn, sDo, sNil, sAsg, Rs.sr, mOp2, Opd.ev, Opd.fin, at_, Sl.val, Rs.then, mLit, mVar, mB, mAnd, mOr, mNot, bAnd, bOr, bNot, mIf, bYes, mTup, mLst, evm, evo, fino, mFn, mCall, eva, sls, ioIx, putBack, Arg.opd, iSeq, iRng, fR1, fR2, sFor, tmName, tmTup, tmSeq, mApp, mExt, mPutAt, dPutAt, mIsi, dTy, isB, dEq, dNe, dLt, dLe, dGt, dGe, dIsN, dNotN, dAdd, dSub, dMod, dFdiv, dMul, dLen, dInt, dTuple, dList, mChain, sPar, setP, st_at (show k < s.length by rw [hs.len]; exact hk)]
        have ee := op2_ok (g := dAt) (ev_ex ed) (ev_ex em) rfl rfl (dict3 (mood_three hs k))
        show sAsg _ _ [.fz (webD w), .fz (stD s), .own (.list ((mix w s k).map PyData.int)), .fz (nearD w), .fz (natD k), .no] = _
        unfold sAsg
        rw [ee, ← mix_on hk hh]
        have hkl := mix_len w s k
        simp [fnM, ownIx, backs, sRet, sSeq, sIf, sSet, sOwn, sDo, sNil, sAsg, Rs.sr, mOp2, Opd.ev, Opd.fin, at_, Sl.val, Rs.then, mLit, mVar, mB, mAnd, mOr, mNot, bAnd, bOr, bNot, mIf, bYes, mTup, mLst, evm, evo, fino, mFn, mCall, eva, sls, ioIx, putBack, Arg.opd, iSeq, iRng, fR1, fR2, sFor, tmName, tmTup, tmSeq, mApp, mExt, mPutAt, dPutAt, mIsi, dTy, isB, dEq, dNe, dLt, dLe, dGt, dGe, dIsN, dNotN, dAdd, dSub, dMod, dFdiv, dMul, dAt, dLen, dInt, dTuple, dList, mChain, sPar, setP, natD, ixN_nat, hkl, hk, List.map_set]
      | false =>
        rw [hh] at hcond
        exact .ifF hcond (.nil ⟨_, by rw [mix_off hh]⟩)
    · have hj' := (Web.adj_lt hw ((Web.mem_nbr hw).mp hj)).2.1
      have es := law_step_eq hs hk hj'
      have ec : mCall f__law_step [.v (mVar 1), .v (mVar 4), .v (mVar 5)] [.fz (webD w), .fz (stD s), .own (.list ((mix w s k).map PyData.int)), .fz (nearD w), .fz (natD k), .fz (natD j)] = .ok (.int (stp s k j)) [.fz (webD w), .fz (stD s), .own (.list ((mix w s k).map PyData.int)), .fz (nearD w), .fz (natD k), .fz (natD j)] := mCall_0 (xs := [some (stD s), some (natD k), some (natD j)]) (ss := [.fz (stD s), .fz (natD k), .fz (natD j)]) rfl rfl es
      have eq1 : dEq (.int (stp s k j)) (.int 1) = some (.bool (decide (stp s k j = 1))) := by
        unfold dEq
        rw [okI, okI, eqv_int]
        rfl
      exact mB_ok (op2_ok (x2 := some (.int 1)) (ev_ex ec) rfl rfl rfl eq1)
  · rintro _ ⟨x, rfl⟩
    rw [List.length_range, mix_n]
    exact .ret (d := stD (nxt w s)) (ρ' := [.fz (webD w), .fz (stD s), .own (.list ((nxt w s).map PyData.int)), .fz (nearD w), x, .no]) rfl rfl
theorem eq_st (s t : List Int) : dEq (stD s) (stD t) = some (.bool (decide (s = t))) := by
  unfold dEq stD
  rw [okIntsT, okIntsT, eqv_intsT]
  rfl

set_option autoImplicit false
theorem compM_gen {α : Type} {f : α → D} {tm : TM} {vs : List Nat} {cd : MB} {elt : ME} {p : α → Bool} {g : α → D} {ρ : Env} : ∀ (ds : List α) (acc : List D), (∀ d ∈ ds, ∃ ρ', tm (f d) ρ = .ok () ρ' ∧ cd ρ' = .ok (p d) ρ' ∧ (p d = true → elt ρ' = .ok (g d) ρ') ∧ wipeE ρ' vs = ρ) →
    compM tm cd elt vs (ds.map f) acc ρ = .ok (acc ++ (ds.filter p).map g) ρ
  | [], acc, _ => by simp [compM]
  | d :: ds, acc, h => by
    obtain ⟨ρ', h1, h2, h3, h4⟩ := h d List.mem_cons_self
    have ih := fun acc' => compM_gen ds acc' fun x hx => h x (List.mem_cons_of_mem _ hx)
    have e0 : compM tm cd elt vs ((d :: ds).map f) acc ρ = (tm (f d) ρ).then fun _ ρ1 => (cd ρ1).then fun b ρ2 => if b = true then (elt ρ2).then fun y ρ3 => compM tm cd elt vs (ds.map f) (acc ++ [y]) (wipeE ρ3 vs) else compM tm cd elt vs (ds.map f) acc (wipeE ρ2 vs) := rfl
    rw [e0, h1]
    simp only [Rs.then]
    rw [h2]
    simp only [Rs.then]
    cases hp : p d with
    | false =>
      simp only [Bool.false_eq_true, if_false]
      rw [h4, ih acc, List.filter_cons_of_neg (by rw [hp]; decide)]
    | true =>
      simp only [if_true]
      rw [h3 hp]
      simp only [Rs.then]
      rw [h4, ih, List.filter_cons_of_pos hp, List.map_cons, List.append_assoc]
      rfl
theorem mComp_gen {α : Type} {f : α → D} {it : MI} {tm : TM} {vs : List Nat} {cd : MB} {elt : ME} (p : α → Bool) (g : α → D) {ρ ρ1 ρ0 ρ2 : Env} {ds : List α} (hit : it ρ = .ok (ds.map f) ρ1) (hz : ds.length ≤ 1000000) (hw : wipeE ρ1 vs = ρ0) (h : ∀ d ∈ ds, ∃ ρ', tm (f d) ρ0 = .ok () ρ' ∧ cd ρ' = .ok (p d) ρ' ∧ (p d = true → elt ρ' = .ok (g d) ρ') ∧ wipeE ρ' vs = ρ0) (hu : unwipe ρ1 ρ0 vs = ρ2) :
    mComp it tm cd elt vs ρ = .ok (.list ((ds.filter p).map g)) ρ2 := by
  unfold mComp
  rw [hit]
  show (if (ds.map f).length ≤ sizeLine then _ else _) = _
  rw [if_pos (by rw [List.length_map]; unfold sizeLine; omega), hw, compM_gen ds [] h, ← hu]
  rfl
theorem cat_st {a b : List Int} (h : a.length + b.length ≤ 1000000) : dAdd (stD a) (stD b) = some (stD (a ++ b)) := by
  show (if (a.map PyData.int).length + (b.map PyData.int).length ≤ sizeLine then some (PyData.tuple (a.map PyData.int ++ b.map PyData.int)) else none) = _
  rw [if_pos (by rw [List.length_map, List.length_map]; unfold sizeLine; omega), ← List.map_append]
  rfl
theorem seq_nx {a b : SM} {ρ ρ1 : Env} (h : a ρ = .nx ρ1) : sSeq a b ρ = b ρ1 := by
  unfold sSeq
  rw [h]
theorem seq_ex {a b : SM} {ρ ρ1 : Env} {e : Exn} (h : a ρ = .ex e ρ1) : sSeq a b ρ = .ex e ρ1 := by
  unfold sSeq
  rw [h]
theorem fn_ex {len n : Nat} {m : SM} {ss : List Sl} {e : Exn} {ρ : Env} (h : ownIx 0 ss = []) (h2 : m (ss ++ List.replicate (len - n) .no) = .ex e ρ) : fnM len n [] m ss = .ex e := by
  unfold fnM
  rw [if_pos h, h2]
  rfl
theorem mCall_ex {f : FM} {as : List Arg} {ρ ρ1 : Env} {xs : List (Option D)} {ss : List Sl} {e : Exn} (hio : ioIx as = []) (h1 : eva as ρ = .ok xs ρ1) (h2 : sls as xs ρ1 = some ss) (h3 : f ss = .ex e) : mCall f as ρ = .ex e ρ1 := by
  unfold mCall
  rw [h1]
  simp only [Rs.then]
  rw [h2]
  simp only [h3, if_pos hio]
theorem sDo_ex {m : ME} {ρ ρ1 : Env} {e : Exn} (h : m ρ = .ex e ρ1) : sDo m ρ = .ex e ρ1 := by
  unfold sDo
  rw [h]
  rfl

set_option autoImplicit false
theorem eqv_str (a b : Str) : PyData.eqv (.str a) (.str b) = decide (a = b) := by simp only [PyData.eqv]; rw [Bool.eq_iff_iff]; simp
theorem eq_int (a b : Int) : dEq (.int a) (.int b) = some (.bool (decide (a = b))) := by
  unfold dEq
  rw [okI, okI, eqv_int]
  rfl
theorem eqv_bool (a b : Bool) : PyData.eqv (.bool a) (.bool b) = decide (a = b) := by cases a <;> cases b <;> rfl
theorem eq_bool (a b : Bool) : dEq (.bool a) (.bool b) = some (.bool (decide (a = b))) := by
  unfold dEq
  rw [okB, okB, eqv_bool]
  rfl

set_option autoImplicit false
theorem near_len (w : Web) : dLen [nearD w] = some (.int w.n) := by
  unfold nearD dLen
  simp
theorem bls_map {α : Type} (p : α → Bool) : ∀ l : List α, dBls (l.map fun x => PyData.bool (p x)) = some (l.map p)
  | [] => rfl
  | x :: l => by
    show (dBls (l.map fun x => PyData.bool (p x))).map _ = _
    rw [bls_map p l]
    rfl
theorem stirred_in_eq {w : Web} (hw : w.Ok) {s : List Int} (hs : StOk w.n s) : f_stirred_in [.fz (nearD w), .fz (stD s)] = .ok (.list (((List.range w.n).filter (hot w s)).map natD)) [] := by
  have hm := hw.most
  have hc := mComp_of (f := natD) (i := 2) (it := iRng fR1 [.ex (mFn dLen [.sl 0])]) (cd := mB (mFn dAny [.ex (mComp (iSeq (mOp2 dAt (.sl 0) (.sl 2))) (tmName 3) (bYes) (mOp2 dEq (.ex (mCall f_step [.v (mVar 1), .v (mVar 2), .v (mVar 3)])) (.ex (mLit (.int 1)))) [3])])) (elt := mVar 2) (hot w s) natD
    (ρ := [.fz (nearD w), .fz (stD s), .no, .no]) (ρ1 := [.fz (nearD w), .fz (stD s), .no, .no]) (ds := List.range w.n)
    (rng_map (xs := [some (.int w.n)]) (evo_1 (mFn_ok (xs := [none]) (ds := [nearD w]) rfl rfl (near_len w))) rfl (by omega)) (.no rfl) (fun j hj => ?_) (fun j hj _ => by simp [fnM, ownIx, backs, sRet, sSeq, sIf, sSet, sOwn, sDo, sNil, sAsg, Rs.sr, mOp2, Opd.ev, Opd.fin, at_, Sl.val, Rs.then, mLit, mVar, mB, mAnd, mOr, mNot, bAnd, bOr, bNot, mIf, bYes, mTup, mLst, evm, evo, fino, mFn, mCall, eva, sls, ioIx, putBack, Arg.opd, iSeq, iRng, fR1, fR2, sFor, tmName, tmTup, tmSeq, mApp, mExt, mPutAt, dPutAt, mIsi, dTy, isB, dEq, dNe, dLt, dLe, dGt, dGe, dIsN, dNotN, dAdd, dSub, dMod, dFdiv, dMul, dAt, dLen, dInt, dTuple, dList, mChain, sPar, setP]) (by simp; omega)
  · refine W.fn0 rfl ?_
    unfold m_stirred_in
    exact .ret hc rfl
  · have hj' : j < w.n := List.mem_range.mp hj
    have hi := mComp_of (f := natD) (i := 3) (it := iSeq (mOp2 dAt (.sl 0) (.sl 2))) (cd := bYes) (elt := mOp2 dEq (.ex (mCall f_step [.v (mVar 1), .v (mVar 2), .v (mVar 3)])) (.ex (mLit (.int 1)))) (fun _ => true) (fun u => .bool (decide (stp s j u = 1)))
      (ρ := [.fz (nearD w), .fz (stD s), .fz (natD j), .no]) (ρ1 := [.fz (nearD w), .fz (stD s), .fz (natD j), .no]) (ds := w.nbr j)
      (by simp [fnM, ownIx, backs, sRet, sSeq, sIf, sSet, sOwn, sDo, sNil, sAsg, Rs.sr, mOp2, Opd.ev, Opd.fin, at_, Sl.val, Rs.then, mLit, mVar, mB, mAnd, mOr, mNot, bAnd, bOr, bNot, mIf, bYes, mTup, mLst, evm, evo, fino, mFn, mCall, eva, sls, ioIx, putBack, Arg.opd, iSeq, iRng, fR1, fR2, sFor, tmName, tmTup, tmSeq, mApp, mExt, mPutAt, dPutAt, mIsi, dTy, isB, dEq, dNe, dLt, dLe, dGt, dGe, dIsN, dNotN, dAdd, dSub, dMod, dFdiv, dMul, dLen, dInt, dTuple, dList, mChain, sPar, setP, near_at' hj']) (.no rfl) (fun u hu => rfl) (fun u hu _ => ?_) (by have := w.nbr_len j; omega)
    · rw [List.filter_eq_self.mpr (fun _ _ => rfl)] at hi
      have ha : dAny [.list ((w.nbr j).map fun u => PyData.bool (decide (stp s j u = 1)))] = some (.bool (hot w s j)) := by
        show (dBls _).map _ = _
        rw [bls_map]
        unfold hot
        simp
      exact mB_ok (mFn_1 hi ha)
    · have hu' := (Web.adj_lt hw ((Web.mem_nbr hw).mp hu)).2.1
      have ec : mCall f_step [.v (mVar 1), .v (mVar 2), .v (mVar 3)] [.fz (nearD w), .fz (stD s), .fz (natD j), .fz (natD u)] = .ok (.int (stp s j u)) [.fz (nearD w), .fz (stD s), .fz (natD j), .fz (natD u)] := mCall_0 (xs := [some (stD s), some (natD j), some (natD u)]) (ss := [.fz (stD s), .fz (natD j), .fz (natD u)]) rfl rfl (step_eq (by rw [hs.len]; exact hj') (by rw [hs.len]; exact hu'))
      exact op2_ok (x2 := some (.int 1)) (ev_ex ec) rfl rfl rfl (eq_int _ _)
theorem next_state_eq {w : Web} (hw : w.Ok) {s : List Int} (hs : StOk w.n s) : f_next_state [.fz (nearD w), .fz (stD s)] = .ok (stD (nxt w s)) [] := by
  have hm := hw.most
  let L : D := .list (((List.range w.n).filter (hot w s)).map natD)
  have hc := mComp_of (f := natD) (i := 3) (it := iRng fR1 [.ex (mFn dLen [.sl 0])]) (cd := bYes) (elt := mOp2 dMod (.ex (mOp2 dAdd (.ex (mOp2 dAt (.sl 1) (.sl 3))) (.ex (mFn dInt [.ex (mOp2 dIn (.sl 3) (.sl 2))])))) (.ex (mLit (.int 3)))) (fun _ => true) (fun j => .int (if hot w s j = true then (mood s j + 1) % 3 else mood s j))
    (ρ := [.fz (nearD w), .fz (stD s), .fz L, .no]) (ρ1 := [.fz (nearD w), .fz (stD s), .fz L, .no]) (ds := List.range w.n)
    (rng_map (xs := [some (.int w.n)]) (evo_1 (mFn_ok (xs := [none]) (ds := [nearD w]) rfl rfl (near_len w))) rfl (by omega)) (.no rfl) (fun j hj => rfl) (fun j hj _ => ?_) (by simp; omega)
  · rw [List.filter_eq_self.mpr (fun _ _ => rfl)] at hc
    refine W.fn0 rfl ?_
    unfold m_next_state
    refine .seq (.set' (d := L) (ρ' := [.fz (nearD w), .fz (stD s), .no, .no]) (mCall_0 (xs := [some (nearD w), some (stD s)]) (ss := [.fz (nearD w), .fz (stD s)]) rfl rfl (stirred_in_eq hw hs)) ?_)
    refine .ret (mFn_1 hc ?_) rfl
    unfold nxt stD
    rw [List.map_map]
    rfl
  · have hj' : j < w.n := List.mem_range.mp hj
    have hin : dIn (natD j) L = some (.bool (hot w s j)) := by
      show (dHas (natD j) (.list (((List.range w.n).filter (hot w s)).map natD))).map PyData.bool = _
      rw [has_nat, Option.map_some]
      congr 2
      rw [Bool.eq_iff_iff, decide_eq_true_iff, List.mem_filter, List.mem_range]
      exact ⟨fun h => h.2, fun h => ⟨hj', h⟩⟩
    have e1 : mOp2 dAt (.sl 1) (.sl 3) [.fz (nearD w), .fz (stD s), .fz L, .fz (natD j)] = .ok (.int (mood s j)) [.fz (nearD w), .fz (stD s), .fz L, .fz (natD j)] := op2_ok (x1 := none) (x2 := none) (ρ1 := [.fz (nearD w), .fz (stD s), .fz L, .fz (natD j)]) rfl rfl rfl rfl (st_at (by rw [hs.len]; exact hj'))
    have e2 : mOp2 dIn (.sl 3) (.sl 2) [.fz (nearD w), .fz (stD s), .fz L, .fz (natD j)] = .ok (.bool (hot w s j)) [.fz (nearD w), .fz (stD s), .fz L, .fz (natD j)] := op2_ok (x1 := none) (x2 := none) (ρ1 := [.fz (nearD w), .fz (stD s), .fz L, .fz (natD j)]) rfl rfl rfl rfl hin
    have m3 := mood_three hs j
    cases hh : hot w s j with
    | true =>
      rw [hh] at e2
      have e3 : mFn dInt [.ex (mOp2 dIn (.sl 3) (.sl 2))] [.fz (nearD w), .fz (stD s), .fz L, .fz (natD j)] = .ok (.int 1) [.fz (nearD w), .fz (stD s), .fz L, .fz (natD j)] := mFn_1 e2 rfl
      exact op2_ok (x2 := some (.int 3)) (ev_ex (op2_ok (ev_ex e1) (ev_ex e3) rfl rfl rfl)) rfl rfl rfl rfl
    | false =>
      rw [hh] at e2
      have e3 : mFn dInt [.ex (mOp2 dIn (.sl 3) (.sl 2))] [.fz (nearD w), .fz (stD s), .fz L, .fz (natD j)] = .ok (.int 0) [.fz (nearD w), .fz (stD s), .fz L, .fz (natD j)] := mFn_1 e2 rfl
      have e4 : mood s j = (mood s j + 0) % 3 := by omega
      simp only [Bool.false_eq_true, if_false]
      have e5 : mOp2 dMod (.ex (mOp2 dAdd (.ex (mOp2 dAt (.sl 1) (.sl 3))) (.ex (mFn dInt [.ex (mOp2 dIn (.sl 3) (.sl 2))])))) (.ex (mLit (.int 3))) [.fz (nearD w), .fz (stD s), .fz L, .fz (natD j)] = .ok (.int ((mood s j + 0) % 3)) [.fz (nearD w), .fz (stD s), .fz L, .fz (natD j)] := op2_ok (x2 := some (.int 3)) (ev_ex (op2_ok (ev_ex e1) (ev_ex e3) rfl rfl rfl)) rfl rfl rfl rfl
      rw [← e4] at e5
      exact e5
theorem last_at {w : Web} {s : List Int} (k : Nat) : dAt (.list ((List.range (k + 1)).map fun k => stD (runL w s k))) (.int (-1)) = some (stD (runL w s k)) := by
  show atI _ (-1) = _
  unfold L2.atI L2.ixN
  rw [List.length_map, List.length_range, if_neg (by omega), if_pos (by omega)]
  show ((List.range (k + 1)).map fun k => stD (runL w s k))[(-1 + ((k + 1 : Nat) : Int)).toNat]? = _
  rw [show (-1 + ((k + 1 : Nat) : Int)).toNat = k by omega]
  simp
theorem states_from_eq {w : Web} (hw : w.Ok) {s : List Int} (hs : StOk w.n s) {m : Nat} (hm : m ≤ 1000) : f_states_from [.fz (nearD w), .fz (stD s), .fz (natD m)] = .ok (.list ((List.range (m + 1)).map fun k => stD (runL w s k))) [] := by
  refine W.fn0 rfl ?_
  unfold m_states_from
  refine .seq (.own (d := .list [stD s]) (ρ' := [.fz (nearD w), .fz (stD s), .fz (natD m), .no, .no]) rfl ?_)
  refine .seq (.forA (f := natD) (l := List.range m) (ρ0 := [.fz (nearD w), .fz (stD s), .fz (natD m), .own (.list [stD s]), .no]) (fun k ρ => ∃ x, ρ = [.fz (nearD w), .fz (stD s), .fz (natD m), .own (.list ((List.range (k + 1)).map fun k => stD (runL w s k))), x]) ?_ ⟨.no, rfl⟩ ?_ ?_)
  · exact rng_map (xs := [none]) rfl rfl (by omega)
  · rintro k a _ ek ⟨x, rfl⟩
    have hk : k < m := by
      have := look_lt ek
      rw [List.length_range] at this
      exact this
    rw [List.getElem?_range hk] at ek
    cases ek
    have e1 : mOp2 dAt (.sl 3) (.ex (mNeg (mLit (.int 1)))) [.fz (nearD w), .fz (stD s), .fz (natD m), .own (.list ((List.range (k + 1)).map fun k => stD (runL w s k))), .fz (natD k)] = .ok (stD (runL w s k)) [.fz (nearD w), .fz (stD s), .fz (natD m), .own (.list ((List.range (k + 1)).map fun k => stD (runL w s k))), .fz (natD k)] :=
      op2_ok (x1 := none) (x2 := some (.int (-1))) (ρ1 := [.fz (nearD w), .fz (stD s), .fz (natD m), .own (.list ((List.range (k + 1)).map fun k => stD (runL w s k))), .fz (natD k)]) rfl rfl rfl rfl (last_at k)
    have e2 : eva [.v (mVar 0), .v (mOp2 dAt (.sl 3) (.ex (mNeg (mLit (.int 1)))))] [.fz (nearD w), .fz (stD s), .fz (natD m), .own (.list ((List.range (k + 1)).map fun k => stD (runL w s k))), .fz (natD k)] = .ok [some (nearD w), some (stD (runL w s k))] [.fz (nearD w), .fz (stD s), .fz (natD m), .own (.list ((List.range (k + 1)).map fun k => stD (runL w s k))), .fz (natD k)] :=
      eva_cons (ρ1 := [.fz (nearD w), .fz (stD s), .fz (natD m), .own (.list ((List.range (k + 1)).map fun k => stD (runL w s k))), .fz (natD k)]) rfl (eva_cons (ev_ex e1) rfl)
    refine .app rfl (mCall_0 e2 (ss := [.fz (nearD w), .fz (stD (runL w s k))]) rfl (next_state_eq hw (run_ok hs k))) rfl (by rw [List.length_map, List.length_range]; omega) ⟨.fz (natD k), ?_⟩
    rw [List.range_succ (n := k + 1), List.map_append]
    rfl
  · rintro _ ⟨x, rfl⟩
    rw [List.length_range]
    exact .ret (d := .list ((List.range (m + 1)).map fun k => stD (runL w s k))) (ρ' := [.fz (nearD w), .fz (stD s), .fz (natD m), .fz (.list ((List.range (m + 1)).map fun k => stD (runL w s k))), x]) rfl rfl
theorem tick_eq {w : Web} (hw : w.Ok) {s : List Int} (hs : StOk w.n s) : f_tick [.fz (webD w), .fz (stD s)] = .ok (stD (nxt w s)) [] := by
  refine W.fn0 rfl ?_
  unfold m_tick
  refine .seq (.do' (mCall_0 (ρ1 := [.fz (webD w), .fz (stD s)]) (xs := [some (webD w), some (stD s)]) (ss := [.fz (webD w), .fz (stD s)]) rfl rfl (need_both_ok hw hs)) ?_)
  have e0 : mCall f_near_lists [.v (mVar 0)] [.fz (webD w), .fz (stD s)] = .ok (nearD w) [.fz (webD w), .fz (stD s)] := mCall_0 (xs := [some (webD w)]) (ss := [.fz (webD w)]) rfl rfl (near_eq hw)
  exact .ret (mCall_0 (eva_cons (ev_ex e0) (eva_cons (x := some (stD s)) (ρ1 := [.fz (webD w), .fz (stD s)]) rfl rfl)) (ss := [.fz (nearD w), .fz (stD s)]) rfl (next_state_eq hw hs)) rfl
theorem stirred_eq {w : Web} (hw : w.Ok) {s : List Int} (hs : StOk w.n s) : f_stirred [.fz (webD w), .fz (stD s)] = .ok (.tuple (((List.range w.n).filter (hot w s)).map natD)) [] := by
  refine W.fn0 rfl ?_
  unfold m_stirred
  refine .seq (.do' (mCall_0 (ρ1 := [.fz (webD w), .fz (stD s)]) (xs := [some (webD w), some (stD s)]) (ss := [.fz (webD w), .fz (stD s)]) rfl rfl (need_both_ok hw hs)) ?_)
  have e0 : mCall f_near_lists [.v (mVar 0)] [.fz (webD w), .fz (stD s)] = .ok (nearD w) [.fz (webD w), .fz (stD s)] := mCall_0 (xs := [some (webD w)]) (ss := [.fz (webD w)]) rfl rfl (near_eq hw)
  exact .ret (mFn_1 (mCall_0 (eva_cons (ev_ex e0) (eva_cons (x := some (stD s)) (ρ1 := [.fz (webD w), .fz (stD s)]) rfl rfl)) (ss := [.fz (nearD w), .fz (stD s)]) rfl (stirred_in_eq hw hs)) rfl) rfl
theorem need_number_ok {i a b : Int} (h : a ≤ i) (h2 : i ≤ b) : f_need_number [.fz (.int i), .fz (.int a), .fz (.int b)] = .ok .none [] := by
  have e := num_int i a b
  rw [decide_eq_true h, decide_eq_true h2] at e
  refine W.fn0 rfl ?_
  unfold m_need_number
  exact .ifF (bNot_ok (b := true) (mB_ok (mCall_0 (ρ1 := [.fz (.int i), .fz (.int a), .fz (.int b)]) (xs := [some (.int i), some (.int a), some (.int b)]) (ss := [.fz (.int i), .fz (.int a), .fz (.int b)]) rfl rfl e))) (.nil rfl)
theorem if_ex {t : MB} {a b : SM} {ρ ρ1 ρ2 : Env} {e : Exn} (h : t ρ = .ok true ρ1) (h2 : a ρ1 = .ex e ρ2) : sIf t a b ρ = .ex e ρ2 := by
  unfold sIf
  rw [h]
  exact h2
theorem run_eq {w : Web} (hw : w.Ok) {s : List Int} (hs : StOk w.n s) {m : Nat} (hm : m ≤ 500) : f_run [.fz (webD w), .fz (stD s), .fz (natD m)] = .ok (.tuple ((List.range (m + 1)).map fun k => stD (runL w s k))) [] := by
  refine W.fn0 rfl ?_
  unfold m_run
  refine .seq (.do' (mCall_0 (ρ1 := [.fz (webD w), .fz (stD s), .fz (natD m)]) (xs := [some (webD w), some (stD s)]) (ss := [.fz (webD w), .fz (stD s)]) rfl rfl (need_both_ok hw hs)) ?_)
  refine .seq (.do' (mCall_0 (ρ1 := [.fz (webD w), .fz (stD s), .fz (natD m)]) (xs := [some (natD m), some (.int 0), some (.int 500)]) (ss := [.fz (natD m), .fz (.int 0), .fz (.int 500)]) rfl rfl (need_number_ok (by omega) (by omega))) ?_)
  have e0 : mCall f_near_lists [.v (mVar 0)] [.fz (webD w), .fz (stD s), .fz (natD m)] = .ok (nearD w) [.fz (webD w), .fz (stD s), .fz (natD m)] := mCall_0 (xs := [some (webD w)]) (ss := [.fz (webD w)]) rfl rfl (near_eq hw)
  exact .ret (mFn_1 (mCall_0 (eva_cons (ev_ex e0) (eva_cons (x := some (stD s)) (xs := [some (natD m)]) (ρ1 := [.fz (webD w), .fz (stD s), .fz (natD m)]) rfl rfl)) (ss := [.fz (nearD w), .fz (stD s), .fz (natD m)]) rfl (states_from_eq hw hs (by omega))) rfl) rfl
theorem mAnd_F {m n : ME} {ρ ρ1 : Env} (h : m ρ = .ok (.bool false) ρ1) : mAnd m n ρ = .ok (.bool false) ρ1 := by
  unfold mAnd
  rw [h]
  rfl
theorem mRef_ex {m : ME} {ρ ρ' : Env} {x y : Str} (h : m ρ = .ex ⟨x, none⟩ ρ') (hc : codeOf x = some y) : mRef m ρ = .ok (.str y) ρ' := by
  unfold mRef
  rw [h]
  simp only [hc]

set_option autoImplicit false
theorem Shp.st (s : List Int) : Shp 1 (stD s) := Shp.tup Shp.int s
theorem okSt (s : List Int) : okD (stD s) = true := (Shp.st s).ok
theorem okSts (l : List (List Int)) : okD (.list (l.map stD)) = true := (Shp.list Shp.st l).ok
theorem eqv_st (s t : List Int) : PyData.eqv (stD s) (stD t) = decide (s = t) := eqv_intsT s t
theorem has_st (l : List (List Int)) (t : List Int) : dHas (stD t) (.list (l.map stD)) = some (decide (t ∈ l)) := by
  show (if (okD (stD t) && okD (.list (l.map stD))) = true then some (inAny (l.map stD) (stD t)) else none) = _
  rw [okSt, okSts, inAny_map eqv_st]
  simp
theorem toKs_ints : ∀ l : List Int, toKs (l.map PyData.int) = some (l.map Sum.inl)
  | [] => rfl
  | x :: l => by
    show (toK1 (.int x)).bind _ = _
    rw [show toKs (l.map PyData.int) = _ from toKs_ints l]
    rfl
theorem toKT_st (s : List Int) : toKT (stD s) = some (s.map Sum.inl) := toKs_ints s
theorem toK1_st (s : List Int) : toK1 (stD s) = none := rfl
theorem inl_inj (s t : List Int) : (s.map Sum.inl : List Key) = t.map Sum.inl ↔ s = t := by
  refine ⟨fun h => ?_, fun h => by rw [h]⟩
  induction s generalizing t with
  | nil => cases t with
    | nil => rfl
    | cons y t => cases h
  | cons x s ih => cases t with
    | nil => cases h
    | cons y t =>
      simp only [List.map_cons, List.cons.injEq, Sum.inl.injEq] at h
      rw [h.1, ih t h.2]
theorem dkEq_st (s t : List Int) : dkEq (stD s) (stD t) = decide (s = t) := by
  unfold dkEq
  rw [toK1_st, toK1_st, toKT_st, toKT_st]
  exact decide_eq_decide.mpr (inl_inj s t)
/-- a dict whose keys are states -/
def kvsS (l : List (List Int × D)) : List (D × D) := l.map fun p => (stD p.1, p.2)
theorem keyFits_st (l : List (List Int × D)) (t : List Int) : keyFits (kvsS l) (stD t) = true := by
  unfold keyFits
  rw [toK1_st, toKT_st]
  simp [kvsS, toKT_st]
theorem dGetV_st (l : List (List Int × D)) (t : List Int) : dGetV (kvsS l) (stD t) = (l.find? fun p => decide (p.1 = t)).map (·.2) := by
  unfold dGetV kvsS
  induction l with
  | nil => rfl
  | cons p l ih =>
    rw [List.map_cons, List.find?_cons, List.find?_cons]
    simp only [dkEq_st]
    by_cases h : p.1 = t
    · simp [h]
    · simp only [h, decide_false]
      exact ih
theorem dPutV_st {l : List (List Int × D)} {t : List Int} {d : D} (h : ∀ p ∈ l, p.1 ≠ t) : dPutV (kvsS l) (stD t) d = kvsS (l ++ [(t, d)]) := by
  unfold dPutV
  rw [if_neg]
  · simp [kvsS]
  · unfold kvsS
    rw [List.any_map, List.any_eq_true]
    rintro ⟨p, hp, e⟩
    exact h p hp (of_decide_eq_true ((dkEq_st _ _).symm.trans e))
theorem has_dict (l : List (List Int × D)) (t : List Int) : dHas (stD t) (.dict (kvsS l)) = some (decide (t ∈ l.map (·.1))) := by
  show (if keyFits (kvsS l) (stD t) = true then some (dGetV (kvsS l) (stD t)).isSome else none) = _
  rw [keyFits_st, dGetV_st]
  simp only [if_true]
  congr 1
  rw [Bool.eq_iff_iff, decide_eq_true_iff, Option.isSome_map, List.find?_isSome]
  simp [eq_comm]
theorem at_dict (l : List (List Int × D)) (t : List Int) : dAt (.dict (kvsS l)) (stD t) = (l.find? fun p => decide (p.1 = t)).map (·.2) := by
  rw [← dGetV_st]
  have h : ∀ kvs : List (D × D), keyFits kvs (stD t) = true → dAt (.dict kvs) (stD t) = dGetV kvs (stD t) := fun kvs hk => by
    have e : dAt (.dict kvs) (stD t) = if keyFits kvs (stD t) then dGetV kvs (stD t) else none := by
      unfold stD
      cases kvs with
      | nil => rfl
      | cons p kvs =>
        cases kvs with
        | nil =>
          obtain ⟨a, b⟩ := p
          cases a <;> first | rfl | (cases b <;> rfl)
        | cons q kvs =>
          obtain ⟨a, b⟩ := p
          cases a <;> first | rfl | (cases b <;> rfl)
    rw [e, hk]
    rfl
  exact h _ (keyFits_st l t)
theorem put_dict {l : List (List Int × D)} {t : List Int} {d : D} (hl : l.length < 1000000) (h : ∀ p ∈ l, p.1 ≠ t) : dPutAt (.dict (kvsS l)) (stD t) d = some (.dict (kvsS (l ++ [(t, d)]))) := by
  show (if (kvsS l).length < sizeLine ∧ keyFits (kvsS l) (stD t) = true then some (PyData.dict (dPutV (kvsS l) (stD t) d)) else none) = _
  rw [if_pos ⟨by unfold kvsS sizeLine; rw [List.length_map]; omega, keyFits_st l t⟩, dPutV_st h]
theorem nat_few : ∀ (n : Nat) (l : List Nat), l.Nodup → (∀ x ∈ l, x < n) → l.length ≤ n
  | 0, l, _, h => by
    cases l with
    | nil => exact Nat.le_refl _
    | cons x l => exact absurd (h x List.mem_cons_self) (Nat.not_lt_zero _)
  | n + 1, l, hn, h => by
    by_cases hm : n ∈ l
    · have h1 := nat_few n (l.erase n) (hn.erase n) fun x hx => by
        have := hn.mem_erase_iff.mp hx
        have := h x this.2
        omega
      rw [List.length_erase_of_mem hm] at h1
      omega
    · have := nat_few n l hn fun x hx => by
        have := h x hx
        have : x ≠ n := fun e => hm (e ▸ hx)
        omega
      omega
def code : List Int → Nat
  | [] => 0
  | x :: s => x.toNat + 3 * code s
theorem code_lt : ∀ {s : List Int}, (∀ x ∈ s, 0 ≤ x ∧ x < 3) → code s < 3 ^ s.length
  | [], _ => by decide
  | x :: s, h => by
    have h1 := code_lt fun y hy => h y (List.mem_cons_of_mem _ hy)
    have h2 := h x List.mem_cons_self
    rw [List.length_cons, Nat.pow_succ]
    show x.toNat + 3 * code s < _
    omega
theorem code_inj : ∀ {s t : List Int}, s.length = t.length → (∀ x ∈ s, 0 ≤ x ∧ x < 3) → (∀ x ∈ t, 0 ≤ x ∧ x < 3) → code s = code t → s = t
  | [], [], _, _, _, _ => rfl
  | [], _ :: _, h, _, _, _ => by cases h
  | _ :: _, [], h, _, _, _ => by cases h
  | x :: s, y :: t, hl, hs, ht, h => by
    have h1 := hs x List.mem_cons_self
    have h2 := ht y List.mem_cons_self
    have h3 : x.toNat + 3 * code s = y.toNat + 3 * code t := h
    rw [code_inj (Nat.succ.inj hl) (fun z hz => hs z (List.mem_cons_of_mem _ hz)) (fun z hz => ht z (List.mem_cons_of_mem _ hz)) (by omega), show x = y by omega]
theorem few_states {n : Nat} {l : List (List Int)} (hn : l.Nodup) (h : ∀ s ∈ l, StOk n s) : l.length ≤ 3 ^ n := by
  have h1 := nat_few (3 ^ n) (l.map code) (by
    unfold List.Nodup
    rw [List.pairwise_map]
    exact hn.imp_of_mem fun ha hb hne e => hne (code_inj (by rw [(h _ ha).len, (h _ hb).len]) (h _ ha).three (h _ hb).three e)) fun x hx => by
    obtain ⟨s, hs, rfl⟩ := List.mem_map.mp hx
    have := code_lt (h s hs).three
    rw [(h s hs).len] at this
    exact this
  rwa [List.length_map] at h1
def rowS (w : Web) (s : List Int) (k : Nat) : List (List Int) := (List.range k).map (runL w s)
theorem rowS_len (w : Web) (s : List Int) (k : Nat) : (rowS w s k).length = k := by unfold rowS; simp
theorem rowS_get {w : Web} {s : List Int} {k i : Nat} (h : i < k) : (rowS w s k)[i]? = some (runL w s i) := by
  unfold rowS
  rw [List.getElem?_map, List.getElem?_range h]
  rfl
theorem rowS_succ (w : Web) (s : List Int) (k : Nat) : rowS w s (k + 1) = rowS w s k ++ [runL w s k] := by
  unfold rowS
  rw [List.range_succ, List.map_append]
  rfl
theorem mem_rowS {w : Web} {s : List Int} {k : Nat} {t : List Int} : t ∈ rowS w s k ↔ ∃ i, i < k ∧ runL w s i = t := by
  unfold rowS
  simp
def Diff (w : Web) (s : List Int) (k : Nat) : Prop := ∀ i j, i < j → j < k → runL w s i ≠ runL w s j
theorem Diff.most {w : Web} (hw : w.Ok) {s : List Int} (hs : StOk w.n s) {k : Nat} (h : Diff w s k) : k ≤ 59049 := by
  have h1 := few_states (n := w.n) (l := rowS w s k) (by
    unfold List.Nodup
    rw [List.pairwise_iff_getElem]
    intro i j hi hj hij
    rw [rowS_len] at hi hj
    have e1 := rowS_get (w := w) (s := s) hi
    have e2 := rowS_get (w := w) (s := s) hj
    rw [List.getElem?_eq_getElem (by rw [rowS_len]; exact hi)] at e1
    rw [List.getElem?_eq_getElem (by rw [rowS_len]; exact hj)] at e2
    rw [Option.some.inj e1, Option.some.inj e2]
    exact h i j hij hj) fun t ht => by
    obtain ⟨i, _, rfl⟩ := mem_rowS.mp ht
    exact run_ok hs i
  rw [rowS_len] at h1
  have h2 : 3 ^ w.n ≤ 3 ^ 10 := Nat.pow_le_pow_right (by omega) hw.most
  omega
structure Rnd (w : Web) (s : List Int) (N f : Nat) : Prop where
  lt : f < N
  eq : runL w s N = runL w s f
  df : Diff w s N
theorem Rnd.only {w : Web} {s : List Int} {N f N' f' : Nat} (h : Rnd w s N f) (h' : Rnd w s N' f') : N = N' ∧ f = f' := by
  have key : ∀ {N f N' f' : Nat}, Rnd w s N f → Rnd w s N' f' → N' ≤ N := fun {N f N' f'} h h' => by
    by_cases hl : N < N'
    · exact absurd h.eq.symm (h'.df f N h.lt hl)
    · omega
  have e : N = N' := Nat.le_antisymm (key h' h) (key h h')
  subst e
  refine ⟨rfl, ?_⟩
  have e := h.eq.symm.trans h'.eq
  rcases Nat.lt_trichotomy f f' with l | l | l
  · exact absurd e (h.df _ _ l h'.lt)
  · exact l
  · exact absurd e.symm (h.df _ _ l h.lt)
theorem Rnd.fold {w : Web} {s : List Int} {N f : Nat} (h : Rnd w s N f) : ∀ m, runL w s (N + m) = runL w s (f + m)
  | 0 => h.eq
  | m + 1 => by
    show nxt w (runL w s (N + m)) = nxt w (runL w s (f + m))
    rw [h.fold m]
theorem Rnd.at {w : Web} {s : List Int} {N f : Nat} (h : Rnd w s N f) : ∀ (q r : Nat), runL w s (f + r + (N - f) * q) = runL w s (f + r)
  | 0, r => by rw [Nat.mul_zero, Nat.add_zero]
  | q + 1, r => by
    have hl := h.lt
    have e : f + r + (N - f) * (q + 1) = N + (r + (N - f) * q) := by rw [Nat.mul_succ]; omega
    rw [e, h.fold, show f + (r + (N - f) * q) = f + r + (N - f) * q by omega, h.at q r]
/-- where a state of the row stands that is the m-th -/
def spotN (N f m : Nat) : Nat := if m < N then m else f + (m - f) % (N - f)
theorem Rnd.spot {w : Web} {s : List Int} {N f : Nat} (h : Rnd w s N f) (m : Nat) : spotN N f m < N ∧ runL w s (spotN N f m) = runL w s m := by
  have hl := h.lt
  unfold spotN
  by_cases hm : m < N
  · rw [if_pos hm]
    exact ⟨hm, rfl⟩
  · rw [if_neg hm]
    have hp : 0 < N - f := by omega
    have h1 := Nat.mod_lt (m - f) hp
    refine ⟨by omega, ?_⟩
    have h2 := h.at ((m - f) / (N - f)) ((m - f) % (N - f))
    have h3 := Nat.mod_add_div (m - f) (N - f)
    rw [show f + (m - f) % (N - f) + (N - f) * ((m - f) / (N - f)) = m by omega] at h2
    exact h2.symm
theorem find_row {w : Web} {s : List Int} {k f : Nat} {t : List Int} (hd : Diff w s k) (hf : f < k) (h : runL w s f = t) : ((rowS w s k).map stD).findIdx? (fun z => PyData.eqv z (stD t)) = some f := by
  rw [List.findIdx?_eq_some_iff_getElem]
  refine ⟨by rw [List.length_map, rowS_len]; exact hf, ?_, fun j hj => ?_⟩
  · have := rowS_get (w := w) (s := s) hf
    rw [List.getElem?_eq_getElem (by rw [rowS_len]; exact hf)] at this
    rw [List.getElem_map, Option.some.inj this, eqv_st]
    exact decide_eq_true h
  · have := rowS_get (w := w) (s := s) (Nat.lt_trans hj hf)
    rw [List.getElem?_eq_getElem (by rw [rowS_len]; omega)] at this
    rw [List.getElem_map, Option.some.inj this, eqv_st, decide_eq_true_iff, ← h]
    exact hd j f hj hf
theorem index_row {w : Web} {s : List Int} {k f i : Nat} {t : List Int} {m : ME} {ρ ρ' : Env} {x : List D} (hd : Diff w s k) (hf : f < k) (h : runL w s f = t) (h0 : at_ ρ i = some (.list x)) (h1 : m ρ = .ok (stD t) ρ') (h2 : at_ ρ' i = some (.list ((rowS w s k).map stD))) : mIndex i m ρ = .ok (natD f) ρ' := by
  unfold mIndex
  rw [h0]
  simp only [h1, Rs.then]
  rw [h2]
  simp only [okSts, okSt, Bool.and_self, if_true, find_row hd hf h]
  rfl

set_option autoImplicit false
theorem diff_1 (w : Web) (s : List Int) : Diff w s 1 := fun i j h1 h2 => by omega
theorem round_step {w : Web} {s : List Int} {k : Nat} (hd : Diff w s (k + 1)) : (runL w s (k + 1) ∈ rowS w s (k + 1) ∧ ∃ f, Rnd w s (k + 1) f) ∨ (runL w s (k + 1) ∉ rowS w s (k + 1) ∧ Diff w s (k + 2)) := by
  by_cases h : runL w s (k + 1) ∈ rowS w s (k + 1)
  · obtain ⟨f, hf, e⟩ := mem_rowS.mp h
    exact .inl ⟨h, f, hf, e.symm, hd⟩
  · refine .inr ⟨h, fun i j h1 h2 e => ?_⟩
    by_cases hj : j = k + 1
    · subst hj
      exact h (mem_rowS.mpr ⟨i, by omega, e⟩)
    · exact hd i j h1 (by omega) e
theorem notin_st (l : List (List Int)) (t : List Int) : dNotIn (stD t) (.list (l.map stD)) = some (.bool (decide (t ∉ l))) := by
  unfold dNotIn
  rw [has_st]
  simp
def rowD' (w : Web) (s : List Int) (k : Nat) : D := .list ((rowS w s k).map stD)
theorem trip_while {w : Web} (hw : w.Ok) {s : List Int} (hs : StOk w.n s) : W (whileM (mB (mOp2 dNotIn (.sl 3) (.sl 2))) (sSeq (sDo (mApp 2 (mVar 3))) (sSet 3 (mCall f__law_next [.v (mVar 0), .v (mVar 3)]))) 1000000)
    [.fz (webD w), .fz (stD s), .own (rowD' w s 1), .fz (stD (runL w s 1))]
    (fun ρ => ∃ N f, Rnd w s N f ∧ ρ = [.fz (webD w), .fz (stD s), .own (rowD' w s N), .fz (stD (runL w s N))]) fun d _ => ∃ N f, Rnd w s N f ∧ d = .tuple [rowD' w s N, natD f] := by
  refine W.whileM (fun m ρ => ∃ k, Diff w s (k + 1) ∧ m + k = 60000 ∧ ρ = [.fz (webD w), .fz (stD s), .own (rowD' w s (k + 1)), .fz (stD (runL w s (k + 1)))]) ?_ 1000000 60000 _ (by omega) ⟨0, diff_1 w s, rfl, rfl⟩
  rintro m _ ⟨k, hd, hm, rfl⟩
  have ht : mB (mOp2 dNotIn (.sl 3) (.sl 2)) [.fz (webD w), .fz (stD s), .own (rowD' w s (k + 1)), .fz (stD (runL w s (k + 1)))] = .ok (decide (runL w s (k + 1) ∉ rowS w s (k + 1))) [.fz (webD w), .fz (stD s), .own (rowD' w s (k + 1)), .fz (stD (runL w s (k + 1)))] :=
    mB_ok (op2_ok (x1 := none) (x2 := none) (ρ1 := [.fz (webD w), .fz (stD s), .own (rowD' w s (k + 1)), .fz (stD (runL w s (k + 1)))]) rfl rfl rfl rfl (notin_st _ _))
  refine ⟨_, _, ht, fun h => ?_, fun h => ?_⟩
  · have h' := of_decide_eq_true h
    rcases round_step hd with ⟨h2, _⟩ | ⟨_, h2⟩
    · exact absurd h2 h'
    have hk := h2.most hw hs
    refine .seq (.app rfl (d := stD (runL w s (k + 1))) (ρ' := [.fz (webD w), .fz (stD s), .own (rowD' w s (k + 1)), .fz (stD (runL w s (k + 1)))]) rfl rfl (by rw [List.length_map, rowS_len]; omega) ?_)
    refine .set' (d := stD (runL w s (k + 2))) (ρ' := [.fz (webD w), .fz (stD s), .own (rowD' w s (k + 2)), .fz (stD (runL w s (k + 1)))]) ?_ ⟨m - 1, by omega, k + 1, h2, by omega, rfl⟩
    have e : PyData.list ((rowS w s (k + 1)).map stD ++ [stD (runL w s (k + 1))]) = rowD' w s (k + 2) := by
      unfold rowD'
      rw [rowS_succ w s (k + 1), List.map_append]
      rfl
    show mCall f__law_next [.v (mVar 0), .v (mVar 3)] [.fz (webD w), .fz (stD s), .own (.list ((rowS w s (k + 1)).map stD ++ [stD (runL w s (k + 1))])), .fz (stD (runL w s (k + 1)))] = _
    rw [e]
    exact mCall_0 (xs := [some (webD w), some (stD (runL w s (k + 1)))]) (ss := [.fz (webD w), .fz (stD (runL w s (k + 1)))]) rfl rfl (law_next_eq hw (run_ok hs (k + 1)))
  · have h' := of_decide_eq_false h
    rcases round_step hd with ⟨_, f, hr⟩ | ⟨h2, _⟩
    · exact ⟨k + 1, f, hr, rfl⟩
    · exact absurd h2 h'
theorem law_trip_eq {w : Web} (hw : w.Ok) {s : List Int} (hs : StOk w.n s) : ∃ N f, Rnd w s N f ∧ f__law_round_trip [.fz (webD w), .fz (stD s)] = .ok (.tuple [rowD' w s N, natD f]) [] := by
  obtain ⟨d, e, N, f, hr, rfl⟩ := W.fnP (len := 4) (n := 2) (m := m__law_round_trip) (ss := [.fz (webD w), .fz (stD s)]) (P := fun d => ∃ N f, Rnd w s N f ∧ d = .tuple [rowD' w s N, natD f]) rfl (by
    unfold m__law_round_trip
    refine .seq (.own (d := .list [stD s]) (ρ' := [.fz (webD w), .fz (stD s), .no, .no]) rfl ?_)
    refine .seq (.set' (d := stD (nxt w s)) (ρ' := [.fz (webD w), .fz (stD s), .own (.list [stD s]), .no]) (mCall_0 (xs := [some (webD w), some (stD s)]) (ss := [.fz (webD w), .fz (stD s)]) rfl rfl (law_next_eq hw hs)) ?_)
    refine .seq ((trip_while hw hs).imp (fun ρ h => ?_) fun d ρ h => h)
    obtain ⟨N, f, hr, rfl⟩ := h
    have ei : mIndex 2 (mVar 3) [.fz (webD w), .fz (stD s), .fz (rowD' w s N), .fz (stD (runL w s N))] = .ok (natD f) [.fz (webD w), .fz (stD s), .fz (rowD' w s N), .fz (stD (runL w s N))] := index_row hr.df hr.lt hr.eq.symm rfl rfl rfl
    refine .ret (d := .tuple [rowD' w s N, natD f]) (ρ' := [.fz (webD w), .fz (stD s), .fz (rowD' w s N), .fz (stD (runL w s N))]) ?_ ⟨N, f, hr, rfl⟩
    unfold mTup
    rw [evm_cons (m := mVar 2) (d := rowD' w s N) (ρ1 := [.fz (webD w), .fz (stD s), .fz (rowD' w s N), .fz (stD (runL w s N))]) rfl (evm_cons ei rfl)]
    rfl)
  exact ⟨N, f, hr, e⟩
def dictR (w : Web) (s : List Int) (k : Nat) : D := .dict (kvsS ((List.range k).map fun i => (runL w s i, natD i)))
theorem keys_R (w : Web) (s : List Int) (k : Nat) : ((List.range k).map fun i => (runL w s i, natD i)).map (·.1) = rowS w s k := by
  unfold rowS
  rw [List.map_map]
  rfl
theorem notin_R (w : Web) (s : List Int) (k : Nat) (t : List Int) : dNotIn (stD t) (dictR w s k) = some (.bool (decide (t ∉ rowS w s k))) := by
  unfold dNotIn dictR
  rw [has_dict, keys_R]
  simp
theorem at_R {w : Web} {s : List Int} {k f : Nat} {t : List Int} (hd : Diff w s k) (hf : f < k) (h : runL w s f = t) : dAt (dictR w s k) (stD t) = some (natD f) := by
  unfold dictR
  rw [at_dict]
  have : ((List.range k).map fun i => (runL w s i, natD i)).find? (fun p => decide (p.1 = t)) = some (runL w s f, natD f) := by
    rw [List.find?_eq_some_iff_getElem]
    refine ⟨decide_eq_true h, f, by simp [hf], by simp, fun j hj => ?_⟩
    simp only [List.getElem_map, List.getElem_range, Bool.not_eq_true', decide_eq_false_iff_not]
    rw [← h]
    exact hd j f hj hf
  rw [this]
  rfl
theorem row_while {w : Web} (hw : w.Ok) {s : List Int} (hs : StOk w.n s) : W (whileM (mB (mOp2 dNotIn (.sl 4) (.sl 2))) (sSeq (sAsg (mFn dLen [.sl 3]) (mPutAt 2 (.sl 4))) (sSeq (sDo (mApp 3 (mVar 4))) (sSet 4 (mCall f_next_state [.v (mVar 0), .v (mVar 4)])))) 1000000)
    [.fz (nearD w), .fz (stD s), .own (dictR w s 1), .own (rowD' w s 1), .fz (stD (runL w s 1))]
    (fun ρ => ∃ N f, Rnd w s N f ∧ ρ = [.fz (nearD w), .fz (stD s), .own (dictR w s N), .own (rowD' w s N), .fz (stD (runL w s N))]) fun d _ => ∃ N f, Rnd w s N f ∧ d = .tuple [rowD' w s N, natD f] := by
  refine W.whileM (fun m ρ => ∃ k, Diff w s (k + 1) ∧ m + k = 60000 ∧ ρ = [.fz (nearD w), .fz (stD s), .own (dictR w s (k + 1)), .own (rowD' w s (k + 1)), .fz (stD (runL w s (k + 1)))]) ?_ 1000000 60000 _ (by omega) ⟨0, diff_1 w s, rfl, rfl⟩
  rintro m _ ⟨k, hd, hm, rfl⟩
  have ht : mB (mOp2 dNotIn (.sl 4) (.sl 2)) [.fz (nearD w), .fz (stD s), .own (dictR w s (k + 1)), .own (rowD' w s (k + 1)), .fz (stD (runL w s (k + 1)))] = .ok (decide (runL w s (k + 1) ∉ rowS w s (k + 1))) [.fz (nearD w), .fz (stD s), .own (dictR w s (k + 1)), .own (rowD' w s (k + 1)), .fz (stD (runL w s (k + 1)))] :=
    mB_ok (op2_ok (x1 := none) (x2 := none) (ρ1 := [.fz (nearD w), .fz (stD s), .own (dictR w s (k + 1)), .own (rowD' w s (k + 1)), .fz (stD (runL w s (k + 1)))]) rfl rfl rfl rfl (notin_R _ _ _ _))
  refine ⟨_, _, ht, fun h => ?_, fun h => ?_⟩
  · have h' := of_decide_eq_true h
    rcases round_step hd with ⟨h2, _⟩ | ⟨_, h2⟩
    · exact absurd h2 h'
    have hk := h2.most hw hs
    have e : PyData.list ((rowS w s (k + 1)).map stD ++ [stD (runL w s (k + 1))]) = rowD' w s (k + 2) := by
      unfold rowD'
      rw [rowS_succ w s (k + 1), List.map_append]
      rfl
    have ep : dPutAt (dictR w s (k + 1)) (stD (runL w s (k + 1))) (natD (k + 1)) = some (dictR w s (k + 2)) := by
      unfold dictR
      rw [put_dict (by simp; omega) (fun p hp e => ?_)]
      · rw [List.range_succ (n := k + 1), List.map_append]
        rfl
      · obtain ⟨i, hi, rfl⟩ := List.mem_map.mp hp
        exact h' (mem_rowS.mpr ⟨i, List.mem_range.mp hi, e⟩)
    have el : mFn dLen [.sl 3] [.fz (nearD w), .fz (stD s), .own (dictR w s (k + 1)), .own (rowD' w s (k + 1)), .fz (stD (runL w s (k + 1)))] = .ok (natD (k + 1)) [.fz (nearD w), .fz (stD s), .own (dictR w s (k + 1)), .own (rowD' w s (k + 1)), .fz (stD (runL w s (k + 1)))] := by
      refine mFn_ok (xs := [none]) (ds := [rowD' w s (k + 1)]) rfl rfl ?_
      show some (PyData.int (((rowS w s (k + 1)).map stD).length : Nat)) = _
      rw [List.length_map, rowS_len]
      rfl
    refine .seq (.nx (ρ' := [.fz (nearD w), .fz (stD s), .own (dictR w s (k + 2)), .own (rowD' w s (k + 1)), .fz (stD (runL w s (k + 1)))]) ?_ ?_)
    · unfold sAsg
      rw [el]
      simp only [Rs.sr]
      have : mPutAt 2 (.sl 4) (natD (k + 1)) [.fz (nearD w), .fz (stD s), .own (dictR w s (k + 1)), .own (rowD' w s (k + 1)), .fz (stD (runL w s (k + 1)))] = .ok () [.fz (nearD w), .fz (stD s), .own (dictR w s (k + 2)), .own (rowD' w s (k + 1)), .fz (stD (runL w s (k + 1)))] := by
        show (match dPutAt (dictR w s (k + 1)) (stD (runL w s (k + 1))) (natD (k + 1)) with
          | some c' => Rs.ok () (([.fz (nearD w), .fz (stD s), .own (dictR w s (k + 1)), .own (rowD' w s (k + 1)), .fz (stD (runL w s (k + 1)))] : Env).set 2 (.own c'))
          | none => .stuck) = _
        rw [ep]
        rfl
      rw [this]
    refine .seq (.app rfl (d := stD (runL w s (k + 1))) (ρ' := [.fz (nearD w), .fz (stD s), .own (dictR w s (k + 2)), .own (rowD' w s (k + 1)), .fz (stD (runL w s (k + 1)))]) rfl rfl (by rw [List.length_map, rowS_len]; omega) ?_)
    refine .set' (d := stD (runL w s (k + 2))) (ρ' := [.fz (nearD w), .fz (stD s), .own (dictR w s (k + 2)), .own (rowD' w s (k + 2)), .fz (stD (runL w s (k + 1)))]) ?_ ⟨m - 1, by omega, k + 1, h2, by omega, rfl⟩
    show mCall f_next_state [.v (mVar 0), .v (mVar 4)] [.fz (nearD w), .fz (stD s), .own (dictR w s (k + 2)), .own (.list ((rowS w s (k + 1)).map stD ++ [stD (runL w s (k + 1))])), .fz (stD (runL w s (k + 1)))] = _
    rw [e]
    exact mCall_0 (xs := [some (nearD w), some (stD (runL w s (k + 1)))]) (ss := [.fz (nearD w), .fz (stD (runL w s (k + 1)))]) rfl rfl (next_state_eq hw (run_ok hs (k + 1)))
  · have h' := of_decide_eq_false h
    rcases round_step hd with ⟨_, f, hr⟩ | ⟨h2, _⟩
    · exact ⟨k + 1, f, hr, rfl⟩
    · exact absurd h2 h'
theorem row_round_eq {w : Web} (hw : w.Ok) {s : List Int} (hs : StOk w.n s) {N f : Nat} (hr : Rnd w s N f) : f_row_round [.fz (nearD w), .fz (stD s)] = .ok (.tuple [rowD' w s N, natD f]) [] := by
  obtain ⟨d, e, N', f', hr', rfl⟩ := W.fnP (len := 5) (n := 2) (m := m_row_round) (ss := [.fz (nearD w), .fz (stD s)]) (P := fun d => ∃ N f, Rnd w s N f ∧ d = .tuple [rowD' w s N, natD f]) rfl (by
    unfold m_row_round
    have e1 : mOneT (mVar 1) (mLit (.int 0)) [.fz (nearD w), .fz (stD s), .no, .no, .no] = .ok (dictR w s 1) [.fz (nearD w), .fz (stD s), .no, .no, .no] := by
      unfold mOneT
      show (match toKT (stD s) with
        | some _ => Rs.ok (PyData.dict [(stD s, PyData.int 0)]) ([.fz (nearD w), .fz (stD s), .no, .no, .no] : Env)
        | none => Rs.stuck) = _
      rw [toKT_st]
      rfl
    have e2 : mLst [mVar 1] [.fz (nearD w), .fz (stD s), .no, .no, .no] = .ok (rowD' w s 1) [.fz (nearD w), .fz (stD s), .no, .no, .no] := rfl
    have e3 : mCall f_next_state [.v (mVar 0), .v (mVar 1)] [.fz (nearD w), .fz (stD s), .no, .no, .no] = .ok (stD (nxt w s)) [.fz (nearD w), .fz (stD s), .no, .no, .no] := mCall_0 (xs := [some (nearD w), some (stD s)]) (ss := [.fz (nearD w), .fz (stD s)]) rfl rfl (next_state_eq hw hs)
    refine .seq (.par (ds := [dictR w s 1, rowD' w s 1, stD (nxt w s)]) (ρ1 := [.fz (nearD w), .fz (stD s), .no, .no, .no]) ?_ ?_)
    · show evm [mOneT (mVar 1) (mLit (.int 0)), mLst [mVar 1], mCall f_next_state [.v (mVar 0), .v (mVar 1)]] [.fz (nearD w), .fz (stD s), .no, .no, .no] = _
      exact evm_cons e1 (evm_cons e2 (evm_cons e3 rfl))
    refine .seq ((row_while hw hs).imp (fun ρ h => ?_) fun d ρ h => h)
    obtain ⟨N, f, hr, rfl⟩ := h
    have ei : mOp2 dAt (.sl 2) (.sl 4) [.fz (nearD w), .fz (stD s), .own (dictR w s N), .fz (rowD' w s N), .fz (stD (runL w s N))] = .ok (natD f) [.fz (nearD w), .fz (stD s), .own (dictR w s N), .fz (rowD' w s N), .fz (stD (runL w s N))] :=
      op2_ok (x1 := none) (x2 := none) (ρ1 := [.fz (nearD w), .fz (stD s), .own (dictR w s N), .fz (rowD' w s N), .fz (stD (runL w s N))]) rfl rfl rfl rfl (at_R hr.df hr.lt hr.eq.symm)
    refine .ret (d := .tuple [rowD' w s N, natD f]) (ρ' := [.fz (nearD w), .fz (stD s), .own (dictR w s N), .fz (rowD' w s N), .fz (stD (runL w s N))]) ?_ ⟨N, f, hr, rfl⟩
    unfold mTup
    rw [evm_cons (m := mVar 3) (d := rowD' w s N) (ρ1 := [.fz (nearD w), .fz (stD s), .own (dictR w s N), .fz (rowD' w s N), .fz (stD (runL w s N))]) rfl (evm_cons ei rfl)]
    rfl)
  obtain ⟨rfl, rfl⟩ := hr.only hr'
  exact e

set_option autoImplicit false
theorem W.asg2 {m : ME} {i j : Nat} {a b : D} {ρ ρ1 : Env} {N : Env → Prop} {R : D → Env → Prop} (e : m ρ = .ok (.tuple [a, b]) ρ1) (h : N ((ρ1.set i (.fz a)).set j (.fz b))) : W (sAsg m (tmTup [([i], tmName i), ([j], tmName j)])) ρ N R :=
  .nx (by unfold sAsg; rw [e]; rfl) h
theorem lt_nat (a b : Nat) : dLt (natD a) (natD b) = some (.bool (decide (a < b))) := by
  show some (PyData.bool (decide ((a : Int) < b))) = _
  congr 2
  exact decide_eq_decide.mpr (by omega)
theorem mIf_T {t : MB} {m n : ME} {ρ ρ1 : Env} (h : t ρ = .ok true ρ1) : mIf t m n ρ = m ρ1 := by
  unfold mIf
  rw [h]
  rfl
theorem mIf_F {t : MB} {m n : ME} {ρ ρ1 : Env} (h : t ρ = .ok false ρ1) : mIf t m n ρ = n ρ1 := by
  unfold mIf
  rw [h]
  rfl
theorem len_row (w : Web) (s : List Int) (k : Nat) : dLen [rowD' w s k] = some (natD k) := by
  show some (PyData.int (((rowS w s k).map stD).length : Nat)) = _
  rw [List.length_map, rowS_len]
  rfl
theorem row_at {w : Web} {s : List Int} {k i : Nat} (h : i < k) : dAt (rowD' w s k) (natD i) = some (stD (runL w s i)) := by
  show atI ((rowS w s k).map stD) (i : Int) = _
  rw [atI_nat, List.getElem?_map, rowS_get h]
  rfl
theorem row_spot {w : Web} {s : List Int} {N f : Nat} (hr : Rnd w s N f) (m : Nat) {x : ME} (hx : m ≥ N → x [.fz (rowD' w s N), .fz (natD f), .fz (natD m)] = .ok (natD (m - f)) [.fz (rowD' w s N), .fz (natD f), .fz (natD m)]) :
    mIf (mB (mOp2 dLt (.sl 2) (.ex (mFn dLen [.sl 0])))) (mOp2 dAt (.sl 0) (.sl 2)) (mOp2 dAt (.sl 0) (.ex (mOp2 dAdd (.sl 1) (.ex (mOp2 dMod (.ex x) (.ex (mOp2 dSub (.ex (mFn dLen [.sl 0])) (.sl 1)))))))) [.fz (rowD' w s N), .fz (natD f), .fz (natD m)] = .ok (stD (runL w s m)) [.fz (rowD' w s N), .fz (natD f), .fz (natD m)] := by
  have hl := hr.lt
  have l0 : mFn dLen [.sl 0] [.fz (rowD' w s N), .fz (natD f), .fz (natD m)] = .ok (natD N) [.fz (rowD' w s N), .fz (natD f), .fz (natD m)] := mFn_ok (xs := [none]) (ds := [rowD' w s N]) rfl rfl (len_row w s N)
  have t0 : mB (mOp2 dLt (.sl 2) (.ex (mFn dLen [.sl 0]))) [.fz (rowD' w s N), .fz (natD f), .fz (natD m)] = .ok (decide (m < N)) [.fz (rowD' w s N), .fz (natD f), .fz (natD m)] := mB_ok (op2_ok (x1 := none) (ρ1 := [.fz (rowD' w s N), .fz (natD f), .fz (natD m)]) rfl (ev_ex l0) rfl rfl (lt_nat m N))
  by_cases hm : m < N
  · rw [decide_eq_true hm] at t0
    rw [mIf_T t0]
    exact op2_ok (x1 := none) (x2 := none) (ρ1 := [.fz (rowD' w s N), .fz (natD f), .fz (natD m)]) rfl rfl rfl rfl (row_at hm)
  · rw [decide_eq_false hm] at t0
    rw [mIf_F t0]
    have s1 : mOp2 dSub (.ex (mFn dLen [.sl 0])) (.sl 1) [.fz (rowD' w s N), .fz (natD f), .fz (natD m)] = .ok (natD (N - f)) [.fz (rowD' w s N), .fz (natD f), .fz (natD m)] := op2_ok (x2 := none) (ev_ex l0) rfl rfl rfl (by
      show some (PyData.int ((N : Int) - f)) = some (.int ((N - f : Nat) : Int))
      rw [Int.ofNat_sub (Nat.le_of_lt hl)])
    have m1 := op2_ok (g := dMod) (ev_ex (hx (by omega))) (ev_ex s1) rfl rfl (d := natD ((m - f) % (N - f))) (by
      show (if (0 : Int) < ((N - f : Nat) : Int) then some (PyData.int (((m - f : Nat) : Int) % ((N - f : Nat) : Int))) else none) = _
      rw [if_pos (by omega)]
      rfl)
    have a1 := op2_ok (g := dAdd) (o1 := .sl 1) (x1 := none) (ρ1 := [.fz (rowD' w s N), .fz (natD f), .fz (natD m)]) (ρ := [.fz (rowD' w s N), .fz (natD f), .fz (natD m)]) rfl (ev_ex m1) rfl rfl (d := natD (f + (m - f) % (N - f))) rfl
    have hs := hr.spot m
    unfold spotN at hs
    rw [if_neg hm] at hs
    refine op2_ok (x1 := none) (ρ1 := [.fz (rowD' w s N), .fz (natD f), .fz (natD m)]) rfl (ev_ex a1) rfl rfl ?_
    rw [row_at hs.1, hs.2]
theorem sub_nat {a b : Nat} (h : b ≤ a) : dSub (natD a) (natD b) = some (natD (a - b)) := by
  show some (PyData.int ((a : Int) - b)) = some (.int ((a - b : Nat) : Int))
  rw [Int.ofNat_sub h]
theorem state_of_eq {w : Web} {s : List Int} {N f : Nat} (hr : Rnd w s N f) (m : Nat) : f_state_of [.fz (rowD' w s N), .fz (natD f), .fz (natD m)] = .ok (stD (runL w s m)) [] := by
  refine W.fn0 rfl ?_
  unfold m_state_of
  exact .ret (row_spot hr m fun h => op2_ok (x1 := none) (x2 := none) (ρ1 := [.fz (rowD' w s N), .fz (natD f), .fz (natD m)]) rfl rfl rfl rfl (sub_nat (by have := hr.lt; omega))) rfl
theorem coming_round_eq {w : Web} (hw : w.Ok) {s : List Int} (hs : StOk w.n s) {N f : Nat} (hr : Rnd w s N f) : f_coming_round [.fz (webD w), .fz (stD s)] = .ok (.tuple [natD f, natD (N - f)]) [] := by
  refine W.fn0 rfl ?_
  unfold m_coming_round
  refine .seq (.do' (mCall_0 (ρ1 := [.fz (webD w), .fz (stD s), .no, .no]) (xs := [some (webD w), some (stD s)]) (ss := [.fz (webD w), .fz (stD s)]) rfl rfl (need_both_ok hw hs)) ?_)
  have e0 : mCall f_near_lists [.v (mVar 0)] [.fz (webD w), .fz (stD s), .no, .no] = .ok (nearD w) [.fz (webD w), .fz (stD s), .no, .no] := mCall_0 (xs := [some (webD w)]) (ss := [.fz (webD w)]) rfl rfl (near_eq hw)
  refine .seq (.asg2 (mCall_0 (eva_cons (ev_ex e0) (eva_cons (x := some (stD s)) (ρ1 := [.fz (webD w), .fz (stD s), .no, .no]) rfl rfl)) (ss := [.fz (nearD w), .fz (stD s)]) rfl (row_round_eq hw hs hr)) ?_)
  show W _ [.fz (webD w), .fz (stD s), .fz (rowD' w s N), .fz (natD f)] _ _
  have l0 : mFn dLen [.sl 2] [.fz (webD w), .fz (stD s), .fz (rowD' w s N), .fz (natD f)] = .ok (natD N) [.fz (webD w), .fz (stD s), .fz (rowD' w s N), .fz (natD f)] := mFn_ok (xs := [none]) (ds := [rowD' w s N]) rfl rfl (len_row w s N)
  have s0 := op2_ok (g := dSub) (o2 := .sl 3) (x2 := none) (ev_ex l0) rfl rfl rfl (sub_nat (Nat.le_of_lt hr.lt))
  refine .ret (ρ' := [.fz (webD w), .fz (stD s), .fz (rowD' w s N), .fz (natD f)]) ?_ rfl
  unfold mTup
  rw [evm_cons (m := mVar 3) (d := natD f) (ρ1 := [.fz (webD w), .fz (stD s), .fz (rowD' w s N), .fz (natD f)]) rfl (evm_cons s0 rfl)]
  rfl
def Least (p : Nat → Prop) (r : D) : Prop := (r = .none ∧ ∀ m, ¬ p m) ∨ ∃ m, r = natD m ∧ p m ∧ ∀ m', m' < m → ¬ p m'
theorem run_on {w : Web} {s t : List Int} {m : Nat} (h : runL w s m = runL w t m) : ∀ k, runL w s (m + k) = runL w t (m + k)
  | 0 => h
  | k + 1 => by
    show nxt w (runL w s (m + k)) = nxt w (runL w t (m + k))
    rw [run_on h k]
theorem meet_low {w : Web} {s t : List Int} {N f M g : Nat} (hr : Rnd w s N f) (hq : Rnd w t M g) : ∀ m, runL w s m = runL w t m → ∃ m', m' ≤ max f g ∧ runL w s m' = runL w t m'
  | 0, h => ⟨0, by omega, h⟩
  | m + 1, h => by
    by_cases hm : m + 1 ≤ max f g
    · exact ⟨m + 1, hm, h⟩
    · have h1 := hr.lt
      have h2 := hq.lt
      refine meet_low hr hq m ?_
      have e1 := hr.at (M - g) (m - f)
      have e2 := hq.at (N - f) (m - g)
      have hp : 0 < (N - f) * (M - g) := Nat.mul_pos (by omega) (by omega)
      rw [show f + (m - f) = m by omega] at e1
      rw [show g + (m - g) = m by omega, Nat.mul_comm] at e2
      have e3 := run_on h ((N - f) * (M - g) - 1)
      rw [show m + 1 + ((N - f) * (M - g) - 1) = m + (N - f) * (M - g) by omega] at e3
      rw [← e1, e3, e2]
theorem least_of {p : Nat → Prop} {F : Nat} (hlow : ∀ m, p m → ∃ m', m' ≤ F ∧ p m') {r : D} (h : (r = .none ∧ ∀ m, m ≤ F → ¬ p m) ∨ ∃ m, r = natD m ∧ p m ∧ ∀ m', m' < m → ¬ p m') : Least p r := by
  rcases h with ⟨rfl, h⟩ | h
  · refine .inl ⟨rfl, fun m hm => ?_⟩
    obtain ⟨m', h1, h2⟩ := hlow m hm
    exact h m' h1 h2
  · exact .inr h
theorem max_nat (a b : Nat) : dMax2 [natD a, natD b] = some (natD (max a b)) := by
  show some (PyData.int (if (b : Int) > a then (b : Int) else a)) = _
  congr 1
  unfold natD
  congr 1
  split <;> omega
theorem meet_eq {w : Web} (hw : w.Ok) {s t : List Int} (hs : StOk w.n s) (ht : StOk w.n t) {N f M g : Nat} (hr : Rnd w s N f) (hq : Rnd w t M g) : ∃ r, f_meet [.fz (webD w), .fz (stD s), .fz (stD t)] = .ok r [] ∧ Least (fun m => runL w s m = runL w t m) r := by
  refine W.fnP rfl ?_
  unfold m_meet
  show W _ [.fz (webD w), .fz (stD s), .fz (stD t), .no, .no, .no, .no, .no, .no] _ _
  refine .seq (.do' (mCall_0 (ρ1 := [.fz (webD w), .fz (stD s), .fz (stD t), .no, .no, .no, .no, .no, .no]) (xs := [some (webD w), some (stD s)]) (ss := [.fz (webD w), .fz (stD s)]) rfl rfl (need_both_ok hw hs)) ?_)
  refine .seq (.do' (mCall_0 (ρ1 := [.fz (webD w), .fz (stD s), .fz (stD t), .no, .no, .no, .no, .no, .no]) (xs := [some (webD w), some (stD t)]) (ss := [.fz (webD w), .fz (stD t)]) rfl rfl (need_both_ok hw ht)) ?_)
  refine .seq (.set' (d := nearD w) (ρ' := [.fz (webD w), .fz (stD s), .fz (stD t), .no, .no, .no, .no, .no, .no]) (mCall_0 (xs := [some (webD w)]) (ss := [.fz (webD w)]) rfl rfl (near_eq hw)) ?_)
  refine .seq (.asg2 (ρ1 := [.fz (webD w), .fz (stD s), .fz (stD t), .fz (nearD w), .no, .no, .no, .no, .no]) (mCall_0 (xs := [some (nearD w), some (stD s)]) (ss := [.fz (nearD w), .fz (stD s)]) rfl rfl (row_round_eq hw hs hr)) ?_)
  refine .seq (.asg2 (ρ1 := [.fz (webD w), .fz (stD s), .fz (stD t), .fz (nearD w), .fz (rowD' w s N), .fz (natD f), .no, .no, .no]) (mCall_0 (xs := [some (nearD w), some (stD t)]) (ss := [.fz (nearD w), .fz (stD t)]) rfl rfl (row_round_eq hw ht hq)) ?_)
  show W _ [.fz (webD w), .fz (stD s), .fz (stD t), .fz (nearD w), .fz (rowD' w s N), .fz (natD f), .fz (rowD' w t M), .fz (natD g), .no] _ _
  have mx : mFn dMax2 [.sl 5, .sl 7] [.fz (webD w), .fz (stD s), .fz (stD t), .fz (nearD w), .fz (rowD' w s N), .fz (natD f), .fz (rowD' w t M), .fz (natD g), .no] = .ok (natD (max f g)) [.fz (webD w), .fz (stD s), .fz (stD t), .fz (nearD w), .fz (rowD' w s N), .fz (natD f), .fz (rowD' w t M), .fz (natD g), .no] := mFn_ok (xs := [none, none]) (ds := [natD f, natD g]) rfl rfl (max_nat f g)
  have ad := op2_ok (g := dAdd) (o2 := .ex (mLit (.int 1))) (x2 := some (.int 1)) (d := natD (max f g + 1)) (ev_ex mx) rfl rfl rfl rfl
  have hf := hr.df.most hw hs
  have hg := hq.df.most hw ht
  have hrl := hr.lt
  have hql := hq.lt
  have hlow := meet_low hr hq
  refine .seq (.forA (f := natD) (l := List.range (max f g + 1)) (ρ0 := [.fz (webD w), .fz (stD s), .fz (stD t), .fz (nearD w), .fz (rowD' w s N), .fz (natD f), .fz (rowD' w t M), .fz (natD g), .no]) (fun k ρ => ∃ x, ρ = [.fz (webD w), .fz (stD s), .fz (stD t), .fz (nearD w), .fz (rowD' w s N), .fz (natD f), .fz (rowD' w t M), .fz (natD g), x] ∧ ∀ m, m < k → runL w s m ≠ runL w t m) ?_ ⟨.no, rfl, fun m h => by omega⟩ ?_ ?_)
  · exact rng_map (xs := [some (natD (max f g + 1))]) (evo_1 ad) rfl (by omega)
  · rintro k a _ ek ⟨x, rfl, hk⟩
    have hk' : k < max f g + 1 := by
      have := look_lt ek
      rw [List.length_range] at this
      exact this
    rw [List.getElem?_range hk'] at ek
    cases ek
    have c1 : mCall f_state_of [.v (mVar 4), .v (mVar 5), .v (mVar 8)] [.fz (webD w), .fz (stD s), .fz (stD t), .fz (nearD w), .fz (rowD' w s N), .fz (natD f), .fz (rowD' w t M), .fz (natD g), .fz (natD k)] = .ok (stD (runL w s k)) [.fz (webD w), .fz (stD s), .fz (stD t), .fz (nearD w), .fz (rowD' w s N), .fz (natD f), .fz (rowD' w t M), .fz (natD g), .fz (natD k)] := mCall_0 (xs := [some (rowD' w s N), some (natD f), some (natD k)]) (ss := [.fz (rowD' w s N), .fz (natD f), .fz (natD k)]) rfl rfl (state_of_eq hr k)
    have c2 : mCall f_state_of [.v (mVar 6), .v (mVar 7), .v (mVar 8)] [.fz (webD w), .fz (stD s), .fz (stD t), .fz (nearD w), .fz (rowD' w s N), .fz (natD f), .fz (rowD' w t M), .fz (natD g), .fz (natD k)] = .ok (stD (runL w t k)) [.fz (webD w), .fz (stD s), .fz (stD t), .fz (nearD w), .fz (rowD' w s N), .fz (natD f), .fz (rowD' w t M), .fz (natD g), .fz (natD k)] := mCall_0 (xs := [some (rowD' w t M), some (natD g), some (natD k)]) (ss := [.fz (rowD' w t M), .fz (natD g), .fz (natD k)]) rfl rfl (state_of_eq hq k)
    have t1 := mB_ok (op2_ok (ev_ex c1) (ev_ex c2) rfl rfl (eq_st _ _))
    by_cases he : runL w s k = runL w t k
    · rw [decide_eq_true he] at t1
      exact .ifT t1 (.ret (d := natD k) (ρ' := [.fz (webD w), .fz (stD s), .fz (stD t), .fz (nearD w), .fz (rowD' w s N), .fz (natD f), .fz (rowD' w t M), .fz (natD g), .fz (natD k)]) rfl (.inr ⟨k, rfl, he, hk⟩))
    · rw [decide_eq_false he] at t1
      refine .ifF t1 (.nil ⟨_, rfl, fun m hm => ?_⟩)
      by_cases e : m = k
      · rw [e]; exact he
      · exact hk m (by omega)
  · rintro _ ⟨x, rfl, hk⟩
    rw [List.length_range] at hk
    exact .ret (d := .none) (ρ' := [.fz (webD w), .fz (stD s), .fz (stD t), .fz (nearD w), .fz (rowD' w s N), .fz (natD f), .fz (rowD' w t M), .fz (natD g), x]) rfl (least_of (F := max f g) hlow (.inl ⟨rfl, fun m hm => hk m (by omega)⟩))
def Be (w : Web) (s t : List Int) (N : Nat) (r : D) : Prop := (t ∉ rowS w s N ∧ r = .none) ∨ ∃ i, i < N ∧ runL w s i = t ∧ r = natD i
theorem be_eq {w : Web} {s t : List Int} {N i j : Nat} (hd : Diff w s N) {ρ : Env} (hi : ρ[i]? = some (.fz (stD t))) (hj : ρ[j]? = some (.fz (rowD' w s N))) : ∃ r, mIf (mB (mOp2 dIn (.sl i) (.sl j))) (mIndex j (mVar i)) (mLit .none) ρ = .ok r ρ ∧ Be w s t N r := by
  have ai : at_ ρ i = some (stD t) := by unfold at_; rw [hi]; rfl
  have aj : at_ ρ j = some (rowD' w s N) := by unfold at_; rw [hj]; rfl
  have si : (Opd.sl i).ev ρ = .ok none ρ := by show (match at_ ρ i with | some _ => _ | none => _) = _; rw [ai]
  have sj : (Opd.sl j).ev ρ = .ok none ρ := by show (match at_ ρ j with | some _ => _ | none => _) = _; rw [aj]
  have t0 : mB (mOp2 dIn (.sl i) (.sl j)) ρ = .ok (decide (t ∈ rowS w s N)) ρ := mB_ok (op2_ok (x1 := none) (x2 := none) (ρ1 := ρ) si sj ai aj (by unfold dIn rowD'; rw [has_st]; rfl))
  by_cases h : t ∈ rowS w s N
  · rw [decide_eq_true h] at t0
    obtain ⟨k, hk, e⟩ := mem_rowS.mp h
    refine ⟨natD k, ?_, .inr ⟨k, hk, e, rfl⟩⟩
    rw [mIf_T t0]
    exact index_row hd hk e aj (by unfold mVar; rw [hi]) aj
  · rw [decide_eq_false h] at t0
    refine ⟨.none, ?_, .inl ⟨h, rfl⟩⟩
    rw [mIf_F t0]
    rfl
theorem becomes_eq {w : Web} (hw : w.Ok) {s t : List Int} (hs : StOk w.n s) (ht : StOk w.n t) {N f : Nat} (hr : Rnd w s N f) : ∃ r, f_becomes [.fz (webD w), .fz (stD s), .fz (stD t)] = .ok r [] ∧ Be w s t N r := by
  refine W.fnP rfl ?_
  unfold m_becomes
  show W _ [.fz (webD w), .fz (stD s), .fz (stD t), .no] _ _
  refine .seq (.do' (mCall_0 (ρ1 := [.fz (webD w), .fz (stD s), .fz (stD t), .no]) (xs := [some (webD w), some (stD s)]) (ss := [.fz (webD w), .fz (stD s)]) rfl rfl (need_both_ok hw hs)) ?_)
  refine .seq (.do' (mCall_0 (ρ1 := [.fz (webD w), .fz (stD s), .fz (stD t), .no]) (xs := [some (webD w), some (stD t)]) (ss := [.fz (webD w), .fz (stD t)]) rfl rfl (need_both_ok hw ht)) ?_)
  have e0 : mCall f_near_lists [.v (mVar 0)] [.fz (webD w), .fz (stD s), .fz (stD t), .no] = .ok (nearD w) [.fz (webD w), .fz (stD s), .fz (stD t), .no] := mCall_0 (xs := [some (webD w)]) (ss := [.fz (webD w)]) rfl rfl (near_eq hw)
  have e1 := mCall_0 (f := f_row_round) (as := [.v (mCall f_near_lists [.v (mVar 0)]), .v (mVar 1)]) (eva_cons (ev_ex e0) (eva_cons (x := some (stD s)) (ρ1 := [.fz (webD w), .fz (stD s), .fz (stD t), .no]) rfl rfl)) (ss := [.fz (nearD w), .fz (stD s)]) rfl (row_round_eq hw hs hr)
  refine .seq (.set' (d := rowD' w s N) (op2_ok (x2 := some (.int 0)) (ev_ex e1) rfl rfl rfl rfl) ?_)
  show W _ [.fz (webD w), .fz (stD s), .fz (stD t), .fz (rowD' w s N)] _ _
  obtain ⟨r, e2, hb⟩ := be_eq (i := 2) (j := 3) (t := t) hr.df (ρ := [.fz (webD w), .fz (stD s), .fz (stD t), .fz (rowD' w s N)]) rfl rfl
  exact .ret e2 hb

set_option autoImplicit false
theorem eva_v {m : ME} {as : List Arg} {ρ ρ1 ρ2 : Env} {d : D} {xs : List (Option D)} (h1 : m ρ = .ok d ρ1) (h2 : eva as ρ1 = .ok xs ρ2) : eva (.v m :: as) ρ = .ok (some d :: xs) ρ2 := eva_cons (a := .v m) (ev_ex h1) h2

set_option autoImplicit false
inductive Walk (w : Web) : Nat → Nat → Nat → Prop where
  | here (i : Nat) : Walk w i i 0
  | on {i j k m : Nat} (h : Walk w i j m) (e : w.adj j k = true) : Walk w i k (m + 1)
theorem Walk.reach {w : Web} {i j m : Nat} (h : Walk w i j m) : Reach w i j := by
  induction h with
  | here => exact .here _
  | on _ e ih => exact .on ih e
def Val (f : List (Option Int)) (v : Nat) (x : Int) : Prop := f[v]? = some (some x)
theorem Val.set {f : List (Option Int)} {v u : Nat} {x y : Int} (h : Val f v x) (hu : f[u]? = some none) : Val (f.set u (some y)) v x := by
  unfold Val at *
  by_cases e : u = v
  · subst e
    rw [hu] at h
    cases h
  · rw [List.getElem?_set_ne e]
    exact h
theorem Val.here {f : List (Option Int)} {u : Nat} {y : Int} (hu : f[u]? = some none) : Val (f.set u (some y)) u y := by
  unfold Val
  rw [List.getElem?_set_self (look_lt hu)]
theorem Val.of_set {f : List (Option Int)} {v u : Nat} {x y : Int} (h : Val (f.set u (some y)) v x) (hu : f[u]? = some none) : (v = u ∧ x = y) ∨ Val f v x := by
  unfold Val at *
  by_cases e : u = v
  · subst e
    rw [List.getElem?_set_self (look_lt hu)] at h
    cases h
    exact .inl ⟨rfl, rfl⟩
  · rw [List.getElem?_set_ne e] at h
    exact .inr h
theorem Val.only {f : List (Option Int)} {v : Nat} {x y : Int} (h : Val f v x) (h' : Val f v y) : x = y := by
  unfold Val at *
  rw [h] at h'
  cases h'
  rfl
structure Bfd (w : Web) (r : Nat) (L : Int) (f : List (Option Int)) (row later : List Nat) : Prop where
  len : f.length = w.n
  pos : 0 ≤ L
  rt : Val f r 0
  val : ∀ v x, Val f v x → 0 ≤ x ∧ Walk w r v x.toNat ∧ x ≤ L + 1
  now : ∀ v ∈ row, Val f v L
  lat : ∀ v ∈ later, Val f v (L + 1)
  cl : ∀ v x, Val f v x → v ∈ row ++ later ∨ ∀ u, w.adj v u = true → ∃ y, Val f u y ∧ y ≤ x + 1
theorem Bfd.add {w : Web} {r : Nat} {L : Int} {f : List (Option Int)} {row later : List Nat} {h u : Nat} (b : Bfd w r L f row later) (hq : h ∈ row) (a : w.adj h u = true) (hu : f[u]? = some none) : Bfd w r L (f.set u (some (L + 1))) row (later ++ [u]) := by
  have hp := b.pos
  refine ⟨by rw [List.length_set]; exact b.len, hp, b.rt.set hu, fun v x hv => ?_, fun v hv => (b.now v hv).set hu, fun v hv => ?_, fun v x hv => ?_⟩
  · rcases hv.of_set hu with ⟨rfl, rfl⟩ | hv
    · refine ⟨by omega, ?_, Int.le_refl _⟩
      have := (b.val h L (b.now h hq)).2.1
      rw [show (L + 1).toNat = L.toNat + 1 by omega]
      exact .on this a
    · exact b.val v x hv
  · rcases List.mem_append.mp hv with m | m
    · exact (b.lat v m).set hu
    · cases List.mem_singleton.mp m
      exact .here hu
  · rcases hv.of_set hu with ⟨rfl, rfl⟩ | hv
    · exact .inl (by simp)
    · rcases b.cl v x hv with m | m
      · refine .inl ?_
        rw [← List.append_assoc]
        exact List.mem_append_left _ m
      · refine .inr fun z hz => ?_
        obtain ⟨y, hy, hyx⟩ := m z hz
        exact ⟨y, hy.set hu, hyx⟩
theorem Bfd.pop {w : Web} {r : Nat} {L : Int} {f : List (Option Int)} {h : Nat} {row later : List Nat} (b : Bfd w r L f (h :: row) later) (t : ∀ u, w.adj h u = true → ∃ y, Val f u y ∧ y ≤ L + 1) : Bfd w r L f row later := by
  refine ⟨b.len, b.pos, b.rt, b.val, fun v hv => b.now v (List.mem_cons_of_mem _ hv), b.lat, fun v x hv => ?_⟩
  rcases b.cl v x hv with m | m
  · rw [List.cons_append] at m
    rcases List.mem_cons.mp m with rfl | m
    · have := (b.now v List.mem_cons_self).only hv
      rw [← this]
      exact .inr t
    · exact .inl m
  · exact .inr m
theorem Bfd.turn {w : Web} {r : Nat} {L : Int} {f : List (Option Int)} {later : List Nat} (b : Bfd w r L f [] later) : Bfd w r (L + 1) f later [] := by
  have hp := b.pos
  exact ⟨b.len, by omega, b.rt, fun v x hv => by have := b.val v x hv; exact ⟨this.1, this.2.1, by omega⟩, b.lat, (fun v hv => nomatch hv), fun v x hv => by simpa using b.cl v x hv⟩
/-- the least number of steps -/
def Dist (w : Web) (r v : Nat) (d : Nat) : Prop := Walk w r v d ∧ ∀ m, Walk w r v m → d ≤ m
theorem Bfd.walk {w : Web} {r : Nat} {L : Int} {f : List (Option Int)} (b : Bfd w r L f [] []) {v m : Nat} (h : Walk w r v m) : ∃ y, Val f v y ∧ y ≤ m := by
  induction h with
  | here => exact ⟨0, b.rt, Int.le_refl _⟩
  | on h e ih =>
    obtain ⟨x, hx, hm⟩ := ih
    rcases b.cl _ x hx with z | z
    · cases z
    · obtain ⟨y, hy, hyx⟩ := z _ e
      exact ⟨y, hy, by rw [Int.natCast_succ]; omega⟩
theorem Bfd.dist {w : Web} {r : Nat} {L : Int} {f : List (Option Int)} (b : Bfd w r L f [] []) {v : Nat} {x : Int} (h : Val f v x) : 0 ≤ x ∧ Dist w r v x.toNat := by
  obtain ⟨h1, h2, _⟩ := b.val v x h
  refine ⟨h1, h2, fun m hm => ?_⟩
  obtain ⟨y, hy, hle⟩ := b.walk hm
  have := h.only hy
  omega
theorem Reach.walk {w : Web} {i j : Nat} (h : Reach w i j) : ∃ m, Walk w i j m := by
  induction h with
  | here => exact ⟨0, .here _⟩
  | on _ e ih => obtain ⟨m, hm⟩ := ih; exact ⟨m + 1, .on hm e⟩
/-- distances, as a list -/
structure Dists (w : Web) (r : Nat) (f : List (Option Int)) : Prop where
  len : f.length = w.n
  val : ∀ v x, Val f v x → 0 ≤ x ∧ Dist w r v x.toNat
  all : ∀ v, Reach w r v → ∃ x, Val f v x
theorem Bfd.dists {w : Web} {r : Nat} {L : Int} {f : List (Option Int)} (b : Bfd w r L f [] []) : Dists w r f :=
  ⟨b.len, fun v x h => b.dist h, fun v h => by
    obtain ⟨m, hm⟩ := h.walk
    obtain ⟨y, hy, _⟩ := b.walk hm
    exact ⟨y, hy⟩⟩
theorem ways_dist {w : Web} (hw : w.Ok) {r : Nat} (hr : r < w.n) : ∃ d, f_ways_from [.fz (nearD w), .fz (natD r)] = .ok d [] ∧ ∃ f, d = fD f ∧ Dists w r f := by
  have hm := hw.most
  refine W.fnP (P := fun d => ∃ f, d = fD f ∧ Dists w r f) rfl ?_
  unfold m_ways_from
  have hn : dLen [nearD w] = some (.int w.n) := by
    unfold nearD dLen
    simp
  refine .seq (.own (op2_ok (x1 := some (.list [.none])) (x2 := some (.int w.n)) (ρ1 := [.fz (nearD w), .fz (natD r), .no, .no, .no, .no, .no]) (ρ2 := [.fz (nearD w), .fz (natD r), .no, .no, .no, .no, .no]) (by simp [fnM, ownIx, backs, sRet, sSeq, sIf, sSet, sOwn, sDo, sNil, sAsg, Rs.sr, mOp2, Opd.ev, Opd.fin, at_, Sl.val, Rs.then, mLit, mVar, mB, mAnd, mOr, mNot, bAnd, bOr, bNot, mIf, bYes, mTup, mLst, evm, evo, fino, mFn, mCall, eva, sls, ioIx, putBack, Arg.opd, iSeq, iRng, fR1, fR2, sFor, tmName, tmTup, tmSeq, mApp, mExt, mPutAt, dPutAt, mIsi, dTy, isB, dEq, dNe, dLt, dLe, dGt, dGe, dIsN, dNotN, dAdd, dSub, dMod, dFdiv, dMul, dAt, dLen, dInt, dTuple, dList, mChain, sPar, setP]) (by simp [fnM, ownIx, backs, sRet, sSeq, sIf, sSet, sOwn, sDo, sNil, sAsg, Rs.sr, mOp2, Opd.ev, Opd.fin, at_, Sl.val, Rs.then, mLit, mVar, mB, mAnd, mOr, mNot, bAnd, bOr, bNot, mIf, bYes, mTup, mLst, evm, evo, fino, mFn, mCall, eva, sls, ioIx, putBack, Arg.opd, iSeq, iRng, fR1, fR2, sFor, tmName, tmTup, tmSeq, mApp, mExt, mPutAt, dPutAt, mIsi, dTy, isB, dEq, dNe, dLt, dLe, dGt, dGe, dIsN, dNotN, dAdd, dSub, dMod, dFdiv, dMul, dAt, dInt, dTuple, dList, mChain, sPar, setP, hn]) rfl rfl (rep_none hm)) ?_)
  show W _ [.fz (nearD w), .fz (natD r), .own (fD (List.replicate w.n none)), .no, .no, .no, .no] _ _
  have hf : Bfd w r 0 ((List.replicate w.n none).set r (some 0)) [r] [] := by
    have hn0 : (List.replicate w.n (none : Option Int))[r]? = some none := by rw [List.getElem?_replicate]; simp [hr]
    have hv : ∀ v x, Val ((List.replicate w.n (none : Option Int)).set r (some 0)) v x → v = r ∧ x = 0 := fun v x h => by
      rcases h.of_set hn0 with e | h
      · exact e
      · unfold Val at h
        rw [List.getElem?_replicate] at h
        split at h <;> cases h
    refine ⟨by simp, Int.le_refl _, .here hn0, fun v x h => ?_, fun v h => ?_, (fun v h => nomatch h), fun v x h => ?_⟩
    · obtain ⟨rfl, rfl⟩ := hv v x h
      exact ⟨Int.le_refl _, .here _, by omega⟩
    · cases List.mem_singleton.mp h
      exact .here hn0
    · obtain ⟨rfl, rfl⟩ := hv v x h
      exact .inl (by simp)
  refine .seq (.nx (ρ' := [.fz (nearD w), .fz (natD r), .own (fD ((List.replicate w.n none).set r (some 0))), .fz (.list ([r].map natD)), .no, .no, .no]) (by simp [fnM, ownIx, backs, sRet, sSeq, sIf, sSet, sOwn, sDo, sNil, sAsg, Rs.sr, mOp2, Opd.ev, Opd.fin, at_, Sl.val, Rs.then, mLit, mVar, mB, mAnd, mOr, mNot, bAnd, bOr, bNot, mIf, bYes, mTup, mLst, evm, evo, fino, mFn, mCall, eva, sls, ioIx, putBack, Arg.opd, iSeq, iRng, fR1, fR2, sFor, tmName, tmTup, tmSeq, mApp, mExt, mPutAt, dPutAt, mIsi, dTy, isB, dEq, dNe, dLt, dLe, dGt, dGe, dIsN, dNotN, dAdd, dSub, dMod, dFdiv, dMul, dAt, dLen, dInt, dTuple, dList, mChain, sPar, setP, sParT, asgP, asg1, fD, natD, ixN_nat, hr, optD, List.map_set]) ?_)
  refine .seq (.whileM (fun m ρ => ∃ (L : Int) (f : List (Option Int)) (row : List Nat) (x y z : Sl), ρ = [.fz (nearD w), .fz (natD r), .own (fD f), .fz (.list (row.map natD)), x, y, z] ∧ Bfd w r L f row [] ∧ m = nc f + min 1 row.length ∧ row.length ≤ w.n ∧ ∀ d, x ≠ .own d) ?_ _ (nc ((List.replicate w.n none).set r (some 0)) + 1) _ ?_ ⟨0, _, [r], _, _, _, rfl, hf, rfl, by simp; omega, by simp⟩)
  · rintro m _ ⟨L, f, row, x, y, z, rfl, bf, rfl, hl, hx⟩
    refine ⟨!row.isEmpty, [.fz (nearD w), .fz (natD r), .own (fD f), .fz (.list (row.map natD)), x, y, z], ?_, fun hne => ?_, fun he => ?_⟩
    · simp [fnM, ownIx, backs, sRet, sSeq, sIf, sSet, sOwn, sDo, sNil, sAsg, Rs.sr, mOp2, Opd.ev, Opd.fin, at_, Sl.val, Rs.then, mLit, mVar, mB, mAnd, mOr, mNot, bAnd, bOr, bNot, mIf, bYes, mTup, mLst, evm, evo, fino, mFn, mCall, eva, sls, ioIx, putBack, Arg.opd, iSeq, iRng, fR1, fR2, sFor, tmName, tmTup, tmSeq, mApp, mExt, mPutAt, dPutAt, mIsi, dTy, isB, dEq, dLt, dLe, dGt, dGe, dIsN, dNotN, dAdd, dSub, dMod, dFdiv, dMul, dAt, dLen, dInt, dTuple, dList, mChain, sPar, setP, ne_nil]
    · refine .seq (.nx (ρ' := [.fz (nearD w), .fz (natD r), .own (fD f), .fz (.list (row.map natD)), .own (.list (([] : List Nat).map natD)), y, z]) (by simp [fnM, ownIx, backs, sRet, sSeq, sIf, sSet, sOwn, sDo, sNil, sAsg, Rs.sr, mOp2, Opd.ev, Opd.fin, at_, Sl.val, Rs.then, mLit, mVar, mB, mAnd, mOr, mNot, bAnd, bOr, bNot, mIf, bYes, mTup, mLst, evm, evo, fino, mFn, mCall, eva, sls, ioIx, putBack, Arg.opd, iSeq, iRng, fR1, fR2, sFor, tmName, tmTup, tmSeq, mApp, mExt, mPutAt, dPutAt, mIsi, dTy, isB, dEq, dNe, dLt, dLe, dGt, dGe, dIsN, dNotN, dAdd, dSub, dMod, dFdiv, dMul, dAt, dLen, dInt, dTuple, dList, mChain, sPar, setP]) ?_)
      refine .seq (.forA (f := natD) (l := row) (ρ0 := [.fz (nearD w), .fz (natD r), .own (fD f), .fz (.list (row.map natD)), .own (.list (([] : List Nat).map natD)), y, z]) (fun k ρ => ∃ (f' : List (Option Int)) (later : List Nat) (y z : Sl), ρ = [.fz (nearD w), .fz (natD r), .own (fD f'), .fz (.list (row.map natD)), .own (.list (later.map natD)), y, z] ∧ Bfd w r L f' (row.drop k) later ∧ nc f' + min 1 later.length ≤ nc f ∧ later.length + nc f' ≤ w.n) (by simp [fnM, ownIx, backs, sRet, sSeq, sIf, sSet, sOwn, sDo, sNil, sAsg, Rs.sr, mOp2, Opd.ev, Opd.fin, at_, Sl.val, Rs.then, mLit, mVar, mB, mAnd, mOr, mNot, bAnd, bOr, bNot, mIf, bYes, mTup, mLst, evm, evo, fino, mFn, mCall, eva, sls, ioIx, putBack, Arg.opd, iSeq, iRng, fR1, fR2, sFor, tmName, tmTup, tmSeq, mApp, mExt, mPutAt, dPutAt, mIsi, dTy, isB, dEq, dNe, dLt, dLe, dGt, dGe, dIsN, dNotN, dAdd, dSub, dMod, dFdiv, dMul, dAt, dLen, dInt, dTuple, dList, mChain, sPar, setP]) ⟨f, [], y, z, rfl, by simpa using bf, by simp, by have := nc_le f; have := bf.len; simp; omega⟩ ?_ ?_)
      · rintro k h _ ek ⟨f1, later1, y, z, rfl, b1, c1, l1⟩
        have hk := look_lt ek
        have ed : row.drop k = h :: row.drop (k + 1) := by
          rw [List.drop_eq_getElem_cons hk]
          rw [List.getElem?_eq_getElem hk] at ek
          rw [Option.some.inj ek]
        rw [ed] at b1
        have hh : h < w.n := by
          have := look_lt (b1.now h List.mem_cons_self)
          rw [b1.len] at this
          exact this
        refine .forA (f := natD) (l := w.nbr h) (ρ0 := [.fz (nearD w), .fz (natD r), .own (fD f1), .fz (.list (row.map natD)), .own (.list (later1.map natD)), .fz (natD h), z]) (fun j ρ => ∃ (f' : List (Option Int)) (later : List Nat) (z : Sl), ρ = [.fz (nearD w), .fz (natD r), .own (fD f'), .fz (.list (row.map natD)), .own (.list (later.map natD)), .fz (natD h), z] ∧ Bfd w r L f' (h :: row.drop (k + 1)) later ∧ nc f' + min 1 later.length ≤ nc f ∧ later.length + nc f' ≤ w.n ∧ ∀ u ∈ (w.nbr h).take j, ∃ y, Val f' u y ∧ y ≤ L + 1) ?_ ⟨f1, later1, z, rfl, b1, c1, l1, by simp⟩ ?_ ?_
        · have := near_at' hh
          simp [fnM, ownIx, backs, sRet, sSeq, sIf, sSet, sOwn, sDo, sNil, sAsg, Rs.sr, mOp2, Opd.ev, Opd.fin, at_, Sl.val, Rs.then, mLit, mVar, mB, mAnd, mOr, mNot, bAnd, bOr, bNot, mIf, bYes, mTup, mLst, evm, evo, fino, mFn, mCall, eva, sls, ioIx, putBack, Arg.opd, iSeq, iRng, fR1, fR2, sFor, tmName, tmTup, tmSeq, mApp, mExt, mPutAt, dPutAt, mIsi, dTy, isB, dEq, dNe, dLt, dLe, dGt, dGe, dIsN, dNotN, dAdd, dSub, dMod, dFdiv, dMul, dLen, dInt, dTuple, dList, mChain, sPar, setP, this]
        · rintro j u _ ej ⟨f2, later2, z, rfl, b2, c2, l2, t2⟩
          have ha : w.adj h u = true := (Web.mem_nbr hw).mp (List.mem_of_getElem? ej)
          have hu : u < w.n := (Web.adj_lt hw ha).2.1
          have hx : f2[h]? = some (some L) := b2.now h List.mem_cons_self
          have hul : u < f2.length := by rw [b2.len]; exact hu
          have htake : (w.nbr h).take (j + 1) = (w.nbr h).take j ++ [u] := by rw [List.take_add_one, ej]; rfl
          cases eu : f2[u]? with
          | none => rw [List.getElem?_eq_getElem hul] at eu; cases eu
          | some o =>
            cases o with
            | none =>
              have hn := nc_set (L + 1) eu
              refine .ifT (ρ1 := [.fz (nearD w), .fz (natD r), .own (fD f2), .fz (.list (row.map natD)), .own (.list (later2.map natD)), .fz (natD h), .fz (natD u)]) (by simp [fnM, ownIx, backs, sRet, sSeq, sIf, sSet, sOwn, sDo, sNil, sAsg, Rs.sr, mOp2, Opd.ev, Opd.fin, at_, Sl.val, Rs.then, mLit, mVar, mB, mAnd, mOr, mNot, bAnd, bOr, bNot, mIf, bYes, mTup, mLst, evm, evo, fino, mFn, mCall, eva, sls, ioIx, putBack, Arg.opd, iSeq, iRng, fR1, fR2, sFor, tmName, tmTup, tmSeq, mApp, mExt, mPutAt, dPutAt, mIsi, dTy, isB, dEq, dNe, dLt, dLe, dGt, dGe, dIsN, dNotN, dAdd, dSub, dMod, dFdiv, dMul, dAt, dLen, dInt, dTuple, dList, mChain, sPar, setP, natD, fD, atI_nat, eu, optD]) (.seq (.nx (ρ' := [.fz (nearD w), .fz (natD r), .own (fD (f2.set u (some (L + 1)))), .fz (.list (row.map natD)), .own (.list (later2.map natD)), .fz (natD h), .fz (natD u)]) (by simp [fnM, ownIx, backs, sRet, sSeq, sIf, sSet, sOwn, sDo, sNil, sAsg, Rs.sr, mOp2, Opd.ev, Opd.fin, at_, Sl.val, Rs.then, mLit, mVar, mB, mAnd, mOr, mNot, bAnd, bOr, bNot, mIf, bYes, mTup, mLst, evm, evo, fino, mFn, mCall, eva, sls, ioIx, putBack, Arg.opd, iSeq, iRng, fR1, fR2, sFor, tmName, tmTup, tmSeq, mApp, mExt, mPutAt, dPutAt, mIsi, dTy, isB, dEq, dNe, dLt, dLe, dGt, dGe, dIsN, dNotN, dAdd, dSub, dMod, dFdiv, dMul, dAt, dLen, dInt, dTuple, dList, mChain, sPar, setP, natD, fD, atI_nat, hx, optD, ixN_nat, hul, List.map_set]) ?_))
              refine .app rfl (d := natD u) (ρ' := [.fz (nearD w), .fz (natD r), .own (fD (f2.set u (some (L + 1)))), .fz (.list (row.map natD)), .own (.list (later2.map natD)), .fz (natD h), .fz (natD u)]) rfl rfl (by simp; omega) ⟨f2.set u (some (L + 1)), later2 ++ [u], .fz (natD u), by simp, b2.add List.mem_cons_self ha eu, ?_, ?_, ?_⟩
              · simp; omega
              · simp; omega
              · intro v hv
                rw [htake] at hv
                rcases List.mem_append.mp hv with m | m
                · obtain ⟨y, hy, hyx⟩ := t2 v m
                  exact ⟨y, hy.set eu, hyx⟩
                · cases List.mem_singleton.mp m
                  exact ⟨_, .here eu, Int.le_refl _⟩
            | some o =>
              refine .nx (ρ' := [.fz (nearD w), .fz (natD r), .own (fD f2), .fz (.list (row.map natD)), .own (.list (later2.map natD)), .fz (natD h), .fz (natD u)]) ?_ ⟨_, _, _, rfl, b2, c2, l2, ?_⟩
              · simp [fnM, ownIx, backs, sRet, sSeq, sIf, sSet, sOwn, sDo, sNil, sAsg, Rs.sr, mOp2, Opd.ev, Opd.fin, at_, Sl.val, Rs.then, mLit, mVar, mB, mAnd, mOr, mNot, bAnd, bOr, bNot, mIf, bYes, mTup, mLst, evm, evo, fino, mFn, mCall, eva, sls, ioIx, putBack, Arg.opd, iSeq, iRng, fR1, fR2, sFor, tmName, tmTup, tmSeq, mApp, mExt, mPutAt, dPutAt, mIsi, dTy, isB, dEq, dNe, dLt, dLe, dGt, dGe, dIsN, dNotN, dAdd, dSub, dMod, dFdiv, dMul, dAt, dLen, dInt, dTuple, dList, mChain, sPar, setP, natD, fD, atI_nat, eu, optD]
              · intro v hv
                rw [htake] at hv
                rcases List.mem_append.mp hv with m | m
                · exact t2 v m
                · cases List.mem_singleton.mp m
                  exact ⟨o, eu, (b2.val u o eu).2.2⟩
        · rintro _ ⟨f2, later2, z, rfl, b2, c2, l2, t2⟩
          rw [List.take_length] at t2
          exact ⟨f2, later2, _, z, rfl, b2.pop fun u hu => t2 u ((Web.mem_nbr hw).mpr hu), c2, l2⟩
      · rintro _ ⟨f1, later1, y, z, rfl, b1, c1, l1⟩
        rw [List.drop_length] at b1
        refine .nx (ρ' := [.fz (nearD w), .fz (natD r), .own (fD f1), .fz (.list (later1.map natD)), .fz (.list (later1.map natD)), y, z]) (by simp [fnM, ownIx, backs, sRet, sSeq, sIf, sSet, sOwn, sDo, sNil, sAsg, Rs.sr, mOp2, Opd.ev, Opd.fin, at_, Sl.val, Rs.then, mLit, mVar, mB, mAnd, mOr, mNot, bAnd, bOr, bNot, mIf, bYes, mTup, mLst, evm, evo, fino, mFn, mCall, eva, sls, ioIx, putBack, Arg.opd, iSeq, iRng, fR1, fR2, sFor, tmName, tmTup, tmSeq, mApp, mExt, mPutAt, dPutAt, mIsi, dTy, isB, dEq, dNe, dLt, dLe, dGt, dGe, dIsN, dNotN, dAdd, dSub, dMod, dFdiv, dMul, dAt, dLen, dInt, dTuple, dList, mChain, sPar, setP]) ⟨_, ?_, L + 1, f1, later1, _, _, _, rfl, b1.turn, rfl, by omega, by simp⟩
        cases row with
        | nil => cases hne
        | cons a l => simp; omega
    · have : row = [] := by cases row with
        | nil => rfl
        | cons a l => cases he
      subst this
      exact .rt (d := fD f) (ρ' := [.fz (nearD w), .fz (natD r), .fz (fD f), .fz (.list (([] : List Nat).map natD)), x, y, z]) (by simp [fnM, ownIx, backs, sRet, sSeq, sIf, sSet, sOwn, sDo, sNil, sAsg, Rs.sr, mOp2, Opd.ev, Opd.fin, at_, Sl.val, Rs.then, mLit, mVar, mB, mAnd, mOr, mNot, bAnd, bOr, bNot, mIf, bYes, mTup, mLst, evm, evo, fino, mFn, mCall, eva, sls, ioIx, putBack, Arg.opd, iSeq, iRng, fR1, fR2, sFor, tmName, tmTup, tmSeq, mApp, mExt, mPutAt, dPutAt, mIsi, dTy, isB, dEq, dNe, dLt, dLe, dGt, dGe, dIsN, dNotN, dAdd, dSub, dMod, dFdiv, dMul, dAt, dLen, dInt, dTuple, dList, mChain, sPar, setP]) ⟨f, rfl, bf.dists⟩
  · have := nc_le ((List.replicate w.n (none : Option Int)).set r (some 0))
    simp at this
    omega

set_option autoImplicit false
section
variable {w : Web} {s : List Int} {g : Nat → Int}
end

set_option autoImplicit false
open Classical in
noncomputable def rowF (w : Web) (i : Nat) : List (Option Int) := if h : ∃ f, f_ways_from [.fz (nearD w), .fz (natD i)] = .ok (fD f) [] ∧ Dists w i f then h.choose else []
theorem rowF_ok {w : Web} (hw : w.Ok) {i : Nat} (hi : i < w.n) : f_ways_from [.fz (nearD w), .fz (natD i)] = .ok (fD (rowF w i)) [] ∧ Dists w i (rowF w i) := by
  obtain ⟨d, e, f, rfl, hf⟩ := ways_dist hw hi
  have h : ∃ f, f_ways_from [.fz (nearD w), .fz (natD i)] = .ok (fD f) [] ∧ Dists w i f := ⟨f, e, hf⟩
  unfold rowF
  rw [dif_pos h]
  exact h.choose_spec
theorem fD_val {f : List (Option Int)} {v : Nat} (h : Has f v) : dAt (fD f) (natD v) = some (.int (valF f v)) := by
  rw [fD_at, h.val]
  rfl
theorem fD_len (f : List (Option Int)) : dLen [fD f] = some (natD f.length) := by
  show some (PyData.int ((f.map optD).length : Nat)) = _
  rw [List.length_map]
  rfl
theorem has_at {f : List (Option Int)} {v : Nat} (hv : v < f.length) : (dAt (fD f) (natD v)).bind (fun d => dNotN d .none) = some (.bool (hasB f v)) := by
  rw [fD_at]
  unfold hasB
  rw [List.getElem?_eq_getElem hv]
  cases f[v] <;> rfl

set_option autoImplicit false

set_option autoImplicit false
theorem W.put {m : ME} {ix : Opd} {i : Nat} {ρ ρ1 ρ2 : Env} {d c0 c c' kd : D} {x : Option D} {N : Env → Prop} {R : D → Env → Prop} (h1 : m ρ = .ok d ρ1) (h2 : at_ ρ1 i = some c0) (h3 : ix.ev ρ1 = .ok x ρ2) (h4 : ix.fin x ρ2 = some kd) (h5 : ρ2[i]? = some (.own c)) (h6 : dPutAt c kd d = some c') (h : N (ρ2.set i (.own c'))) : W (sAsg m (mPutAt i ix)) ρ N R := by
  refine .nx ?_ h
  unfold sAsg
  rw [h1]
  simp only [Rs.sr]
  have : mPutAt i ix d ρ1 = .ok () (ρ2.set i (.own c')) := by
    unfold mPutAt
    rw [h2]
    simp only [h3, Rs.then]
    rw [h4, h5]
    simp only [h6]
  rw [this]

set_option autoImplicit false
theorem sRet_ex {m : ME} {ρ ρ1 : Env} {e : Exn} (h : m ρ = .ex e ρ1) : sRet m ρ = .ex e ρ1 := by
  unfold sRet
  rw [h]
  rfl
theorem sSet_ex {m : ME} {i : Nat} {ρ ρ1 : Env} {e : Exn} (h : m ρ = .ex e ρ1) : sSet i m ρ = .ex e ρ1 := by
  unfold sSet
  rw [h]
  rfl
def cntL (w : Web) (s : List Int) (k : Nat) : List Int := (List.range w.n).map (cnt w s k)

set_option autoImplicit false

set_option autoImplicit false
open Classical in
noncomputable def leads (w : Web) (k : Nat) : List Nat := (List.range k).filter fun x => decide (∀ y, y < x → ¬ Reach w y x)
theorem le_T (a b : List Int) : PySem.W.dataLe false encT a b = decide (a ≤ b) := by
  have h : PySem.W.dataLe false encT a b = !PySem.W.rowLt (b.map PyData.int) (a.map PyData.int) := rfl
  rw [h, PySem.W.dataLt_ints]
  by_cases hh : b < a
  · have h' : ¬ a ≤ b := fun r => List.not_lt.mpr r hh
    simp [hh, h']
  · have h' : a ≤ b := List.not_lt.mp hh
    simp [hh, h']

set_option autoImplicit false
def FarO (w : Web) (i j : Nat) (o : Option Int) : Prop := (o = none ∧ ¬ Reach w i j) ∨ ∃ d : Nat, o = some (d : Int) ∧ Dist w i j d
theorem Dists.far {w : Web} {i : Nat} {f : List (Option Int)} (h : Dists w i f) {j : Nat} (hj : j < w.n) : ∃ o, f[j]? = some o ∧ FarO w i j o := by
  have hl : j < f.length := by rw [h.len]; exact hj
  refine ⟨f[j], List.getElem?_eq_getElem hl, ?_⟩
  cases e : f[j] with
  | none =>
    refine .inl ⟨rfl, fun r => ?_⟩
    obtain ⟨x, hx⟩ := h.all j r
    unfold Val at hx
    rw [List.getElem?_eq_getElem hl, e] at hx
    cases hx
  | some x =>
    have hv : Val f j x := by unfold Val; rw [List.getElem?_eq_getElem hl, e]
    obtain ⟨h1, h2⟩ := h.val j x hv
    exact .inr ⟨x.toNat, by rw [show ((x.toNat : Nat) : Int) = x by omega], h2⟩
theorem far_eq {w : Web} (hw : w.Ok) {i j : Nat} (hi : i < w.n) (hj : j < w.n) : ∃ o, f_far [.fz (webD w), .fz (natD i), .fz (natD j)] = .ok (optD o) [] ∧ FarO w i j o := by
  obtain ⟨e1, hd⟩ := rowF_ok hw hi
  obtain ⟨o, eo, ho⟩ := hd.far hj
  refine ⟨o, ?_, ho⟩
  refine W.fn0 rfl ?_
  unfold m_far
  refine .seq (.do' (mCall_0 (ρ1 := [.fz (webD w), .fz (natD i), .fz (natD j)]) (xs := [some (webD w)]) (ss := [.fz (webD w)]) rfl rfl (need_web_ok hw)) ?_)
  refine .seq (.do' (mCall_0 (ρ1 := [.fz (webD w), .fz (natD i), .fz (natD j)]) (xs := [some (webD w), some (natD i)]) (ss := [.fz (webD w), .fz (natD i)]) rfl rfl (need_one_ok hi)) ?_)
  refine .seq (.do' (mCall_0 (ρ1 := [.fz (webD w), .fz (natD i), .fz (natD j)]) (xs := [some (webD w), some (natD j)]) (ss := [.fz (webD w), .fz (natD j)]) rfl rfl (need_one_ok hj)) ?_)
  have n0 : mCall f_near_lists [.v (mVar 0)] [.fz (webD w), .fz (natD i), .fz (natD j)] = .ok (nearD w) [.fz (webD w), .fz (natD i), .fz (natD j)] := mCall_0 (xs := [some (webD w)]) (ss := [.fz (webD w)]) rfl rfl (near_eq hw)
  have n1 : mCall f_ways_from [.v (mCall f_near_lists [.v (mVar 0)]), .v (mVar 1)] [.fz (webD w), .fz (natD i), .fz (natD j)] = .ok (fD (rowF w i)) [.fz (webD w), .fz (natD i), .fz (natD j)] := mCall_0 (eva_v n0 (eva_cons (a := .v (mVar 1)) (x := some (natD i)) (ρ1 := [.fz (webD w), .fz (natD i), .fz (natD j)]) rfl rfl)) (ss := [.fz (nearD w), .fz (natD i)]) rfl e1
  exact .ret (op2_ok (x2 := none) (ev_ex n1) rfl rfl rfl (by rw [fD_at, eo]; rfl)) rfl
theorem mRef_exF {m : ME} {ρ ρ' : Env} {x w f : Str} {d : D} (h : m ρ = .ex ⟨x, some (f, d)⟩ ρ') (hc : codeFOf x = some (w, f)) : mRef m ρ = .ok (.tuple [.str w, d]) ρ' := by
  unfold mRef
  rw [h]
  simp only [hc, if_true]
abbrev exW (d : D) : Exn := ⟨"BadWeb", some ("index", d)⟩

set_option autoImplicit false
section
variable {ρ ρ' ρ1 ρ2 : Env}
theorem mVar_fz {i : Nat} {d : D} (h : ρ[i]? = some (.fz d)) : mVar i ρ = .ok d ρ := by unfold mVar; rw [h]
theorem mVar_own {i : Nat} {d : D} (h : ρ[i]? = some (.own d)) : mVar i ρ = .ok d (ρ.set i (.fz d)) := by unfold mVar; rw [h]
theorem mLit_ok {d : D} : mLit d ρ = .ok d ρ := rfl
theorem ev_sl {i : Nat} {d : D} (h : at_ ρ i = some d) : (Opd.sl i).ev ρ = .ok none ρ := by
  show (match at_ ρ i with | some _ => _ | none => _) = _
  rw [h]
theorem evo_nil : evo [] ρ = .ok [] ρ := rfl
theorem evo_cons {o : Opd} {os : List Opd} {x : Option D} {xs : List (Option D)} (h1 : o.ev ρ = .ok x ρ1) (h2 : evo os ρ1 = .ok xs ρ2) : evo (o :: os) ρ = .ok (x :: xs) ρ2 := by
  show (o.ev ρ).then _ = _
  rw [h1]
  show (evo os ρ1).then _ = _
  rw [h2]
  rfl
theorem evm_nil : evm [] ρ = .ok [] ρ := rfl
theorem eva_nil : eva [] ρ = .ok [] ρ := rfl
theorem eva_io {i : Nat} {d : D} {as : List Arg} {xs : List (Option D)} (h : at_ ρ i = some d) (h2 : eva as ρ = .ok xs ρ2) : eva (.io i :: as) ρ = .ok (none :: xs) ρ2 := eva_cons (a := .io i) (ev_sl h) h2
theorem mCall_io {f : FM} {as : List Arg} {xs : List (Option D)} {ss : List Sl} {d : D} {b : List D} (h1 : eva as ρ = .ok xs ρ1) (h2 : sls as xs ρ1 = some ss) (h3 : f ss = .ok d b) (h4 : putBack (ioIx as) b ρ1 = ρ2) : mCall f as ρ = .ok d ρ2 := by
  rw [← h4]
  exact mCall_ok h1 h2 h3
theorem mCall_n {f : FM} {as : List Arg} {xs : List (Option D)} {ss : List Sl} {d : D} (hio : ioIx as = []) (h1 : eva as ρ = .ok xs ρ1) (h2 : sls as xs ρ1 = some ss) (h3 : f ss = .ok d []) : mCall f as ρ = .ok d ρ1 := mCall_0 h1 h2 h3
theorem mTup_ok {ms : List ME} {ds : List D} (h : evm ms ρ = .ok ds ρ') : mTup ms ρ = .ok (.tuple ds) ρ' := by
  unfold mTup; rw [h]; rfl
theorem mLst_ok {ms : List ME} {ds : List D} (h : evm ms ρ = .ok ds ρ') : mLst ms ρ = .ok (.list ds) ρ' := by
  unfold mLst; rw [h]; rfl
theorem mNot_ok {m : ME} {b : Bool} (h : m ρ = .ok (.bool b) ρ') : mNot m ρ = .ok (.bool (!b)) ρ' := by
  unfold mNot; rw [h]; rfl
theorem mNeg_ok {m : ME} {i : Int} (h : m ρ = .ok (.int i) ρ') : mNeg m ρ = .ok (.int (-i)) ρ' := by
  unfold mNeg; rw [h]; rfl
theorem mOr_T {m n : ME} (h : m ρ = .ok (.bool true) ρ1) : mOr m n ρ = .ok (.bool true) ρ1 := by
  unfold mOr; rw [h]; rfl
theorem mOr_F {m n : ME} {d : D} (h : m ρ = .ok (.bool false) ρ1) (h2 : n ρ1 = .ok d ρ2) : mOr m n ρ = .ok d ρ2 := by
  unfold mOr; rw [h]; exact h2
theorem mIf_t {t : MB} {m n : ME} {d : D} (h : t ρ = .ok true ρ1) (h2 : m ρ1 = .ok d ρ2) : mIf t m n ρ = .ok d ρ2 := by rw [mIf_T h, h2]
theorem mIf_f {t : MB} {m n : ME} {d : D} (h : t ρ = .ok false ρ1) (h2 : n ρ1 = .ok d ρ2) : mIf t m n ρ = .ok d ρ2 := by rw [mIf_F h, h2]
theorem iSeq_L {m : ME} {ds : List D} (h : m ρ = .ok (.list ds) ρ') : iSeq m ρ = .ok ds ρ' := by
  unfold iSeq; rw [h]; rfl
theorem iSeq_T {m : ME} {ds : List D} (h : m ρ = .ok (.tuple ds) ρ') : iSeq m ρ = .ok ds ρ' := by
  unfold iSeq; rw [h]; rfl
theorem mChain_ok {g g' : D → D → Option D} {o1 o2 o3 : Opd} {x1 x2 x3 : Option D} {d1 d2 d3 d : D} {ρ3 : Env} (h1 : o1.ev ρ = .ok x1 ρ1) (h2 : o2.ev ρ1 = .ok x2 ρ2) (f1 : o1.fin x1 ρ2 = some d1) (f2 : o2.fin x2 ρ2 = some d2) (hg : g d1 d2 = some (.bool true)) (h3 : o3.ev ρ2 = .ok x3 ρ3) (f2' : o2.fin x2 ρ3 = some d2) (f3 : o3.fin x3 ρ3 = some d3) (hg' : g' d2 d3 = some d) : mChain g g' o1 o2 o3 ρ = .ok d ρ3 := by
  unfold mChain
  rw [h1]
  simp only [Rs.then]
  rw [h2]
  simp only [Rs.then]
  rw [f1, f2]
  simp only [hg]
  rw [h3]
  simp only [Rs.then]
  rw [f2', f3]
  simp only [hg']
end
theorem bNot_T {m : MB} {ρ ρ' : Env} (h : m ρ = .ok false ρ') : bNot m ρ = .ok true ρ' := bNot_ok h
theorem bNot_F {m : MB} {ρ ρ' : Env} (h : m ρ = .ok true ρ') : bNot m ρ = .ok false ρ' := bNot_ok h
theorem rng_nat {os : List Opd} {ρ ρ1 : Env} {xs : List (Option D)} {n : Nat} (h1 : evo os ρ = .ok xs ρ1) (h2 : fino os xs ρ1 = some [natD n]) (hb : n ≤ 1000000) : iRng fR1 os ρ = .ok ((List.range n).map natD) ρ1 := rng_map h1 h2 hb
theorem st_at' {n : Nat} {s : List Int} {i : Nat} (hs : StOk n s) (h : i < n) : dAt (stD s) (natD i) = some (.int (mood s i)) := st_at (by rw [hs.len]; exact h)
theorem eq_nat (i j : Nat) : dEq (natD i) (natD j) = some (.bool (decide (i = j))) := by
  unfold natD
  rw [eq_int]
  exact congrArg (fun b => some (PyData.bool b)) (decide_eq_decide.mpr (by omega))
theorem ne_nat (i j : Nat) : dNe (natD i) (natD j) = some (.bool (!decide (i = j))) := by
  unfold natD
  rw [ne_int]
  exact congrArg (fun b => some (PyData.bool !b)) (decide_eq_decide.mpr (by omega))
theorem isi_T {Ts : List String} {o : Opd} {ρ ρ' : Env} {x : Option D} {t : String} (h : o.ev ρ = .ok x ρ') (h2 : (o.fin x ρ').bind dTy = some t) (h3 : (Ts.any fun T => isB t T) = true) : mIsi Ts o ρ = .ok (.bool true) ρ' := by
  rw [isi_ok h h2, h3]
theorem isi_F {Ts : List String} {o : Opd} {ρ ρ' : Env} {x : Option D} {t : String} (h : o.ev ρ = .ok x ρ') (h2 : (o.fin x ρ').bind dTy = some t) (h3 : (Ts.any fun T => isB t T) = false) : mIsi Ts o ρ = .ok (.bool false) ρ' := by
  rw [isi_ok h h2, h3]
structure X (m : SM) (ρ : Env) (e : Exn) : Prop where
  run : ∃ ρ', m ρ = .ex e ρ'
section
variable {ρ ρ' : Env} {e : Exn}
theorem X.fn {len n : Nat} {m : SM} {ss : List Sl} (h : ownIx 0 ss = []) (h2 : X m (ss ++ List.replicate (len - n) .no) e) : fnM len n [] m ss = .ex e := by
  obtain ⟨ρ, h2⟩ := h2
  exact fn_ex h h2
theorem X.seq {a b : SM} (h : W a ρ (fun ρ' => X b ρ' e) fun _ _ => False) : X (sSeq a b) ρ e := by
  obtain ⟨h⟩ := h
  cases q : a ρ with
  | nx ρ' =>
    rw [q] at h
    obtain ⟨ρ2, h⟩ := h.run
    exact ⟨ρ2, by rw [seq_nx q, h]⟩
  | rt d ρ' => rw [q] at h; exact h.elim
  | ex x ρ' => rw [q] at h; exact h.elim
  | stuck => rw [q] at h; exact h.elim
theorem X.here {a b : SM} (h : X a ρ e) : X (sSeq a b) ρ e := by
  obtain ⟨ρ', h⟩ := h
  exact ⟨ρ', seq_ex h⟩
theorem X.do' {m : ME} (h : m ρ = .ex e ρ') : X (sDo m) ρ e := ⟨ρ', sDo_ex h⟩
theorem X.set' {m : ME} {i : Nat} (h : m ρ = .ex e ρ') : X (sSet i m) ρ e := ⟨ρ', sSet_ex h⟩
theorem X.own' {m : ME} {i : Nat} (h : m ρ = .ex e ρ') : X (sOwn i m) ρ e := ⟨ρ', by unfold sOwn; rw [h]; rfl⟩
theorem X.ret {m : ME} (h : m ρ = .ex e ρ') : X (sRet m) ρ e := ⟨ρ', sRet_ex h⟩
theorem X.ifT {t : MB} {a b : SM} (h : t ρ = .ok true ρ') (h2 : X a ρ' e) : X (sIf t a b) ρ e := by
  obtain ⟨ρ2, h2⟩ := h2
  exact ⟨ρ2, if_ex h h2⟩
theorem X.raise {c : Str} : X (sRaise c) ρ ⟨c, none⟩ := ⟨_, rfl⟩
theorem X.raiseF {c f : Str} {m : ME} {d : D} (h : m ρ = .ok d ρ') : X (sRaiseF c f m) ρ ⟨c, some (f, d)⟩ := ⟨ρ', by unfold sRaiseF; rw [h]; rfl⟩
end
theorem cut_loT {ds : List D} {i : Nat} (h : i ≤ ds.length) : dCut (.tuple ds) none (some (i : Int)) = some (.tuple (ds.take i)) := by
  show some (PyData.tuple ((ds.drop (HT.sIx ds.length 0 none)).take (HT.sIx ds.length ds.length (some (i : Int)) - HT.sIx ds.length 0 none))) = _
  rw [HT.sIx_none, HT.sIx_nat, Nat.min_eq_left h, List.drop_zero, Nat.sub_zero]
theorem cut_hiT {ds : List D} {i : Nat} (h : i ≤ ds.length) : dCut (.tuple ds) (some (i : Int)) none = some (.tuple (ds.drop i)) := by
  show some (PyData.tuple ((ds.drop (HT.sIx ds.length 0 (some (i : Int)))).take (HT.sIx ds.length ds.length none - HT.sIx ds.length 0 (some (i : Int))))) = _
  rw [HT.sIx_none, HT.sIx_nat, Nat.min_eq_left h, List.take_of_length_le (by rw [List.length_drop]; omega)]
theorem mCut_lo {o : Opd} {m : ME} {ρ ρ1 ρ2 : Env} {x : Option D} {i : Nat} {c d : D} (h1 : o.ev ρ = .ok x ρ1) (h2 : m ρ1 = .ok (natD i) ρ2) (h3 : o.fin x ρ2 = some c) (h4 : dCut c none (some (i : Int)) = some d) : mCut o none (some m) ρ = .ok d ρ2 := by
  unfold mCut
  rw [h1]
  simp only [Rs.then, oI]
  rw [h2]
  simp only [Rs.then, natD]
  rw [h3]
  simp only [Option.bind, h4]
theorem mCut_hi {o : Opd} {m : ME} {ρ ρ1 ρ2 : Env} {x : Option D} {i : Nat} {c d : D} (h1 : o.ev ρ = .ok x ρ1) (h2 : m ρ1 = .ok (natD i) ρ2) (h3 : o.fin x ρ2 = some c) (h4 : dCut c (some (i : Int)) none = some d) : mCut o (some m) none ρ = .ok d ρ2 := by
  unfold mCut
  rw [h1]
  simp only [Rs.then, oI]
  rw [h2]
  simp only [Rs.then, natD]
  rw [h3]
  simp only [Option.bind, h4]
theorem add_nat1 (i : Nat) : dAdd (natD i) (.int 1) = some (natD (i + 1)) := rfl
theorem sub_nat1 {i : Nat} (h : 1 ≤ i) : dSub (natD i) (.int 1) = some (natD (i - 1)) := by
  show some (PyData.int ((i : Int) - 1)) = some (.int ((i - 1 : Nat) : Int))
  rw [show ((i - 1 : Nat) : Int) = (i : Int) - 1 by omega]
theorem at_T (ds : List D) (i : Nat) : dAt (.tuple ds) (natD i) = ds[i]? := by
  show atI ds (i : Int) = _
  rw [atI_nat]
theorem at_L (ds : List D) (i : Nat) : dAt (.list ds) (natD i) = ds[i]? := by
  show atI ds (i : Int) = _
  rw [atI_nat]
section
variable {m : ME} {ρ ρ' : Env} {d : D}
abbrev exN (x : Str) : Exn := ⟨x, none⟩
abbrev exWalk (d : D) : Exn := ⟨"BadWalk", some ("index", d)⟩
abbrev exM (d : D) : Exn := ⟨"TooMany", some ("most", d)⟩
abbrev exT (d : D) : Exn := ⟨"InvalidText", some ("word", d)⟩
theorem mRef_web (h : m ρ = .ex (exW d) ρ') : mRef m ρ = .ok (.tuple [.str "web", d]) ρ' := mRef_exF h (by decide)
theorem mRef_walk (h : m ρ = .ex (exWalk d) ρ') : mRef m ρ = .ok (.tuple [.str "walk", d]) ρ' := mRef_exF h (by decide)
theorem mRef_many (h : m ρ = .ex (exM d) ρ') : mRef m ρ = .ok (.tuple [.str "many", d]) ρ' := mRef_exF h (by decide)
theorem mRef_word (h : m ρ = .ex (exT d) ρ') : mRef m ρ = .ok (.tuple [.str "word", d]) ρ' := mRef_exF h (by decide)
theorem mRef_state (h : m ρ = .ex (exN "BadState") ρ') : mRef m ρ = .ok (.str "state") ρ' := mRef_ex h (by decide)
theorem mRef_folk (h : m ρ = .ex (exN "BadFolk") ρ') : mRef m ρ = .ok (.str "folk") ρ' := mRef_ex h (by decide)
theorem mRef_number (h : m ρ = .ex (exN "BadNumber") ρ') : mRef m ρ = .ok (.str "number") ρ' := mRef_ex h (by decide)
theorem mRef_street (h : m ρ = .ex (exN "BadStreet") ρ') : mRef m ρ = .ok (.str "street") ρ' := mRef_ex h (by decide)
theorem mRef_order (h : m ρ = .ex (exN "BadOrder") ρ') : mRef m ρ = .ok (.str "order") ρ' := mRef_ex h (by decide)
theorem mRef_resting (h : m ρ = .ex (exN "NotResting") ρ') : mRef m ρ = .ok (.str "resting") ρ' := mRef_ex h (by decide)
theorem mRef_text (h : m ρ = .ex (exN "NotText") ρ') : mRef m ρ = .ok (.str "text") ρ' := mRef_ex h (by decide)
end

set_option autoImplicit false
theorem stp_anti (s : List Int) (a b : Nat) : stp s b a = - stp s a b := by unfold stp; omega
theorem stp_le (s : List Int) (a b : Nat) : -1 ≤ stp s a b ∧ stp s a b ≤ 1 := by unfold stp; omega
/-- a walk of so many steps with a sum -/
inductive Wk (w : Web) (s : List Int) : Nat → Nat → Nat → Int → Prop where
  | nil (a : Nat) : Wk w s a a 0 0
  | stay {a b k : Nat} {c : Int} : Wk w s a b k c → Wk w s a b (k + 1) c
  | go {a b d k : Nat} {c : Int} : w.adj a b = true → Wk w s b d k c → Wk w s a d (k + 1) (stp s a b + c)
section
variable {w : Web} {s : List Int}
theorem Wk.append {a b d k l : Nat} {c e : Int} (h : Wk w s a b k c) (h2 : Wk w s b d l e) : Wk w s a d (k + l) (c + e) := by
  induction h with
  | nil a => rw [Nat.zero_add, Int.zero_add]; exact h2
  | @stay a b k c _ ih => rw [show k + 1 + l = k + l + 1 by omega]; exact .stay (ih h2)
  | @go a b d k c e' _ ih => rw [show k + 1 + l = k + l + 1 by omega, Int.add_assoc]; exact .go e' (ih h2)
theorem Wk.split {a d : Nat} : ∀ {k l : Nat} {c : Int}, Wk w s a d (k + l) c → ∃ b x y, Wk w s a b k x ∧ Wk w s b d l y ∧ c = x + y := by
  intro k
  induction k generalizing a with
  | zero => intro l c h; rw [Nat.zero_add] at h; exact ⟨a, 0, c, .nil a, h, by omega⟩
  | succ k ih =>
    intro l c h
    rw [show k + 1 + l = k + l + 1 by omega] at h
    cases h with
    | stay h =>
      obtain ⟨b, x, y, h1, h2, e⟩ := ih h
      exact ⟨b, x, y, .stay h1, h2, e⟩
    | go e h =>
      obtain ⟨b, x, y, h1, h2, e2⟩ := ih h
      exact ⟨b, _, y, .go e h1, h2, by omega⟩
theorem Wk.one {a b : Nat} {c : Int} (h : Wk w s a b 1 c) : (a = b ∧ c = 0) ∨ (w.adj a b = true ∧ c = stp s a b) := by
  cases h with
  | stay h => cases h; exact .inl ⟨rfl, rfl⟩
  | go e h => cases h; exact .inr ⟨e, by omega⟩
theorem Wk.idle (a : Nat) : ∀ k, Wk w s a a k 0
  | 0 => .nil a
  | k + 1 => .stay (Wk.idle a k)
theorem Reach.trans' {i j k : Nat} (h : Reach w i j) (h2 : Reach w j k) : Reach w i k := by
  induction h2 with
  | here => exact h
  | on _ e ih => exact .on ih e
theorem Wk.lt (hw : w.Ok) {a b k : Nat} {c : Int} (h : Wk w s a b k c) (ha : a < w.n) : b < w.n := by
  induction h with
  | nil a => exact ha
  | stay _ ih => exact ih ha
  | go e _ ih => exact ih (Web.adj_lt hw e).2.1
theorem Wk.le {a b k : Nat} {c : Int} (h : Wk w s a b k c) : -(k : Int) ≤ c ∧ c ≤ k := by
  induction h with
  | nil a => omega
  | stay _ ih => omega
  | @go a b d k c e _ ih => have := stp_le s a b; omega
theorem cnt_ge (hw : w.Ok) (hs : StOk w.n s) : ∀ {k a b : Nat} {c : Int}, Wk w s a b k c → c ≤ cnt w s k a := by
  intro k
  induction k with
  | zero => intro a b c h; cases h; exact Int.le_refl _
  | succ k ih =>
    intro a b c h
    show c ≤ cnt w s k a + if hot w (runL w s k) a = true then 1 else 0
    cases h with
    | stay h => have := ih h; split <;> omega
    | @go _ b' _ _ c' e h =>
      have h1 := ih h
      have h2 := stp_run hw hs e k
      have h3 := stp_le (runL w s k) a b'
      by_cases h4 : stp (runL w s k) a b' = 1
      · rw [hot_of hw e h4, if_pos rfl]; omega
      · split <;> omega
theorem cnt_wk (hw : w.Ok) (hs : StOk w.n s) : ∀ k a, ∃ b, Wk w s a b k (cnt w s k a) := by
  intro k
  induction k with
  | zero => exact fun a => ⟨a, .nil a⟩
  | succ k ih =>
    intro a
    show ∃ b, Wk w s a b (k + 1) (cnt w s k a + if hot w (runL w s k) a = true then 1 else 0)
    cases h : hot w (runL w s k) a with
    | false =>
      obtain ⟨b, h2⟩ := ih a
      exact ⟨b, by simpa using Wk.stay h2⟩
    | true =>
      obtain ⟨b, e, h1⟩ := of_hot hw h
      obtain ⟨d, h2⟩ := ih b
      have h3 := stp_run hw hs e k
      refine ⟨d, ?_⟩
      rw [if_pos rfl, show cnt w s k a + 1 = stp s a b + cnt w s k b by omega]
      exact .go e h2
theorem cntM_mono : ∀ {k l a : Nat}, k ≤ l → cnt w s k a ≤ cnt w s l a := by
  intro k l a h
  induction h with
  | refl => exact Int.le_refl _
  | @step l _ ih =>
    show cnt w s k a ≤ cnt w s l a + if hot w (runL w s l) a = true then 1 else 0
    split <;> omega
def PathF (w : Web) : Nat → List Nat → Prop
  | _, [] => True
  | a, b :: r => w.adj a b = true ∧ PathF w b r
def sumF (s : List Int) : Nat → List Nat → Int
  | _, [] => 0
  | a, b :: r => stp s a b + sumF s b r
def endF : Nat → List Nat → Nat
  | a, [] => a
  | _, b :: r => endF b r
theorem PathF.append {a : Nat} {X Y : List Nat} : PathF w a (X ++ Y) ↔ PathF w a X ∧ PathF w (endF a X) Y := by
  induction X generalizing a with
  | nil => simp [PathF, endF]
  | cons b r ih => simp only [List.cons_append, PathF, endF, ih, and_assoc]
theorem sumF_append {a : Nat} {X Y : List Nat} : sumF s a (X ++ Y) = sumF s a X + sumF s (endF a X) Y := by
  induction X generalizing a with
  | nil => simp [sumF, endF]
  | cons b r ih => simp only [List.cons_append, sumF, endF, ih]; omega
theorem endF_append {a : Nat} {X Y : List Nat} : endF a (X ++ Y) = endF (endF a X) Y := by
  induction X generalizing a with
  | nil => rfl
  | cons b r ih => simp only [List.cons_append, endF, ih]
theorem endF_mem (a : Nat) (X : List Nat) : endF a X ∈ a :: X := by
  induction X generalizing a with
  | nil => exact List.mem_cons_self
  | cons b r ih => exact List.mem_cons_of_mem _ (ih b)
theorem PathF.lt (hw : w.Ok) {a : Nat} {X : List Nat} (h : PathF w a X) {x : Nat} (hx : x ∈ X) : x < w.n := by
  induction X generalizing a with
  | nil => cases hx
  | cons b r ih =>
    rcases List.mem_cons.mp hx with rfl | hx
    · exact (Web.adj_lt hw h.1).2.1
    · exact ih h.2 hx
theorem PathF.wk {a : Nat} {X : List Nat} (h : PathF w a X) : Wk w s a (endF a X) X.length (sumF s a X) := by
  induction X generalizing a with
  | nil => exact .nil a
  | cons b r ih => exact .go h.1 (ih h.2)
/-- a ring, told by its first and the others -/
structure RingF (w : Web) (a : Nat) (X : List Nat) : Prop where
  nd : (a :: X).Nodup
  len : 2 ≤ X.length
  path : PathF w a X
  back : w.adj (endF a X) a = true
def rsumF (s : List Int) (a : Nat) (X : List Nat) : Int := sumF s a (X ++ [a])
theorem RingF.full {a : Nat} {X : List Nat} (h : RingF w a X) : PathF w a (X ++ [a]) := PathF.append.mpr ⟨h.path, h.back, trivial⟩
theorem RingF.wk {a : Nat} {X : List Nat} (h : RingF w a X) : Wk w s a a (X.length + 1) (rsumF s a X) := by
  have := h.full.wk (s := s)
  rw [endF_append, List.length_append] at this
  exact this
end

set_option autoImplicit false
section
variable {w : Web} {s : List Int}
theorem RingF.turn {a b : Nat} {X Y : List Nat} (h : RingF w a (X ++ b :: Y)) : RingF w b (Y ++ a :: X) ∧ rsumF s b (Y ++ a :: X) = rsumF s a (X ++ b :: Y) := by
  have hf := h.full
  rw [List.append_assoc, PathF.append] at hf
  have h1 : PathF w a (X ++ [b]) := PathF.append.mpr ⟨hf.1, hf.2.1, trivial⟩
  have h2 : PathF w b (Y ++ [a]) := hf.2.2
  have h3 : PathF w b ((Y ++ [a]) ++ (X ++ [b])) := PathF.append.mpr ⟨h2, by rw [endF_append]; exact h1⟩
  have h4 : (Y ++ [a]) ++ (X ++ [b]) = (Y ++ a :: X) ++ [b] := by simp
  rw [h4, PathF.append] at h3
  refine ⟨⟨?_, ?_, h3.1, h3.2.1⟩, ?_⟩
  · refine List.Perm.nodup ?_ h.nd
    refine List.perm_iff_count.mpr fun z => ?_
    simp only [List.count_cons, List.count_append]
    omega
  · have := h.len
    simp only [List.length_append, List.length_cons] at this ⊢
    omega
  · unfold rsumF
    rw [← h4, show (X ++ b :: Y) ++ [a] = (X ++ [b]) ++ (Y ++ [a]) by simp, sumF_append (X := Y ++ [a]) (Y := X ++ [b]), sumF_append (X := X ++ [b]) (Y := Y ++ [a]), endF_append, endF_append]
    show sumF s b (Y ++ [a]) + sumF s a (X ++ [b]) = sumF s a (X ++ [b]) + sumF s b (Y ++ [a])
    omega
theorem PathF.reach {a : Nat} {X : List Nat} (h : PathF w a X) {x : Nat} (hx : x ∈ a :: X) : Reach w a x := by
  induction X generalizing a with
  | nil => cases List.mem_singleton.mp hx; exact .here _
  | cons b r ih =>
    rcases List.mem_cons.mp hx with rfl | hx
    · exact .here _
    · exact (Reach.on (.here _) h.1).trans' (ih h.2 hx)
structure Sp (w : Web) (s : List Int) (x p q : Nat) : Prop where
  pos : 0 < q
  low : Nat.gcd p q = 1
  most : ∀ a X, Reach w x a → RingF w a X → rsumF s a X * q ≤ p * ((X.length : Int) + 1)
  some : p = 0 ∨ ∃ a X, Reach w x a ∧ RingF w a X ∧ rsumF s a X * q = p * ((X.length : Int) + 1)
end

set_option autoImplicit false
theorem fold_of (f : List Int → Option Int) (l : List Int) : dFold f [.list (l.map PyData.int)] = (f l).map PyData.int := by
  show ((dInts (l.map PyData.int)).bind f).map PyData.int = _
  rw [dInts_of]
  rfl
theorem ne_nilI (l : List Int) : dNe (.list (l.map PyData.int)) (.list []) = some (.bool (!l.isEmpty)) := by
  have h := eqv_ints l []
  unfold dNe
  simp only [List.map_nil] at h
  rw [okInts, show okD (.list []) = true from okInts [], h]
  cases l <;> rfl
theorem maxI_some {l : List Int} (h : l ≠ []) : ∃ m, maxI l = some m ∧ m ∈ l ∧ ∀ y ∈ l, y ≤ m := by
  obtain ⟨m, h1, h2⟩ := list_max h
  exact ⟨m, maxI_of h1 h2, h1, h2⟩
def tabD (T : List (List (Option Int))) : D := .list (T.map fD)
def rowL (row : List (Option Int)) (T : List (List (Option Int))) (t : Nat) : List Int := ((List.range row.length).filter fun k => hasB row k && hasB (T.getD k []) t).map fun k => valF row k + valF (T.getD k []) t
def rowX (row : List (Option Int)) (T : List (List (Option Int))) : List (Option Int) := (List.range row.length).map fun t => maxI (rowL row T t)
theorem rowX_len (row : List (Option Int)) (T : List (List (Option Int))) : (rowX row T).length = row.length := by unfold rowX; simp
theorem tab_at {T : List (List (Option Int))} {k : Nat} (h : k < T.length) : dAt (tabD T) (natD k) = some (fD (T.getD k [])) := by
  unfold tabD
  rw [at_L, List.getElem?_map, List.getElem?_eq_getElem h, List.getD_eq_getElem?_getD, List.getElem?_eq_getElem h]
  rfl
theorem fD_has {f : List (Option Int)} {v : Nat} (hv : v < f.length) : ∃ d, dAt (fD f) (natD v) = some d ∧ dNotN d .none = some (.bool (hasB f v)) ∧ (hasB f v = true → d = .int (valF f v)) := by
  have hh := has_at hv
  cases ea : dAt (fD f) (natD v) with
  | none => rw [ea] at hh; cases hh
  | some d =>
    rw [ea] at hh
    refine ⟨d, rfl, hh, fun hb => ?_⟩
    have := fD_val ((hasB_iff f v).mp hb)
    rw [ea] at this
    exact Option.some.inj this
local macro_rules | `(tactic| decreasing_trivial_pre_omega) => `(tactic| first
  | with_reducible assumption
  | ((with_reducible apply tab_at) <;> first | assumption | omega | (simp; done))
  | ((with_reducible apply law_next_eq) <;> first | assumption | omega | (simp; done))
  | ((with_reducible apply law_step_eq) <;> first | assumption | omega | (simp; done))
  | ((with_reducible apply law_near_eq) <;> first | assumption | omega | (simp; done))
  | ((with_reducible apply step_eq) <;> first | assumption | omega | (simp; done))
  | ((with_reducible apply states_from_eq) <;> first | assumption | omega | (simp; done))
  | ((with_reducible apply stirred_in_eq) <;> first | assumption | omega | (simp; done))
  | ((with_reducible apply next_state_eq) <;> first | assumption | omega | (simp; done))
  | ((with_reducible apply need_number_ok) <;> first | assumption | omega | (simp; done))
  | ((with_reducible apply need_both_ok) <;> first | assumption | omega | (simp; done))
  | ((with_reducible apply need_one_ok) <;> first | assumption | omega | (simp; done))
  | ((with_reducible apply need_web_ok) <;> first | assumption | omega | (simp; done))
  | ((with_reducible apply rowF_ok.1) <;> first | assumption | omega | (simp; done))
  | ((with_reducible apply near_len) <;> first | assumption | omega | (simp; done))
  | ((with_reducible apply near_eq) <;> first | assumption | omega | (simp; done))
  | ((with_reducible apply in_adj) <;> first | assumption | omega | (simp; done))
  | ((with_reducible apply near_at') <;> first | assumption | omega | (simp; done))
  | ((with_reducible apply web_1) <;> first | assumption | omega | (simp; done))
  | ((with_reducible apply web_0) <;> first | assumption | omega | (simp; done))
  | ((with_reducible apply st_at') <;> first | assumption | omega | (simp; done))
  | ((with_reducible apply st_at) <;> first | assumption | omega | (simp; done))
  | ((with_reducible apply ne_nat) <;> first | assumption | omega | (simp; done))
  | ((with_reducible apply eq_nat) <;> first | assumption | omega | (simp; done))
  | ((with_reducible apply eq_st) <;> first | assumption | omega | (simp; done))
  | ((with_reducible apply eq_int) <;> first | assumption | omega | (simp; done))
  | ((with_reducible apply ne_int) <;> first | assumption | omega | (simp; done))
  | ((with_reducible apply cut_hiT) <;> first | assumption | omega | (simp; done))
  | ((with_reducible apply cut_loT) <;> first | assumption | omega | (simp; done))
  | ((with_reducible apply cat_st) <;> first | assumption | omega | (simp; done))
  | ((with_reducible apply sub_nat1) <;> first | assumption | omega | (simp; done))
  | ((with_reducible apply add_nat1) <;> first | assumption | omega | (simp; done)))
local macro_rules | `(tactic| array_get_dec) => `(tactic| first
  | with_reducible assumption
  | with_reducible exact mLit_ok
  | ((with_reducible apply mVar_fz); rfl)
  | ((with_reducible apply mVar_own); rfl)
  | ((with_reducible apply ev_sl); rfl)
  | ((with_reducible apply ev_ex); array_get_dec)
  | with_reducible exact evo_nil
  | ((with_reducible apply evo_cons); (· array_get_dec); (· array_get_dec))
  | with_reducible exact eva_nil
  | ((with_reducible apply eva_v); (· array_get_dec); (· array_get_dec))
  | ((with_reducible apply eva_io); (· rfl); (· array_get_dec))
  | with_reducible exact evm_nil
  | ((with_reducible apply evm_cons); (· array_get_dec); (· array_get_dec))
  | ((with_reducible apply op2_ok); (· array_get_dec); (· array_get_dec); (· rfl); (· rfl); (· first | decreasing_trivial_pre_omega | rfl))
  | ((with_reducible apply mFn_ok); (· array_get_dec); (· rfl); (· first | decreasing_trivial_pre_omega | rfl))
  | ((with_reducible apply mCall_n); (· rfl); (· array_get_dec); (· rfl); (· decreasing_trivial_pre_omega))
  | ((with_reducible apply mCall_io); (· array_get_dec); (· rfl); (· decreasing_trivial_pre_omega); (· first | (simp only [ioIx, putBack, List.set_cons_zero, List.set_cons_succ]; done) | (simp only [ioIx, putBack, List.set_cons_zero, List.set_cons_succ]; rfl)))
  | ((with_reducible apply mRef_web); array_get_dec; done)
  | ((with_reducible apply mRef_folk); array_get_dec; done)
  | ((with_reducible apply mRef_number); array_get_dec; done)
  | ((with_reducible apply mRef_state); array_get_dec; done)
  | ((with_reducible apply mRef_many); array_get_dec; done)
  | ((with_reducible apply mRef_walk); array_get_dec; done)
  | ((with_reducible apply mRef_word); array_get_dec; done)
  | ((with_reducible apply mRef_street); array_get_dec; done)
  | ((with_reducible apply mRef_order); array_get_dec; done)
  | ((with_reducible apply mRef_resting); array_get_dec; done)
  | ((with_reducible apply mRef_text); array_get_dec; done)
  | ((with_reducible apply mCall_ex); (· rfl); (· array_get_dec); (· rfl); (· decreasing_trivial_pre_omega))
  | ((with_reducible apply mTup_ok); array_get_dec)
  | ((with_reducible apply isi_T); (· array_get_dec); (· first | rfl | assumption); (· first | rfl | (simp; done) | (simp [*]; done)))
  | ((with_reducible apply isi_F); (· array_get_dec); (· first | rfl | assumption); (· first | rfl | (simp; done) | (simp [*]; done)))
  | ((with_reducible apply mCut_lo); (· array_get_dec); (· array_get_dec); (· rfl); (· decreasing_trivial_pre_omega))
  | ((with_reducible apply mCut_hi); (· array_get_dec); (· array_get_dec); (· rfl); (· decreasing_trivial_pre_omega))
  | ((with_reducible apply mLst_ok); array_get_dec)
  | ((with_reducible apply mNot_ok); array_get_dec)
  | ((with_reducible apply mNeg_ok); array_get_dec)
  | ((with_reducible apply mAnd_T); (· array_get_dec); (· array_get_dec))
  | ((with_reducible apply mAnd_F); array_get_dec)
  | ((with_reducible apply mOr_T); array_get_dec)
  | ((with_reducible apply mOr_F); (· array_get_dec); (· array_get_dec))
  | ((with_reducible apply mIf_t); (· array_get_dec); (· array_get_dec))
  | ((with_reducible apply mIf_f); (· array_get_dec); (· array_get_dec))
  | ((with_reducible apply mChain_ok); (· array_get_dec); (· array_get_dec); (· rfl); (· rfl); (· first | decreasing_trivial_pre_omega | rfl); (· array_get_dec); (· rfl); (· rfl); (· first | decreasing_trivial_pre_omega | rfl))
  | ((with_reducible apply mB_ok); array_get_dec)
  | ((with_reducible apply bNot_T); array_get_dec)
  | ((with_reducible apply bNot_F); array_get_dec)
  | ((with_reducible apply bNot_ok); array_get_dec)
  | ((with_reducible apply bOr_T); array_get_dec)
  | ((with_reducible apply bOr_F); (· array_get_dec); (· array_get_dec))
  | ((with_reducible apply bAnd_F); array_get_dec)
  | ((with_reducible apply bAnd_T); (· array_get_dec); (· array_get_dec))
  | ((with_reducible apply iSeq_L); array_get_dec)
  | ((with_reducible apply iSeq_T); array_get_dec)
  | ((with_reducible apply rng_nat); (· array_get_dec); (· rfl); (· omega)))
local macro_rules | `(tactic| sizeOf_list_dec) => `(tactic| first
  | ((with_reducible apply W.seq); sizeOf_list_dec)
  | ((with_reducible apply W.set'); (· array_get_dec); simp only [List.set_cons_zero, List.set_cons_succ])
  | ((with_reducible apply W.own); (· array_get_dec); simp only [List.set_cons_zero, List.set_cons_succ])
  | ((with_reducible apply W.do'); (· array_get_dec); skip)
  | ((with_reducible apply W.app); (· rfl); (· array_get_dec); (· rfl); (· first | omega | (simp; omega)); simp only [List.set_cons_zero, List.set_cons_succ])
  | ((with_reducible apply W.par); (· array_get_dec); simp only [setP, List.set_cons_zero, List.set_cons_succ, List.map_cons, List.map_nil])
  | ((with_reducible apply W.ifF); (· array_get_dec); (with_reducible apply W.nil))
  | ((with_reducible apply W.ifT); (· array_get_dec); skip)
  | ((with_reducible apply W.ret); (· array_get_dec); skip)
  | ((with_reducible apply X.here); sizeOf_list_dec; done)
  | ((with_reducible apply X.do'); array_get_dec; done)
  | ((with_reducible apply X.set'); array_get_dec; done)
  | ((with_reducible apply X.own'); array_get_dec; done)
  | ((with_reducible apply X.ret); array_get_dec; done)
  | ((with_reducible apply X.ifT); (· array_get_dec); sizeOf_list_dec; done)
  | ((with_reducible apply X.raise); done)
  | ((with_reducible apply X.raiseF); array_get_dec; done)
  | ((with_reducible apply X.seq); sizeOf_list_dec))
structure Sq (n : Nat) (T : List (List (Option Int))) : Prop where
  len : T.length = n
  all : ∀ k, k < n → (T.getD k []).length = n
theorem row_behind_eq {n : Nat} (hn : n ≤ 1000) {row : List (Option Int)} {T : List (List (Option Int))} (hr : row.length = n) (hT : Sq n T) : f_row_behind [.fz (fD row), .fz (tabD T)] = .ok (fD (rowX row T)) [] := by
  have hl := hT.len
  have l1 : dLen [fD row] = some (natD n) := by rw [fD_len, hr]
  refine W.fn0 rfl ?_; unfold m_row_behind; simp only [Nat.reduceSub, List.replicate_succ, List.replicate_zero, List.cons_append, List.nil_append]
  sizeOf_list_dec
  refine .seq (.forA (f := natD) (l := List.range n) (fun t ρ => ∃ x3 x4, ρ = [.fz (fD row), .fz (tabD T), .own (.list (((List.range t).map fun t => maxI (rowL row T t)).map optD)), x3, x4, .no]) (by array_get_dec) (by exact ⟨.no, .no, rfl⟩) ?_ ?_)
  · rintro t d _ et ⟨x3, x4, rfl⟩
    have ht := List.mem_range.mp (List.mem_of_getElem? et)
    obtain rfl : t = d := by
      rw [List.getElem?_range (by have := look_lt et; simpa using this)] at et
      exact Option.some.inj et
    simp only [List.set_cons_zero, List.set_cons_succ]
    refine .seq (.own (mComp_of (f := natD) (ds := List.range n) (fun k => hasB row k && hasB (T.getD k []) t) (fun k => .int (valF row k + valF (T.getD k []) t)) (by array_get_dec) (.no rfl) (fun k hk => ?_) (fun k hk hb => ?_) (by simp; omega)) ?_)
    · have hk := List.mem_range.mp hk
      simp only [List.set_cons_zero, List.set_cons_succ]
      obtain ⟨d1, a1, a2, a3⟩ := fD_has (f := row) (v := k) (by omega)
      obtain ⟨d2, b1, b2, b3⟩ := fD_has (f := T.getD k []) (v := t) (by rw [hT.all k hk]; exact ht)
      have hk' : k < T.length := by omega
      cases e1 : hasB row k with
      | false =>
        rw [e1] at a2
        exact bAnd_F (by array_get_dec)
      | true =>
        rw [e1] at a2
        refine (bAnd_T (by array_get_dec) (by array_get_dec)).trans (by rw [Bool.true_and])
    · have hk := List.mem_range.mp hk
      simp only [List.set_cons_zero, List.set_cons_succ]
      rw [Bool.and_eq_true] at hb
      have a1 := fD_val ((hasB_iff row k).mp hb.1)
      have a2 := fD_val ((hasB_iff (T.getD k []) t).mp hb.2)
      have hk' : k < T.length := by omega
      array_get_dec
    simp only [List.set_cons_zero, List.set_cons_succ]
    have e1 : ((List.range n).filter fun k => hasB row k && hasB (T.getD k []) t).map (fun k => PyData.int (valF row k + valF (T.getD k []) t)) = (rowL row T t).map PyData.int := by
      unfold rowL
      rw [List.map_map, hr]
      rfl
    rw [e1]
    have e2 := ne_nilI (rowL row T t)
    have e3 := fold_of maxI (rowL row T t)
    have hz : (((List.range t).map fun t => maxI (rowL row T t)).map optD).length < 1000000 := by simp; omega
    have hnext : ∀ d, d = optD (maxI (rowL row T t)) → PyData.list (((List.range t).map fun t => maxI (rowL row T t)).map optD ++ [d]) = .list (((List.range (t + 1)).map fun t => maxI (rowL row T t)).map optD) := fun d e => by
      rw [List.range_succ, List.map_append, List.map_append, e]
      rfl
    by_cases hemp : rowL row T t = []
    · rw [hemp] at e2 hnext ⊢
      have e2 : dNe (.list (([] : List Int).map PyData.int)) (.list []) = some (.bool false) := e2
      refine .app rfl (mIf_f (by array_get_dec) mLit_ok) rfl hz ?_
      simp only [List.set_cons_zero, List.set_cons_succ]
      rw [hnext .none rfl]
      exact ⟨_, _, rfl⟩
    · obtain ⟨m, em, _⟩ := maxI_some hemp
      rw [em] at e3 hnext
      have e2 : dNe (.list ((rowL row T t).map PyData.int)) (.list []) = some (.bool true) := by
        rw [e2]
        cases h : rowL row T t with
        | nil => exact absurd h hemp
        | cons a l => rfl
      have e3 : dFold maxI [.list ((rowL row T t).map PyData.int)] = some (.int m) := e3
      refine .app rfl (mIf_t (by array_get_dec) (by array_get_dec)) rfl hz ?_
      simp only [List.set_cons_zero, List.set_cons_succ]
      rw [hnext (.int m) rfl]
      exact ⟨_, _, rfl⟩
  · rintro _ ⟨x3, x4, rfl⟩
    rw [List.length_range]
    sizeOf_list_dec
    unfold rowX fD
    rw [hr]

set_option autoImplicit false
section
variable {w : Web} {s : List Int}
structure RowB (w : Web) (s : List Int) (k a : Nat) (row : List (Option Int)) : Prop where
  len : row.length = w.n
  val : ∀ b, b < w.n → (hasB row b = true ∧ Wk w s a b k (valF row b) ∧ ∀ c, Wk w s a b k c → c ≤ valF row b) ∨ (hasB row b = false ∧ ∀ c, ¬ Wk w s a b k c)
structure TabB (w : Web) (s : List Int) (k : Nat) (T : List (List (Option Int))) : Prop where
  len : T.length = w.n
  row : ∀ a, a < w.n → RowB w s k a (T.getD a [])
theorem TabB.sq {k : Nat} {T : List (List (Option Int))} (h : TabB w s k T) : Sq w.n T := ⟨h.len, fun a ha => (h.row a ha).len⟩
theorem getD_map {α β : Type} (f : α → β) {l : List α} {i : Nat} {x : α} {d : β} (h : l[i]? = some x) : (l.map f).getD i d = f x := by
  rw [List.getD_eq_getElem?_getD, List.getElem?_map, h]
  rfl
theorem opt_row {o : Option Int} {f : List (Option Int)} {b : Nat} (h : f[b]? = some o) : hasB f b = o.isSome ∧ valF f b = o.getD 0 := by
  unfold hasB valF
  rw [h]
  exact ⟨rfl, rfl⟩
theorem rowX_best (hw : w.Ok) {j k a : Nat} {row : List (Option Int)} {T : List (List (Option Int))} (ha : a < w.n) (hr : RowB w s j a row) (hT : TabB w s k T) : RowB w s (j + k) a (rowX row T) := by
  refine ⟨by rw [rowX_len, hr.len], fun t ht => ?_⟩
  have hx : (rowX row T)[t]? = some (maxI (rowL row T t)) := by
    unfold rowX
    rw [List.getElem?_map, List.getElem?_range (by rw [hr.len]; exact ht)]
    rfl
  obtain ⟨e1, e2⟩ := opt_row hx
  rw [e1, e2]
  have hmem : ∀ x, x ∈ rowL row T t ↔ ∃ m, m < w.n ∧ hasB row m = true ∧ hasB (T.getD m []) t = true ∧ x = valF row m + valF (T.getD m []) t := fun x => by
    unfold rowL
    rw [List.mem_map, hr.len]
    constructor
    · rintro ⟨m, hm, rfl⟩
      rw [List.mem_filter, List.mem_range, Bool.and_eq_true] at hm
      exact ⟨m, hm.1, hm.2.1, hm.2.2, rfl⟩
    · rintro ⟨m, h1, h2, h3, rfl⟩
      exact ⟨m, List.mem_filter.mpr ⟨List.mem_range.mpr h1, by rw [h2, h3]; rfl⟩, rfl⟩
  have hsp : ∀ c, Wk w s a t (j + k) c → ∃ y ∈ rowL row T t, c ≤ y := fun c hc => by
    obtain ⟨m, x, y, h1, h2, e⟩ := hc.split
    have hm := h1.lt hw ha
    rcases hr.val m hm with ⟨b1, _, b3⟩ | ⟨_, b⟩
    · rcases (hT.row m hm).val t ht with ⟨c1, _, c3⟩ | ⟨_, c⟩
      · have := b3 x h1
        have := c3 y h2
        exact ⟨_, (hmem _).mpr ⟨m, hm, b1, c1, rfl⟩, by omega⟩
      · exact absurd h2 (c y)
    · exact absurd h1 (b x)
  cases hl : rowL row T t with
  | nil =>
    refine .inr ⟨rfl, fun c hc => ?_⟩
    obtain ⟨y, hy, _⟩ := hsp c hc
    rw [hl] at hy
    cases hy
  | cons q l =>
    obtain ⟨m, em, h1, h2⟩ := maxI_some (l := rowL row T t) (by rw [hl]; simp)
    rw [← hl, em]
    refine .inl ⟨rfl, ?_, fun c hc => ?_⟩
    · obtain ⟨i, hi, b1, c1, e⟩ := (hmem m).mp h1
      show Wk w s a t (j + k) m
      rcases hr.val i hi with ⟨_, b2, _⟩ | ⟨b, _⟩
      · rcases (hT.row i hi).val t ht with ⟨_, c2, _⟩ | ⟨c, _⟩
        · rw [e]
          exact b2.append c2
        · rw [c] at c1; cases c1
      · rw [b] at b1; cases b1
    · obtain ⟨y, hy, hcy⟩ := hsp c hc
      have := h2 y hy
      show c ≤ m
      omega
def row0 (n a : Nat) : List (Option Int) := (List.range n).map fun b => if b = a then some 0 else none
theorem row0_best (w : Web) (s : List Int) {a : Nat} : RowB w s 0 a (row0 w.n a) := by
  refine ⟨by unfold row0; simp, fun b hb => ?_⟩
  have hx : (row0 w.n a)[b]? = some (if b = a then some 0 else none) := by
    unfold row0
    rw [List.getElem?_map, List.getElem?_range hb]
    rfl
  obtain ⟨e1, e2⟩ := opt_row hx
  rw [e1, e2]
  by_cases h : b = a
  · subst h
    rw [if_pos rfl]
    exact .inl ⟨rfl, .nil b, fun c hc => by cases hc; exact Int.le_refl _⟩
  · rw [if_neg h]
    exact .inr ⟨rfl, fun c hc => by cases hc; exact h rfl⟩
def tblE (w : Web) (s : List Int) (a b : Nat) : Option Int := if a = b then some 0 else if w.adj a b = true then some (stp s a b) else none
def tbl (w : Web) (s : List Int) : List (List (Option Int)) := (List.range w.n).map fun a => (List.range w.n).map (tblE w s a)
theorem tbl_best (hw : w.Ok) : TabB w s 1 (tbl w s) := by
  refine ⟨by unfold tbl; simp, fun a ha => ?_⟩
  have hrow : (tbl w s).getD a [] = (List.range w.n).map (tblE w s a) := getD_map _ (List.getElem?_range ha)
  rw [hrow]
  refine ⟨by simp, fun b hb => ?_⟩
  have hx : ((List.range w.n).map (tblE w s a))[b]? = some (tblE w s a b) := by
    rw [List.getElem?_map, List.getElem?_range hb]
    rfl
  obtain ⟨e1, e2⟩ := opt_row hx
  rw [e1, e2]
  unfold tblE
  by_cases h : a = b
  · subst h
    rw [if_pos rfl]
    refine .inl ⟨rfl, Wk.idle a 1, fun c hc => ?_⟩
    rcases hc.one with ⟨_, h⟩ | ⟨h, _⟩
    · rw [h]; exact Int.le_refl _
    · exact absurd rfl (Web.adj_lt hw h).2.2
  · rw [if_neg h]
    by_cases h2 : w.adj a b = true
    · rw [if_pos h2]
      refine .inl ⟨rfl, ?_, fun c hc => ?_⟩
      · have := Wk.go h2 (Wk.nil (w := w) (s := s) b)
        rw [Int.add_zero] at this
        exact this
      · rcases hc.one with ⟨h3, _⟩ | ⟨_, h3⟩
        · exact absurd h3 h
        · rw [h3]; exact Int.le_refl _
    · rw [if_neg h2]
      refine .inr ⟨rfl, fun c hc => ?_⟩
      rcases hc.one with ⟨h3, _⟩ | ⟨h3, _⟩
      · exact h h3
      · exact h2 h3
def twiceT (T : List (List (Option Int))) : List (List (Option Int)) := T.map fun row => rowX row T
theorem look_getD {T : List (List (Option Int))} {a : Nat} (h : a < T.length) : T[a]? = some (T.getD a []) := by
  rw [List.getD_eq_getElem?_getD, List.getElem?_eq_getElem h]
  rfl
theorem rows_best (hw : w.Ok) {j k : Nat} {R T : List (List (Option Int))} (hR : TabB w s j R) (hT : TabB w s k T) : TabB w s (j + k) (R.map fun row => rowX row T) := by
  refine ⟨by rw [List.length_map, hR.len], fun a ha => ?_⟩
  rw [getD_map _ (look_getD (by rw [hR.len]; exact ha))]
  exact rowX_best hw ha (hR.row a ha) hT
theorem twice_best (hw : w.Ok) {k : Nat} {T : List (List (Option Int))} (hT : TabB w s k T) : TabB w s (k + k) (twiceT T) := rows_best hw hT hT
def vals (row : List (Option Int)) : List Int := row.filterMap id
theorem mem_vals {row : List (Option Int)} {x : Int} : x ∈ vals row ↔ ∃ b, b < row.length ∧ hasB row b = true ∧ valF row b = x := by
  unfold vals
  rw [List.mem_filterMap]
  constructor
  · rintro ⟨o, ho, rfl⟩
    obtain ⟨b, hb, e⟩ := List.getElem_of_mem ho
    obtain ⟨e1, e2⟩ := opt_row (o := some x) (List.getElem?_eq_some_iff.mpr ⟨hb, e⟩)
    exact ⟨b, hb, e1, e2⟩
  · rintro ⟨b, hb, h1, rfl⟩
    have h2 := ((hasB_iff row b).mp h1).val
    exact ⟨_, List.mem_of_getElem? h2, rfl⟩
theorem most_best (hw : w.Ok) (hs : StOk w.n s) {k a : Nat} (ha : a < w.n) {row : List (Option Int)} (h : RowB w s k a row) : maxI (vals row) = some (cnt w s k a) := by
  refine maxI_of ?_ fun y hy => ?_
  · obtain ⟨b, hb⟩ := cnt_wk hw hs k a
    have hl := hb.lt hw ha
    rcases h.val b hl with ⟨h1, h2, h3⟩ | ⟨_, h⟩
    · have := h3 _ hb
      have := cnt_ge hw hs h2
      exact mem_vals.mpr ⟨b, by rw [h.len]; exact hl, h1, by omega⟩
    · exact absurd hb (h _)
  · obtain ⟨b, hb, h1, rfl⟩ := mem_vals.mp hy
    rw [h.len] at hb
    rcases h.val b hb with ⟨_, h2, _⟩ | ⟨h2, _⟩
    · exact cnt_ge hw hs h2
    · rw [h2] at h1; cases h1
end

set_option autoImplicit false
theorem make_all {tm : TM} {vs : List Nat} {mk : ME} {row : List D} {ρ : Env} : ∀ (ds : List D) (acc : List (List D)), (∀ d ∈ ds, ∃ ρ', tm d ρ = .ok () ρ' ∧ mk ρ' = .ok (.list row) ρ' ∧ wipeE ρ' vs = ρ) → makeM tm mk vs ds acc ρ = .ok (acc ++ List.replicate ds.length row) ρ
  | [], acc, _ => by simp [makeM]
  | d :: ds, acc, h => by
    obtain ⟨ρ', h1, h2, h3⟩ := h d List.mem_cons_self
    unfold makeM
    rw [h1]
    simp only [Rs.then]
    rw [h2]
    simp only [asList]
    rw [h3, make_all ds (acc ++ [row]) fun x hx => h x (List.mem_cons_of_mem _ hx)]
    simp [List.replicate_succ]
theorem dForM_inv {α : Type} {f : α → D} {tm : TM} {b : DM} (I : Nat → List (List D) → Env → Prop) : ∀ (l : List α) (k : Nat) (dss : List (List D)) (ρ : Env), I k dss ρ →
    (∀ i a dss ρ, l[i]? = some a → I (k + i) dss ρ → ∃ ρ1, tm (f a) ρ = .ok () ρ1 ∧ ∃ dss' ρ', b dss ρ1 = .nx dss' ρ' ∧ I (k + i + 1) dss' ρ') → ∃ dss' ρ', dForM tm b (l.map f) dss ρ = .nx dss' ρ' ∧ I (k + l.length) dss' ρ'
  | [], k, dss, ρ, h, _ => ⟨dss, ρ, rfl, h⟩
  | a :: l, k, dss, ρ, h, hs => by
    obtain ⟨ρ1, h1, dss', ρ', h2, h3⟩ := hs 0 a dss ρ rfl h
    obtain ⟨d2, r2, e, h4⟩ := dForM_inv (f := f) (tm := tm) (b := b) I l (k + 1) dss' ρ' h3 fun i x ds r hx hI => by
      rw [show k + 1 + i = k + (i + 1) by omega] at hI ⊢
      exact hs (i + 1) x ds r hx hI
    refine ⟨d2, r2, ?_, by rw [List.length_cons, show k + (l.length + 1) = k + 1 + l.length by omega]; exact h4⟩
    show (Rs.dr (tm (f a) ρ) _) = _
    rw [h1]
    show (match b dss ρ1 with
      | .nx dss' ρ2 => dForM tm b (l.map f) dss' ρ2
      | .stuck => .stuck) = _
    rw [h2]
    exact e
theorem dFor_inv {α : Type} {f : α → D} {l : List α} {it : MI} {tm : TM} {b : DM} {dss : List (List D)} {ρ ρ0 : Env} (I : Nat → List (List D) → Env → Prop) (hit : it ρ = .ok (l.map f) ρ0) (h0 : I 0 dss ρ0)
    (hs : ∀ i a dss ρ, l[i]? = some a → I i dss ρ → ∃ ρ1, tm (f a) ρ = .ok () ρ1 ∧ ∃ dss' ρ', b dss ρ1 = .nx dss' ρ' ∧ I (i + 1) dss' ρ') : ∃ dss' ρ', dFor it tm b dss ρ = .nx dss' ρ' ∧ I l.length dss' ρ' := by
  obtain ⟨d2, r2, e, h⟩ := dForM_inv (f := f) (tm := tm) (b := b) I l 0 dss ρ0 h0 fun i a ds r hx hI => by rw [Nat.zero_add] at hI ⊢; exact hs i a ds r hx hI
  rw [Nat.zero_add] at h
  refine ⟨d2, r2, ?_, h⟩
  unfold dFor
  rw [hit]
  exact e
def tabP (n : Nat) (E : Nat → Nat → Option Int) : List (List D) := (List.range n).map fun a => (List.range n).map fun b => optD (E a b)
theorem tabP_put {n : Nat} {E : Nat → Nat → Option Int} {i j a b : Nat} {m : ME} {x : Option Int} {ρ : Env} (ha : a < n) (hb : b < n) (hi : at_ ρ i = some (natD a)) (hj : at_ ρ j = some (natD b)) (hm : m ρ = .ok (optD x) ρ) :
    dPut (.sl i) (.sl j) m (tabP n E) ρ = .nx (tabP n fun a' b' => if a' = a ∧ b' = b then x else E a' b') ρ := by
  have hl : (tabP n E).length = n := by unfold tabP; simp
  have hr : (tabP n E)[a]? = some ((List.range n).map fun b => optD (E a b)) := by
    unfold tabP
    rw [List.getElem?_map, List.getElem?_range ha]
    rfl
  unfold dPut
  rw [hm]
  simp only [Rs.dr]
  rw [ev_sl hi]
  simp only [Rs.dr]
  rw [show Opd.fin (.sl i) none ρ = some (natD a) from hi]
  simp only [natD]
  rw [ixN_nat, hl, if_pos ha]
  simp only [Rs.dr]
  rw [ev_sl hj]
  simp only [Rs.dr]
  rw [show Opd.fin (.sl j) none ρ = some (natD b) from hj, hr]
  simp only [natD]
  rw [ixN_nat, List.length_map, List.length_range, if_pos hb]
  simp only
  congr 1
  unfold tabP
  rw [set_range, set_range]
  refine List.map_congr_left fun a' _ => ?_
  by_cases e : a' = a
  · subst e
    rw [if_pos rfl]
    refine List.map_congr_left fun b' _ => ?_
    by_cases e2 : b' = b
    · subst e2
      simp
    · simp [e2]
  · rw [if_neg e]
    refine List.map_congr_left fun b' _ => ?_
    simp [e]
theorem tabP_congr {n : Nat} {E F : Nat → Nat → Option Int} (h : ∀ a b, a < n → b < n → E a b = F a b) : tabP n E = tabP n F := by
  unfold tabP
  refine List.map_congr_left fun a ha => List.map_congr_left fun b hb => ?_
  rw [h a b (List.mem_range.mp ha) (List.mem_range.mp hb)]
theorem W.deep {i : Nat} {it : MI} {tm : TM} {mk : ME} {vs : List Nat} {b : DM} {m3 : SM} {ρ ρ1 ρe ρ2 : Env} {ds : List D} {dss dss' : List (List D)} {N : Env → Prop} {R : D → Env → Prop} (hit : it ρ = .ok ds ρ1) (hl : ds.length ≤ 1000000) (hi : i < ρ1.length) (hmk : makeM tm mk vs ds [] (wipeE ρ1 vs) = .ok dss ρe)
    (hb : b dss ((unwipe ρ1 ρe vs).set i .no) = .nx dss' ρ2) (h : W m3 (ρ2.set i (.fz (.list (dss'.map PyData.list)))) N R) : W (sDeep i it tm mk vs b m3) ρ N R := by
  obtain ⟨h⟩ := h
  refine ⟨?_⟩
  unfold sDeep
  rw [hit]
  simp only [Rs.sr]
  rw [if_pos ⟨by unfold sizeLine; omega, hi⟩, hmk]
  simp only
  rw [hb]
  exact h
local macro_rules | `(tactic| decreasing_trivial_pre_omega) => `(tactic| first
  | with_reducible assumption)
theorem table_of_eq {w : Web} (hw : w.Ok) {s : List Int} (hs : StOk w.n s) : f_table_of [.fz (webD w), .fz (stD s)] = .ok (tabD (tbl w s)) [] := by
  have hm := hw.most
  refine W.fn0 rfl ?_; unfold m_table_of; simp only [Nat.reduceSub, List.replicate_succ, List.replicate_zero, List.cons_append, List.nil_append]
  sizeOf_list_dec
  have hrng : ∀ x3 x4 x5 : Sl, iRng fR1 [.ex (mOp2 dAt (.sl 0) (.ex (mLit (.int 0))))] [.fz (webD w), .fz (stD s), .fz (nearD w), x3, x4, x5] = .ok ((List.range w.n).map natD) [.fz (webD w), .fz (stD s), .fz (nearD w), x3, x4, x5] := fun x3 x4 x5 => by array_get_dec
  have hh := dFor_inv (f := natD) (l := List.range w.n) (it := iRng fR1 [.ex (mOp2 dAt (.sl 0) (.ex (mLit (.int 0))))]) (tm := tmName 4)
    (b := dSeq (dPut (.sl 4) (.sl 4) (mLit (.int 0))) (dFor (iSeq (mOp2 dAt (.sl 2) (.sl 4))) (tmName 5) (dPut (.sl 4) (.sl 5) (mCall f_step [.v (mVar 1), .v (mVar 4), .v (mVar 5)]))))
    (dss := tabP w.n fun a b => if a < 0 then tblE w s a b else none) (ρ := [.fz (webD w), .fz (stD s), .fz (nearD w), .no, .no, .no])
    (fun k dss ρ => dss = tabP w.n (fun a b => if a < k then tblE w s a b else none) ∧ ∃ x4 x5, ρ = [.fz (webD w), .fz (stD s), .fz (nearD w), .no, x4, x5]) (hrng _ _ _) ⟨rfl, _, _, rfl⟩ (by
    rintro k a _ _ ek ⟨rfl, x4, x5, rfl⟩
    have hk := List.mem_range.mp (List.mem_of_getElem? ek)
    obtain rfl : k = a := by
      rw [List.getElem?_range (by have := look_lt ek; simpa using this)] at ek
      exact Option.some.inj ek
    refine ⟨[.fz (webD w), .fz (stD s), .fz (nearD w), .no, .fz (natD k), x5], rfl, ?_⟩
    unfold dSeq
    rw [tabP_put (m := mLit (.int 0)) (x := some 0) hk hk rfl rfl rfl]
    simp only
    obtain ⟨d3, r3, e3, ⟨rfl, z5, rfl⟩⟩ := dFor_inv (f := natD) (l := w.nbr k) (it := iSeq (mOp2 dAt (.sl 2) (.sl 4))) (tm := tmName 5)
      (b := dPut (.sl 4) (.sl 5) (mCall f_step [.v (mVar 1), .v (mVar 4), .v (mVar 5)])) (dss := tabP w.n fun a' b' => if a' = k ∧ b' = k then some 0 else if a' < k then tblE w s a' b' else none) (ρ := [.fz (webD w), .fz (stD s), .fz (nearD w), .no, .fz (natD k), x5])
      (fun i dss ρ => dss = tabP w.n (fun a' b' => if a' = k ∧ b' ∈ (w.nbr k).take i then some (stp s k b') else if a' = k ∧ b' = k then some 0 else if a' < k then tblE w s a' b' else none) ∧ ∃ x5, ρ = [.fz (webD w), .fz (stD s), .fz (nearD w), .no, .fz (natD k), x5])
      (by array_get_dec) ⟨tabP_congr fun a b _ _ => by simp, _, rfl⟩ (by
      rintro i b _ _ ei ⟨rfl, x5, rfl⟩
      have hb := (Web.mem_nbr hw).mp (List.mem_of_getElem? ei)
      have hbn := (Web.adj_lt hw hb).2.1
      have hsl := hs.len
      refine ⟨[.fz (webD w), .fz (stD s), .fz (nearD w), .no, .fz (natD k), .fz (natD b)], rfl, _, _, tabP_put (x := some (stp s k b)) hk hbn rfl rfl (by
        show mCall f_step [.v (mVar 1), .v (mVar 4), .v (mVar 5)] _ = .ok (.int (stp s k b)) _
        array_get_dec), ?_, _, rfl⟩
      refine tabP_congr fun a' b' _ _ => ?_
      rw [List.take_add_one, ei]
      by_cases e1 : a' = k ∧ b' = b
      · rw [if_pos e1, if_pos ⟨e1.1, by rw [e1.2]; simp⟩, e1.2]
      · rw [if_neg e1]
        by_cases e2 : a' = k ∧ b' ∈ (w.nbr k).take i
        · rw [if_pos e2, if_pos ⟨e2.1, List.mem_append_left _ e2.2⟩]
        · rw [if_neg e2]
          refine (if_neg fun z => ?_).symm
          rcases List.mem_append.mp z.2 with q | q
          · exact e2 ⟨z.1, q⟩
          · exact e1 ⟨z.1, by simpa using q⟩)
    rw [e3]
    refine ⟨_, _, rfl, tabP_congr fun a' b' _ _ => ?_, _, _, rfl⟩
    rw [List.take_length]
    by_cases e1 : a' = k
    · subst e1
      rw [if_pos (Nat.lt_succ_self a')]
      unfold tblE
      by_cases e2 : b' ∈ w.nbr a'
      · have h3 := (Web.mem_nbr hw).mp e2
        rw [if_pos ⟨rfl, e2⟩, if_neg (Web.adj_lt hw h3).2.2, if_pos h3]
      · rw [if_neg (fun z => e2 z.2)]
        by_cases e3 : b' = a'
        · rw [if_pos ⟨rfl, e3⟩, if_pos e3.symm]
        · rw [if_neg (fun z => e3 z.2), if_neg (Nat.lt_irrefl a'), if_neg (fun z => e3 z.symm), if_neg (fun z => e2 ((Web.mem_nbr hw).mpr z))]
    · rw [if_neg (fun z => e1 z.1), if_neg (fun z => e1 z.1)]
      by_cases e2 : a' < k
      · rw [if_pos e2, if_pos (by omega)]
      · rw [if_neg e2, if_neg (by omega)])
  obtain ⟨d2, r2, e, h5, y4, y5, h6⟩ := hh
  subst h5 h6
  refine .deep (hrng _ _ _) (by simp; omega) (show 3 < 6 by omega) (make_all (row := List.replicate w.n .none) _ _ (fun d hd => by
    obtain ⟨a, ha, rfl⟩ := List.mem_map.mp hd
    refine ⟨[.fz (webD w), .fz (stD s), .fz (nearD w), .no, .fz (natD a), .no], rfl, ?_, rfl⟩
    have h1 : dRep (.list [.none]) (natD w.n) = some (.list (List.replicate w.n .none)) := by
      have := rep_none (n := w.n) (by omega)
      rw [List.map_replicate] at this
      exact this
    array_get_dec)) (dss' := tabP w.n fun a b => if a < (List.range w.n).length then tblE w s a b else none) (ρ2 := [.fz (webD w), .fz (stD s), .fz (nearD w), .no, y4, y5]) ?_ ?_
  · rw [← e]
    have h2 : List.replicate w.n (List.replicate w.n (.none : D)) = tabP w.n fun a b => if a < 0 then tblE w s a b else none := by
      unfold tabP
      refine (List.eq_replicate_iff.mpr ⟨by simp, fun x hx => ?_⟩).symm
      obtain ⟨a, _, rfl⟩ := List.mem_map.mp hx
      exact List.eq_replicate_iff.mpr ⟨by simp, fun y hy => by
        obtain ⟨b, _, rfl⟩ := List.mem_map.mp hy
        rfl⟩
    rw [List.nil_append, List.length_map, List.length_range, h2]
    rfl
  have h4 : (tabP w.n (fun a b => if a < (List.range w.n).length then tblE w s a b else none)).map PyData.list = (tbl w s).map fD := by
    unfold tabP tbl
    rw [List.map_map, List.map_map]
    refine List.map_congr_left fun a ha => ?_
    show PyData.list _ = PyData.list _
    rw [List.map_map]
    refine congrArg PyData.list (List.map_congr_left fun b _ => ?_)
    show optD (if a < (List.range w.n).length then tblE w s a b else none) = _
    rw [if_pos (by simpa using ha)]
    rfl
  rw [h4]
  simp only [List.set_cons_zero, List.set_cons_succ]
  sizeOf_list_dec
  rfl

set_option autoImplicit false
theorem W.parT {ts : List PT} {ms : List (Bool × ME)} {ρ ρ1 ρ2 : Env} {ds : List D} {N : Env → Prop} {R : D → Env → Prop} (e : evm (ms.map (·.2)) ρ = .ok ds ρ1) (h2 : asgP ts (ms.map (·.1)) ds ρ1 = some ρ2) (h : N ρ2) : W (sParT ts ms) ρ N R := by
  refine .nx (ρ' := ρ2) ?_ h
  unfold sParT
  rw [e]
  simp only [Rs.sr]
  rw [h2]
/-- a comprehension without a condition -/
theorem comp_all {α : Type} {f : α → D} {i : Nat} {it : MI} {elt : ME} (g : α → D) {ρ ρ1 : Env} {ds : List α} (hit : it ρ = .ok (ds.map f) ρ1) (hf : Free ρ1 i) (he : ∀ d ∈ ds, elt (ρ1.set i (.fz (f d))) = .ok (g d) (ρ1.set i (.fz (f d)))) (hz : ds.length ≤ 1000000) :
    mComp it (tmName i) bYes elt [i] ρ = .ok (.list (ds.map g)) ρ1 := by
  have := mComp_of (cd := bYes) (fun _ => true) g hit hf (fun _ _ => rfl) (fun d hd _ => he d hd) hz
  rw [List.filter_eq_self.mpr (fun _ _ => rfl)] at this
  exact this
theorem comp_some {α : Type} {f : α → D} {i : Nat} {it : MI} {cd : MB} {elt : ME} (p : α → Bool) (g : α → D) {ρ ρ1 : Env} {ds : List α} {r : List D} (hit : it ρ = .ok (ds.map f) ρ1) (hf : Free ρ1 i) (hc : ∀ d ∈ ds, cd (ρ1.set i (.fz (f d))) = .ok (p d) (ρ1.set i (.fz (f d))))
    (he : ∀ d ∈ ds, p d = true → elt (ρ1.set i (.fz (f d))) = .ok (g d) (ρ1.set i (.fz (f d)))) (hz : ds.length ≤ 1000000) (hr : (ds.filter p).map g = r) : mComp it (tmName i) cd elt [i] ρ = .ok (.list r) ρ1 := by
  rw [← hr]
  exact mComp_of p g hit hf hc he hz
theorem opt_notN (o : Option Int) : dNotN (optD o) .none = some (.bool o.isSome) := by cases o <;> rfl
theorem mod_nat2 (m : Nat) : dMod (natD m) (.int 2) = some (natD (m % 2)) := by
  show (if (0 : Int) < 2 then some (PyData.int ((m : Int) % 2)) else none) = _
  rw [if_pos (by omega)]
  unfold natD
  rw [show ((m % 2 : Nat) : Int) = (m : Int) % 2 by omega]
theorem div_nat2 (m : Nat) : dFdiv (natD m) (.int 2) = some (natD (m / 2)) := by
  show (if (0 : Int) < 2 ∧ (2 : Int).natAbs.log2 < 9000 then some (PyData.int ((m : Int) / 2)) else none) = _
  rw [if_pos ⟨by omega, log2_lt (by omega) (by omega)⟩]
  unfold natD
  rw [show ((m / 2 : Nat) : Int) = (m : Int) / 2 by omega]
theorem gt_nat0 (m : Nat) : dGt (natD m) (.int 0) = some (.bool (decide (0 < m))) := by
  show some (PyData.bool (decide ((0 : Int) < (m : Int)))) = _
  rw [decide_eq_decide.mpr (show (0 : Int) < (m : Int) ↔ 0 < m by omega)]
theorem eq_nat1 (m : Nat) : dEq (natD m) (.int 1) = some (.bool (decide (m = 1))) := eq_nat m 1
theorem eq_nat0 (m : Nat) : dEq (natD m) (.int 0) = some (.bool (decide (m = 0))) := eq_nat m 0
local macro_rules | `(tactic| decreasing_trivial_pre_omega) => `(tactic| first
  | with_reducible assumption
  | ((with_reducible apply table_of_eq) <;> first | assumption | omega | (simp; done))
  | ((with_reducible apply opt_notN) <;> first | assumption | omega | (simp; done))
  | ((with_reducible apply eq_nat0) <;> first | assumption | omega | (simp; done))
  | ((with_reducible apply eq_nat1) <;> first | assumption | omega | (simp; done))
  | ((with_reducible apply gt_nat0) <;> first | assumption | omega | (simp; done))
  | ((with_reducible apply div_nat2) <;> first | assumption | omega | (simp; done))
  | ((with_reducible apply mod_nat2) <;> first | assumption | omega | (simp; done)))
theorem first_row_eq {n a : Nat} (hn : n ≤ 1000) : f_first_row [.fz (natD n), .fz (natD a)] = .ok (fD (row0 n a)) [] := by
  refine W.fn0 rfl ?_; unfold m_first_row; simp only [Nat.reduceSub, List.replicate_succ, List.replicate_zero, List.cons_append, List.nil_append]
  have h1 : ∀ b : Nat, mIf (mB (mOp2 dEq (.sl 2) (.sl 1))) (mLit (.int 0)) (mLit .none) [.fz (natD n), .fz (natD a), .fz (natD b)] = .ok (optD (if b = a then some 0 else none)) [.fz (natD n), .fz (natD a), .fz (natD b)] := fun b => by
    by_cases h : b = a
    · have h2 : dEq (natD b) (natD a) = some (.bool true) := by rw [eq_nat, decide_eq_true h]
      rw [if_pos h]
      exact mIf_t (by array_get_dec) mLit_ok
    · have h2 : dEq (natD b) (natD a) = some (.bool false) := by rw [eq_nat, decide_eq_false h]
      rw [if_neg h]
      exact mIf_f (by array_get_dec) mLit_ok
  refine .ret (comp_all (f := natD) (fun b => optD (if b = a then some 0 else none)) (by array_get_dec) (.no rfl) (fun b _ => h1 b) (by simp; omega) (ρ1 := [.fz (natD n), .fz (natD a), .no]) (ds := List.range n)) ?_
  unfold fD row0
  rw [List.map_map]
  rfl
theorem vals_filter (row : List (Option Int)) : (row.filter (·.isSome)).map optD = (vals row).map PyData.int := by
  unfold vals
  induction row with
  | nil => rfl
  | cons o r ih =>
    cases o with
    | none => simpa using ih
    | some x => simpa [optD] using ih
theorem most_of_eq {row : List (Option Int)} {m : Int} (hl : row.length ≤ 1000) (h : maxI (vals row) = some m) : f_most_of [.fz (fD row)] = .ok (.int m) [] := by
  have h1 := fold_of maxI (vals row)
  rw [h] at h1
  have h1 : dFold maxI [.list ((vals row).map PyData.int)] = some (.int m) := h1
  have hit : iSeq (mVar 0) [.fz (fD row), .no] = .ok (row.map optD) [.fz (fD row), .no] := rfl
  refine W.fn0 rfl ?_; unfold m_most_of; simp only [Nat.reduceSub, List.replicate_succ, List.replicate_zero, List.cons_append, List.nil_append]
  have hc := comp_some (f := optD) (i := 1) (it := iSeq (mVar 0)) (cd := mB (mOp2 dNotN (.sl 1) (.ex (mLit .none)))) (elt := mVar 1) (·.isSome) optD (ρ := [.fz (fD row), .no]) (ρ1 := [.fz (fD row), .no]) (ds := row) (r := (vals row).map PyData.int) hit (.no rfl) (fun o _ => by
    simp only [List.set_cons_zero, List.set_cons_succ]
    array_get_dec) (fun o _ _ => rfl) (by omega) (vals_filter row)
  sizeOf_list_dec
  rfl
theorem sq_row {n : Nat} {T : List (List (Option Int))} (h : Sq n T) {row : List (Option Int)} (hr : row ∈ T) : row.length = n := by
  obtain ⟨k, hk, e⟩ := List.getElem_of_mem hr
  have := h.all k (by rw [← h.len]; exact hk)
  rw [List.getD_eq_getElem?_getD, List.getElem?_eq_getElem hk, e] at this
  exact this
theorem rows_eq {n : Nat} (hn : n ≤ 1000) {R T : List (List (Option Int))} (hR : Sq n R) (hT : Sq n T) {it : MI} {i k : Nat} {ρ ρ1 : Env} (hit : it ρ = .ok (R.map fD) ρ1) (hf : Free ρ1 i) (hij : i < ρ1.length) (hj : ρ1[k]? = some (.fz (tabD T))) (hik : k ≠ i) :
    mComp it (tmName i) bYes (mCall f_row_behind [.v (mVar i), .v (mVar k)]) [i] ρ = .ok (tabD (R.map fun row => rowX row T)) ρ1 := by
  have := comp_all (f := fD) (i := i) (it := it) (elt := mCall f_row_behind [.v (mVar i), .v (mVar k)]) (fun row => fD (rowX row T)) hit hf (fun row hr => by
    have e1 : (ρ1.set i (.fz (fD row)))[i]? = some (.fz (fD row)) := List.getElem?_set_self hij
    have e2 : (ρ1.set i (.fz (fD row)))[k]? = some (.fz (tabD T)) := by rw [List.getElem?_set_ne (Ne.symm hik)]; exact hj
    exact mCall_n rfl (eva_v (mVar_fz e1) (eva_v (mVar_fz e2) eva_nil)) rfl (row_behind_eq hn (sq_row hR hr) hT)) (by rw [hR.len]; omega)
  rw [this]
  unfold tabD
  rw [List.map_map]
  rfl
theorem twice_eq {n : Nat} (hn : n ≤ 1000) {T : List (List (Option Int))} (hT : Sq n T) : f_twice [.fz (tabD T)] = .ok (tabD (twiceT T)) [] := by
  refine W.fn0 rfl ?_; unfold m_twice; simp only [Nat.reduceSub, List.replicate_succ, List.replicate_zero, List.cons_append, List.nil_append]
  refine .ret (rows_eq hn hT hT (i := 1) (k := 0) (it := iSeq (mVar 0)) (ρ1 := [.fz (tabD T), .no]) rfl (.no rfl) (by simp) rfl (by omega)) rfl
def rows0 (n : Nat) : List (List (Option Int)) := (List.range n).map (row0 n)
theorem rows0_best (w : Web) (s : List Int) : TabB w s 0 (rows0 w.n) := by
  refine ⟨by unfold rows0; simp, fun a ha => ?_⟩
  unfold rows0
  rw [getD_map _ (List.getElem?_range ha)]
  exact row0_best w s
theorem rows_most {w : Web} (hw : w.Ok) {s : List Int} (hs : StOk w.n s) {k : Nat} {R : List (List (Option Int))} (hR : TabB w s k R) : (∀ row ∈ R, ∃ m, maxI (vals row) = some m) ∧ R.map (fun row => (maxI (vals row)).getD 0) = cntL w s k := by
  have hrow : ∀ a, a < w.n → R[a]? = some (R.getD a []) := fun a ha => look_getD (by rw [hR.len]; exact ha)
  refine ⟨fun row hr => ?_, ?_⟩
  · obtain ⟨a, ha, e⟩ := List.getElem_of_mem hr
    have ha' : a < w.n := by rw [← hR.len]; exact ha
    have h1 := most_best hw hs ha' (hR.row a ha')
    have h2 := hrow a ha'
    rw [List.getElem?_eq_getElem ha, e] at h2
    rw [← Option.some.inj h2] at h1
    exact ⟨_, h1⟩
  · refine List.ext_getElem? fun a => ?_
    unfold cntL
    rw [List.getElem?_map, List.getElem?_map]
    by_cases ha : a < w.n
    · rw [hrow a ha, List.getElem?_range ha]
      show some ((maxI (vals (R.getD a []))).getD 0) = some (cnt w s k a)
      rw [most_best hw hs ha (hR.row a ha)]
      rfl
    · rw [List.getElem?_eq_none (by rw [hR.len]; omega), List.getElem?_eq_none (by simp; omega)]
      rfl
theorem changes_in_eq {w : Web} (hw : w.Ok) {s : List Int} (hs : StOk w.n s) {many : Nat} (hM : many < 2 ^ 500) : f_changes_in [.fz (webD w), .fz (stD s), .fz (natD many)] = .ok (stD (cntL w s many)) [] := by
  have hm := hw.most
  refine W.fn0 rfl ?_; unfold m_changes_in; simp only [Nat.reduceSub, List.replicate_succ, List.replicate_zero, List.cons_append, List.nil_append]
  have c1 : mComp (iRng fR1 [.ex (mOp2 dAt (.sl 0) (.ex (mLit (.int 0))))]) (tmName 5) bYes (mCall f_first_row [.v (mOp2 dAt (.sl 0) (.ex (mLit (.int 0)))), .v (mVar 5)]) [5] [.fz (webD w), .fz (stD s), .fz (natD many), .no, .no, .no, .no] = .ok (tabD (rows0 w.n)) [.fz (webD w), .fz (stD s), .fz (natD many), .no, .no, .no, .no] := by
    have := comp_all (f := natD) (i := 5) (it := iRng fR1 [.ex (mOp2 dAt (.sl 0) (.ex (mLit (.int 0))))]) (elt := mCall f_first_row [.v (mOp2 dAt (.sl 0) (.ex (mLit (.int 0)))), .v (mVar 5)]) (fun a => fD (row0 w.n a)) (ρ := [.fz (webD w), .fz (stD s), .fz (natD many), .no, .no, .no, .no]) (ρ1 := [.fz (webD w), .fz (stD s), .fz (natD many), .no, .no, .no, .no]) (ds := List.range w.n) (by array_get_dec) (.no rfl) (fun a _ => by
      have h1 := first_row_eq (n := w.n) (a := a) (by omega)
      simp only [List.set_cons_zero, List.set_cons_succ]
      array_get_dec) (by simp; omega)
    rw [this]
    unfold tabD rows0
    rw [List.map_map]
    rfl
  refine .seq (.parT (ds := [tabD (rows0 w.n), tabD (tbl w s)]) (ρ1 := [.fz (webD w), .fz (stD s), .fz (natD many), .no, .no, .no, .no]) (ρ2 := [.fz (webD w), .fz (stD s), .fz (natD many), .fz (tabD (rows0 w.n)), .fz (tabD (tbl w s)), .no, .no]) ?_ rfl ?_)
  · simp only [List.map_cons, List.map_nil]
    array_get_dec
  refine .seq (W.whileM (fun m ρ => ∃ q j k R T x3, q < 2 ^ m ∧ TabB w s j R ∧ TabB w s k T ∧ j + k * q = many ∧ (x3 = .fz (tabD R) ∨ x3 = .own (tabD R)) ∧ ρ = [.fz (webD w), .fz (stD s), .fz (natD q), x3, .fz (tabD T), .no, .no]) ?_ 1000000 500 _ (by omega) ⟨many, 0, 1, _, _, _, hM, rows0_best w s, tbl_best hw, by omega, .inl rfl, rfl⟩)
  rintro m _ ⟨q, j, k, R, T, x3, hq, hR, hT, hjk, hx3, rfl⟩
  refine ⟨decide (0 < q), [.fz (webD w), .fz (stD s), .fz (natD q), x3, .fz (tabD T), .no, .no], by array_get_dec, fun hx => ?_, fun hx => ?_⟩
  · have hq0 : 0 < q := of_decide_eq_true hx
    have hT2 : f_twice [.fz (tabD T)] = .ok (tabD (twiceT T)) [] := twice_eq (by omega) hT.sq
    obtain ⟨m', rfl⟩ : ∃ m', m = m' + 1 := ⟨m - 1, by
      cases m with
      | zero => simp at hq; omega
      | succ m => omega⟩
    have hq2 : q / 2 < 2 ^ m' := by rw [Nat.pow_succ] at hq; omega
    have hend : ∀ (R' : List (List (Option Int))) (j' : Nat) (x3' : Sl), (x3' = .fz (tabD R') ∨ x3' = .own (tabD R')) → TabB w s j' R' → j' + k * (2 * (q / 2)) = many → W (sSeq (sSet 2 (mOp2 dFdiv (.sl 2) (.ex (mLit (.int 2)))))
        (sIf (mB (mOp2 dGt (.sl 2) (.ex (mLit (.int 0))))) (sSet 4 (mCall f_twice [.v (mVar 4)])) (sNil))) [.fz (webD w), .fz (stD s), .fz (natD q), x3', .fz (tabD T), .no, .no]
        (fun ρ' => ∃ m'', m'' < m' + 1 ∧ ∃ q j k R T x3, q < 2 ^ m'' ∧ TabB w s j R ∧ TabB w s k T ∧ j + k * q = many ∧ (x3 = .fz (tabD R) ∨ x3 = .own (tabD R)) ∧ ρ' = [.fz (webD w), .fz (stD s), .fz (natD q), x3, .fz (tabD T), .no, .no]) fun d' _ => d' = stD (cntL w s many) := fun R' j' x3' hx3' hR' hj' => by
      sizeOf_list_dec
      by_cases h0 : 0 < q / 2
      · refine .ifT (ρ1 := [.fz (webD w), .fz (stD s), .fz (natD (q / 2)), x3', .fz (tabD T), .no, .no]) ?_ ?_
        · rw [← decide_eq_true h0]
          array_get_dec
        refine .set' (by array_get_dec) ?_
        simp only [List.set_cons_zero, List.set_cons_succ]
        refine ⟨m', by omega, q / 2, j', k + k, R', twiceT T, x3', hq2, hR', twice_best hw hT, ?_, hx3', rfl⟩
        rw [← hj', Nat.add_mul, ← Nat.mul_assoc, Nat.mul_comm k 2, Nat.mul_assoc, Nat.two_mul]
      · refine .ifF (ρ1 := [.fz (webD w), .fz (stD s), .fz (natD (q / 2)), x3', .fz (tabD T), .no, .no]) ?_ (.nil ?_)
        · rw [← decide_eq_false h0]
          array_get_dec
        refine ⟨m', by omega, q / 2, j', k, R', T, x3', hq2, hR', hT, ?_, hx3', rfl⟩
        rw [← hj', show q / 2 = 0 by omega]
    have hqq := Nat.div_add_mod q 2
    by_cases ho : q % 2 = 1
    · refine .seq (.ifT (ρ1 := [.fz (webD w), .fz (stD s), .fz (natD q), x3, .fz (tabD T), .no, .no]) ?_ ?_)
      · rw [← decide_eq_true ho]
        array_get_dec
      have hc : mComp (iSeq (mVar 3)) (tmName 6) bYes (mCall f_row_behind [.v (mVar 6), .v (mVar 4)]) [6] [.fz (webD w), .fz (stD s), .fz (natD q), x3, .fz (tabD T), .no, .no] = .ok (tabD (R.map fun row => rowX row T)) [.fz (webD w), .fz (stD s), .fz (natD q), .fz (tabD R), .fz (tabD T), .no, .no] := by
        rcases hx3 with rfl | rfl
        · exact rows_eq (by omega) hR.sq hT.sq (ρ1 := [.fz (webD w), .fz (stD s), .fz (natD q), .fz (tabD R), .fz (tabD T), .no, .no]) rfl (.no rfl) (by simp) rfl (by omega)
        · exact rows_eq (by omega) hR.sq hT.sq (ρ1 := [.fz (webD w), .fz (stD s), .fz (natD q), .fz (tabD R), .fz (tabD T), .no, .no]) rfl (.no rfl) (by simp) rfl (by omega)
      refine .own hc ?_
      simp only [List.set_cons_zero, List.set_cons_succ]
      refine hend _ (j + k) _ (.inr rfl) (rows_best hw hR hT) ?_
      have h2 : k * q = k * (2 * (q / 2)) + k := by
        have : q = 2 * (q / 2) + 1 := by omega
        conv => lhs; rw [this]
        rw [Nat.mul_add, Nat.mul_one]
      rw [← hjk, h2, Nat.add_assoc, Nat.add_comm k]
    · refine .seq (.ifF (ρ1 := [.fz (webD w), .fz (stD s), .fz (natD q), x3, .fz (tabD T), .no, .no]) ?_ (.nil ?_))
      · rw [← decide_eq_false ho]
        array_get_dec
      refine hend R j x3 hx3 hR ?_
      rw [← hjk]
      exact congrArg (fun x => j + k * x) (by omega)
  · have hq0 : q = 0 := by have := of_decide_eq_false hx; omega
    subst hq0
    rw [Nat.mul_zero, Nat.add_zero] at hjk
    subst hjk
    obtain ⟨h1, h2⟩ := rows_most hw hs hR
    have hc : mComp (iSeq (mVar 3)) (tmName 6) bYes (mCall f_most_of [.v (mVar 6)]) [6] [.fz (webD w), .fz (stD s), .fz (natD 0), x3, .fz (tabD T), .no, .no] = .ok (.list (R.map fun row => .int ((maxI (vals row)).getD 0))) [.fz (webD w), .fz (stD s), .fz (natD 0), .fz (tabD R), .fz (tabD T), .no, .no] := by
      have hit : iSeq (mVar 3) [.fz (webD w), .fz (stD s), .fz (natD 0), x3, .fz (tabD T), .no, .no] = .ok (R.map fD) [.fz (webD w), .fz (stD s), .fz (natD 0), .fz (tabD R), .fz (tabD T), .no, .no] := by
        rcases hx3 with rfl | rfl <;> rfl
      refine comp_all (f := fD) (fun row => .int ((maxI (vals row)).getD 0)) hit (.no rfl) (fun row hr => ?_) (by rw [hR.len]; omega)
      obtain ⟨m, em⟩ := h1 row hr
      have h3 := most_of_eq (by rw [sq_row hR.sq hr]; omega) em
      simp only [List.set_cons_zero, List.set_cons_succ]
      rw [em]
      show mCall f_most_of [.v (mVar 6)] _ = .ok (.int m) _
      array_get_dec
    have hT' : dTuple [.list (R.map fun row => PyData.int ((maxI (vals row)).getD 0))] = some (stD (cntL w s j)) := by
      show some (PyData.tuple _) = _
      rw [← h2]
      unfold stD
      rw [List.map_map]
      rfl
    sizeOf_list_dec
    rfl

set_option autoImplicit false
def TT : Nat → Nat
  | 0 => 1
  | m + 1 => 1 + (m + 1) * TT m

set_option autoImplicit false
theorem nodup_le : ∀ (n : Nat) (l : List Nat), l.Nodup → (∀ x ∈ l, x < n) → l.length ≤ n
  | 0, l, _, h => by
    cases l with
    | nil => exact Nat.le_refl _
    | cons a l => exact absurd (h a List.mem_cons_self) (Nat.not_lt_zero _)
  | n + 1, l, hn, h => by
    have h1 := nodup_le n (l.erase n) (hn.erase n) fun x hx => by
      have h2 := (List.Nodup.mem_erase_iff hn).mp hx
      have := h x h2.2
      have := h2.1
      omega
    by_cases hm : n ∈ l
    · rw [List.length_erase_of_mem hm] at h1
      omega
    · rw [List.erase_of_not_mem hm] at h1
      omega
theorem in_tup (l : List Nat) (v : Nat) : dIn (natD v) (tupN l) = some (.bool (decide (v ∈ l))) := by
  show (dHas (natD v) (.tuple (l.map natD))).map PyData.bool = _
  rw [has_natT]
  rfl
local macro_rules | `(tactic| decreasing_trivial_pre_omega) => `(tactic| first
  | with_reducible assumption
  | ((with_reducible apply in_tup) <;> first | assumption | omega | (simp; done)))

set_option autoImplicit false

set_option autoImplicit false
local macro_rules | `(tactic| decreasing_trivial_pre_omega) => `(tactic| first
  | with_reducible assumption)
theorem ne_nat0 (a : Nat) : dNe (natD a) (.int 0) = some (.bool (!decide (a = 0))) := ne_nat a 0
local macro_rules | `(tactic| decreasing_trivial_pre_omega) => `(tactic| first
  | with_reducible assumption
  | ((with_reducible apply ne_nat0) <;> first | assumption | omega | (simp; done)))

set_option autoImplicit false
local macro_rules | `(tactic| decreasing_trivial_pre_omega) => `(tactic| first
  | with_reducible assumption)

set_option autoImplicit false
section
variable {w : Web} {s : List Int}
end
local macro_rules | `(tactic| decreasing_trivial_pre_omega) => `(tactic| first
  | with_reducible assumption)

set_option autoImplicit false
section
variable {w : Web} {s : List Int}
theorem sumF_mod (s : List Int) : ∀ (X : List Nat) (a : Nat), (sumF s a X - (mood s (endF a X) - mood s a)) % 3 = 0
  | [], a => by show ((0 : Int) - (mood s a - mood s a)) % 3 = 0; omega
  | b :: X, a => by
    have h1 := sumF_mod s X b
    have h2 : stp s a b = (mood s b - mood s a + 1) % 3 - 1 := rfl
    show (stp s a b + sumF s b X - (mood s (endF b X) - mood s a)) % 3 = 0
    omega
theorem rsum_mod (s : List Int) (a : Nat) (X : List Nat) : rsumF s a X % 3 = 0 := by
  have h := sumF_mod s (X ++ [a]) a
  rw [endF_append] at h
  have h2 : endF (endF a X) [a] = a := rfl
  rw [h2] at h
  unfold rsumF
  omega
theorem Reach.path {v a : Nat} (h : Reach w v a) : ∃ P, (v :: P).Nodup ∧ PathF w v P ∧ endF v P = a := by
  induction h with
  | here => exact ⟨[], by simp, trivial, rfl⟩
  | @on j k _ e ih =>
    obtain ⟨P, h1, h2, h3⟩ := ih
    by_cases hk : k ∈ v :: P
    · rcases List.mem_cons.mp hk with rfl | hk
      · exact ⟨[], by simp, trivial, rfl⟩
      · obtain ⟨X, Y, rfl⟩ := List.append_of_mem hk
        refine ⟨X ++ [k], ?_, ?_, by rw [endF_append]; rfl⟩
        · refine List.Nodup.sublist ?_ h1
          exact List.Sublist.cons_cons v (List.Sublist.append (List.Sublist.refl _) (List.Sublist.cons_cons k (List.nil_sublist _)))
        · have := PathF.append.mp h2
          exact PathF.append.mpr ⟨this.1, this.2.1, trivial⟩
    · refine ⟨P ++ [k], ?_, PathF.append.mpr ⟨h2, by rw [h3]; exact ⟨e, trivial⟩⟩, by rw [endF_append]; rfl⟩
      rw [← List.cons_append]
      refine List.nodup_append.mpr ⟨h1, by simp, fun x hx y hy => ?_⟩
      cases List.mem_singleton.mp hy
      exact fun z => hk (z ▸ hx)
theorem path_len (hw : w.Ok) {v : Nat} {P : List Nat} (hv : v < w.n) (h1 : (v :: P).Nodup) (h2 : PathF w v P) : P.length ≤ w.n - 1 := by
  have := nodup_le w.n (v :: P) h1 fun x hx => by
    rcases List.mem_cons.mp hx with rfl | hx
    · exact hv
    · exact h2.lt hw hx
  simp only [List.length_cons] at this
  omega
theorem Wk.rounds {a L : Nat} {r : Int} (h : Wk w s a a L r) : ∀ m, Wk w s a a (m * L) (m * r)
  | 0 => by rw [Nat.zero_mul]; simpa using Wk.nil a
  | m + 1 => by
    have := (Wk.rounds h m).append h
    rw [Nat.add_mul, Nat.one_mul, show ((m + 1 : Nat) : Int) * r = m * r + r by rw [Int.natCast_add, Int.add_mul]; simp]
    exact this
end

set_option autoImplicit false
local macro_rules | `(tactic| decreasing_trivial_pre_omega) => `(tactic| first
  | with_reducible assumption
  | ((with_reducible apply changes_in_eq) <;> first | assumption | omega | (simp; done)))
local macro_rules | `(tactic| decreasing_trivial_pre_omega) => `(tactic| first
  | with_reducible assumption)

set_option autoImplicit false
def three (s : List Int) : List (List Int) := [s ++ [0], s ++ [1], s ++ [2]]
def allS : Nat → List (List Int)
  | 0 => [[]]
  | n + 1 => (allS n).flatMap three
theorem three_len (l : List (List Int)) : (l.flatMap three).length = 3 * l.length := by
  induction l with
  | nil => rfl
  | cons a l ih => rw [List.flatMap_cons, List.length_append, ih]; simp [three]; omega
theorem allS_len : ∀ n, (allS n).length = 3 ^ n
  | 0 => rfl
  | n + 1 => by show ((allS n).flatMap three).length = _; rw [three_len, allS_len n, Nat.pow_succ, Nat.mul_comm]
theorem allS_big {n : Nat} (h : n ≤ 8) : (allS n).length ≤ 6561 := by
  rw [allS_len]
  exact Nat.pow_le_pow_right (n := 3) (by omega) h
theorem StOk.nil : StOk 0 [] := ⟨rfl, by simp⟩
theorem StOk.snoc {n : Nat} {s : List Int} (h : StOk n s) {m : Int} (h0 : 0 ≤ m) (h1 : m < 3) : StOk (n + 1) (s ++ [m]) := ⟨by simp [h.len], fun x hx => by
  rcases List.mem_append.mp hx with z | z
  · exact h.three x z
  · cases List.mem_singleton.mp z; exact ⟨h0, h1⟩⟩
theorem mem_three {s t : List Int} : t ∈ three s ↔ ∃ m : Int, 0 ≤ m ∧ m < 3 ∧ t = s ++ [m] := by
  unfold three
  constructor
  · intro h
    rcases List.mem_cons.mp h with h | h
    · exact ⟨0, by omega, by omega, h⟩
    rcases List.mem_cons.mp h with h | h
    · exact ⟨1, by omega, by omega, h⟩
    exact ⟨2, by omega, by omega, List.mem_singleton.mp h⟩
  · rintro ⟨m, h0, h1, rfl⟩
    obtain rfl | rfl | rfl : m = 0 ∨ m = 1 ∨ m = 2 := by omega
    · simp
    · simp
    · simp
theorem mem_allS : ∀ {n : Nat} {s : List Int}, s ∈ allS n ↔ StOk n s
  | 0, s => by
    show s ∈ [[]] ↔ _
    rw [List.mem_singleton]
    constructor
    · rintro rfl; exact .nil
    · intro h; exact List.length_eq_zero_iff.mp h.len
  | n + 1, s => by
    show s ∈ (allS n).flatMap three ↔ _
    rw [List.mem_flatMap]
    constructor
    · rintro ⟨t, ht, hs⟩
      obtain ⟨m, h0, h1, rfl⟩ := mem_three.mp hs
      exact (mem_allS.mp ht).snoc h0 h1
    · intro h
      have hne : s ≠ [] := by intro z; have := h.len; rw [z] at this; cases this
      refine ⟨s.dropLast, mem_allS.mpr ⟨by rw [List.length_dropLast, h.len]; rfl, fun x hx => h.three x (List.dropLast_subset s hx)⟩, mem_three.mpr ⟨s.getLast hne, (h.three _ (List.getLast_mem hne)).1, (h.three _ (List.getLast_mem hne)).2, (List.dropLast_concat_getLast hne).symm⟩⟩
theorem mood_eq {s : List Int} {i : Nat} (h : i < s.length) : mood s i = s[i] := by unfold mood; rw [List.getD_eq_getElem?_getD, List.getElem?_eq_getElem h]; rfl
theorem add_one {n : Nat} {s : List Int} (hn : s.length ≤ 1000) (m : Int) : dAdd (stD s) (.tuple [.int m]) = some (stD (s ++ [m])) := by
  unfold dAdd stD
  simp only [List.length_map, List.length_cons, List.length_nil]
  rw [if_pos (by unfold sizeLine; omega)]
  simp
local macro_rules | `(tactic| decreasing_trivial_pre_omega) => `(tactic| first
  | with_reducible assumption)
theorem all_len {n : Nat} {s : List Int} (h : s ∈ allS n) : s.length = n := (mem_allS.mp h).len
theorem all_states_eq {n : Nat} (h : n ≤ 8) : f_all_states [.fz (natD n)] = .ok (.list ((allS n).map stD)) [] := by
  refine W.fn0 rfl ?_; unfold m_all_states; simp only [Nat.reduceSub, List.replicate_succ, List.replicate_zero, List.cons_append, List.nil_append]
  sizeOf_list_dec
  have hr : iRng fR1 [.sl 0] [.fz (natD n), .fz (.list [.tuple []]), .no, .no, .no, .no] = .ok ((List.range n).map natD) [.fz (natD n), .fz (.list [.tuple []]), .no, .no, .no, .no] := by array_get_dec
  refine .seq (W.forA (f := natD) (l := List.range n) (fun k ρ => ∃ x2 x3 x4, ρ = [.fz (natD n), .fz (.list ((allS k).map stD)), x2, x3, x4, .no]) hr (by exact ⟨.no, .no, .no, rfl⟩) ?_ ?_)
  · rintro i k _ e ⟨x2, x3, x4, rfl⟩
    have hi : i < n := by have := (List.getElem?_eq_some_iff.mp e).1; rw [List.length_range] at this; exact this
    rw [List.set_cons_succ, List.set_cons_succ, List.set_cons_zero]
    sizeOf_list_dec
    refine .seq (W.forA (f := stD) (l := allS i) (fun j ρ => ∃ x4, ρ = [.fz (natD n), .fz (.list ((allS i).map stD)), .fz (natD k), .own (.list ((((allS i).take j).flatMap three).map stD)), x4, .no]) (by array_get_dec) (by exact ⟨x4, rfl⟩) ?_ ?_)
    · rintro j s _ e2 ⟨x4, rfl⟩
      have hs := all_len (List.mem_of_getElem? e2)
      have hl := allS_big (n := i) (by omega)
      have htk : ((allS i).take (j + 1)) = (allS i).take j ++ [s] := by rw [List.take_add_one, e2]; rfl
      simp only [List.set_cons_succ, List.set_cons_zero]
      have hc : mComp (iRng fR1 [.ex (mLit (.int 3))]) (tmName 5) (bYes) (mOp2 dAdd (.sl 4) (.ex (mTup [mVar 5]))) [5] [.fz (natD n), .fz (.list ((allS i).map stD)), .fz (natD k), .own (.list ((((allS i).take j).flatMap three).map stD)), .fz (stD s), .no] = .ok (.list ((three s).map stD)) [.fz (natD n), .fz (.list ((allS i).map stD)), .fz (natD k), .own (.list ((((allS i).take j).flatMap three).map stD)), .fz (stD s), .no] := by
        have := comp_all (f := natD) (i := 5) (it := iRng fR1 [.ex (mLit (.int 3))]) (elt := mOp2 dAdd (.sl 4) (.ex (mTup [mVar 5]))) (ds := List.range 3) (fun m => stD (s ++ [(m : Int)])) (ρ := [.fz (natD n), .fz (.list ((allS i).map stD)), .fz (natD k), .own (.list ((((allS i).take j).flatMap three).map stD)), .fz (stD s), .no]) (ρ1 := [.fz (natD n), .fz (.list ((allS i).map stD)), .fz (natD k), .own (.list ((((allS i).take j).flatMap three).map stD)), .fz (stD s), .no]) (by exact rng_nat (n := 3) (by array_get_dec) rfl (by omega)) (.no rfl) (fun m hm => by
          simp only [List.set_cons_succ, List.set_cons_zero]
          have := add_one (n := 0) (s := s) (by omega) (m : Int)
          exact op2_ok (d2 := .tuple [.int m]) (by array_get_dec) (by array_get_dec) rfl rfl this) (by simp)
        exact this
      refine W.ext rfl hc rfl rfl ?_ ?_
      · rw [List.length_map, List.length_map]
        have : (((allS i).take j).flatMap three).length = 3 * ((allS i).take j).length := three_len _
        rw [this, List.length_take]
        show _ + 3 ≤ _
        omega
      · exact ⟨.fz (stD s), by simp only [List.set_cons_succ, List.set_cons_zero]; rw [htk, List.flatMap_append, List.map_append]; simp⟩
    · rintro ρ ⟨x4, rfl⟩
      rw [List.take_length]
      refine W.set' (by array_get_dec) ?_
      exact ⟨_, _, _, rfl⟩
  · rintro ρ ⟨x2, x3, x4, rfl⟩
    rw [List.length_range]
    exact .ret (by array_get_dec) rfl

set_option autoImplicit false
def Mo (l : List Int) : Prop := ∀ x ∈ l, 0 ≤ x ∧ x < 3
def txt (l : List Int) : Str := ⟨(l.map fun m => 48 + m.toNat).toArray⟩
theorem txt_tl (l : List Int) : (txt l).cps.toList = l.map fun m => 48 + m.toNat := by simp [txt]
theorem txt_len (l : List Int) : (txt l).length = l.length := by show (txt l).cps.size = _; simp [txt]
theorem str_eq {a b : Str} (h : a.cps.toList = b.cps.toList) : a = b := by
  cases a; cases b
  simp only [Array.toList_inj] at h
  rw [h]
theorem txt_inj {a b : List Int} (ha : Mo a) (hb : Mo b) (h : txt a = txt b) : a = b := by
  have h1 : a.map (fun m => 48 + m.toNat) = b.map fun m => 48 + m.toNat := by rw [← txt_tl, ← txt_tl, h]
  clear h
  induction a generalizing b with
  | nil => cases b with
    | nil => rfl
    | cons y b => cases h1
  | cons x a ih => cases b with
    | nil => cases h1
    | cons y b =>
      rw [List.map_cons, List.map_cons] at h1
      obtain ⟨e1, e2⟩ := List.cons.inj h1
      have hx := ha x List.mem_cons_self
      have hy := hb y List.mem_cons_self
      have : x = y := by omega
      rw [this, ih (fun z hz => ha z (List.mem_cons_of_mem _ hz)) (fun z hz => hb z (List.mem_cons_of_mem _ hz)) e2]
theorem txt_ok {l : List Int} (h : Mo l) : PyData.strOk (txt l) = true := by
  show (txt l).cps.all (· < 0x110000) = true
  rw [← Array.all_toList, txt_tl, List.all_eq_true]
  intro x hx
  obtain ⟨m, hm, rfl⟩ := List.mem_map.mp hx
  have := h m hm
  exact decide_eq_true (by omega)
theorem str_mood {m : Int} (h0 : 0 ≤ m) (h1 : m < 3) : dStrI [.int m] = some (.str (txt [m])) := by
  have h : m.natAbs.log2 < 1920 ∧ Str.ofString (toString m) = txt [m] := by
    obtain rfl | rfl | rfl : m = 0 ∨ m = 1 ∨ m = 2 := by omega
    · exact ⟨by decide +kernel, by decide +kernel⟩
    · exact ⟨by decide +kernel, by decide +kernel⟩
    · exact ⟨by decide +kernel, by decide +kernel⟩
  show (if m.natAbs.log2 < 1920 then some (PyData.str (toString m)) else none) = _
  rw [if_pos h.1, h.2]
theorem join_nil (ps : List Str) : (Str.join (⟨#[]⟩ : Str) ps).cps.toList = ps.flatMap fun p => p.cps.toList := by
  induction ps with
  | nil => rfl
  | cons p ps ih =>
    cases ps with
    | nil => simp [Str.join]
    | cons q r =>
      show (p ++ (⟨#[]⟩ : Str) ++ Str.join (⟨#[]⟩ : Str) (q :: r)).cps.toList = _
      rw [List.flatMap_cons, ← ih]
      show ((p.cps ++ #[]) ++ (Str.join (⟨#[]⟩ : Str) (q :: r)).cps).toList = _
      simp
theorem join_txt (l : List Int) : Txt.join "" (l.map fun m => txt [m]) = txt l := by
  refine str_eq ?_
  rw [TL.join_eq, txt_tl]
  have := join_nil (l.map fun m => txt [m])
  refine (show _ = _ from this).trans ?_
  induction l with
  | nil => rfl
  | cons a l ih => rw [List.map_cons, List.flatMap_cons, ih (join_nil _), List.map_cons]; rfl
theorem strL_map (l : List Str) : dStrL (l.map PyData.str) = some l := by
  induction l with
  | nil => rfl
  | cons a l ih => rw [List.map_cons]; simp only [dStrL, ih, Option.map_some]
theorem mJoin_txt {m : ME} {ρ ρ' : Env} {l : List Int} (h : m ρ = .ok (.list (l.map fun x => .str (txt [x]))) ρ') (hl : l.length ≤ 100000) : mJoin "" m ρ = .ok (.str (txt l)) ρ' := by
  unfold mJoin
  rw [h]
  simp only [Rs.then]
  have e : l.map (fun x => PyData.str (txt [x])) = (l.map fun x => txt [x]).map PyData.str := by rw [List.map_map]; rfl
  rw [e, strL_map]
  simp only [join_txt]
  rw [if_pos]
  have h1 : ((l.map fun x => txt [x]).map (·.length)).sum = l.length := by
    clear h hl e
    induction l with
    | nil => rfl
    | cons a l ih => rw [List.map_cons, List.map_cons, List.sum_cons, ih, txt_len]; simp; omega
  rw [h1, List.length_map]
  have : (("" : Str).length) = 0 := rfl
  rw [this]
  omega
theorem len_txt {l : List Int} (h : l.length ≤ 100000) : dLen [.str (txt l)] = some (natD l.length) := by
  show (if (txt l).length ≤ sizeLine then some (PyData.int (txt l).length) else none) = _
  rw [txt_len, if_pos (by unfold sizeLine; omega)]
  rfl
theorem at_txt {l : List Int} (h : l.length ≤ 100000) {k : Nat} (hk : k < l.length) : dAt (.str (txt l)) (natD k) = some (.str (txt [mood l k])) := by
  show (if (txt l).length ≤ sizeLine then (atI (txt l).cps.toList (k : Int)).map (fun c => PyData.str ⟨#[c]⟩) else none) = _
  rw [txt_len, if_pos (by unfold sizeLine; omega), txt_tl]
  have : atI (l.map fun m => 48 + m.toNat) (k : Int) = some (48 + (mood l k).toNat) := by
    have := atI_nat (l.map fun m => 48 + m.toNat) k
    rw [this, List.getElem?_map, List.getElem?_eq_getElem hk, mood_eq hk]
    rfl
  rw [this]
  rfl
theorem okStr1 {x : Str} (h : PyData.strOk x = true) : okD (.str x) = true := by
  unfold okD
  simp only [SeqAt.shaped, PyData.canLay0, PyData.depth, h, Bool.true_and]
  rfl
theorem ne_txt {a b : List Int} (ha : Mo a) (hb : Mo b) : dNe (.str (txt a)) (.str (txt b)) = some (.bool (!decide (a = b))) := by
  have : okD (.str (txt a)) = true ∧ okD (.str (txt b)) = true := ⟨okStr1 (txt_ok ha), okStr1 (txt_ok hb)⟩
  unfold dNe
  rw [this.1, this.2, eqv_str]
  by_cases h : a = b
  · subst h; simp
  · have : txt a ≠ txt b := fun z => h (txt_inj ha hb z)
    simp [h, this]

set_option autoImplicit false
theorem all_map {α : Type} (q : α → Bool) (l : List α) : dAll [.list (l.map fun d => .bool (q d))] = some (.bool (l.all q)) := by
  show (dBls _).map _ = _
  rw [bls_map]
  show some (PyData.bool ((l.map q).all id)) = _
  rw [List.all_map]
  rfl
theorem iSeqS_str {m : ME} {ρ ρ1 : Env} {x : Str} (h : m ρ = .ok (.str x) ρ1) : iSeqS m ρ = .ok (chars x) ρ1 := by
  unfold iSeqS
  rw [h]
  rfl
def tell (w : Web) (s : List Int) (v T : Nat) : List Int := (List.range (T + 1)).map fun k => mood (runL w s k) v
theorem tell_len (w : Web) (s : List Int) (v T : Nat) : (tell w s v T).length = T + 1 := by simp [tell]
theorem tell_mo {w : Web} {s : List Int} (hs : StOk w.n s) (v T : Nat) : Mo (tell w s v T) := fun x hx => by
  obtain ⟨k, _, rfl⟩ := List.mem_map.mp hx
  exact mood_three (run_ok hs k) v
def toldB (w : Web) (s : List Int) (v : Nat) (l : List Int) : Bool := decide (∀ k < l.length, mood (runL w s k) v = mood l k)
local macro_rules | `(tactic| decreasing_trivial_pre_omega) => `(tactic| first
  | with_reducible assumption
  | ((with_reducible apply all_states_eq) <;> first | assumption | omega | (simp; done)))
theorem str_at {w : Web} {s : List Int} (hs : StOk w.n s) {v : Nat} (hv : v < w.n) : dStrI [.int (mood s v)] = some (.str (txt [mood s v])) := str_mood (mood_three hs v).1 (mood_three hs v).2
theorem story_in_eq {w : Web} (hw : w.Ok) {s : List Int} (hs : StOk w.n s) {v : Nat} (hv : v < w.n) {T : Nat} (hT : T ≤ 1000) : f_story_in [.fz (nearD w), .fz (stD s), .fz (natD v), .fz (natD T)] = .ok (.str (txt (tell w s v T))) [] := by
  refine W.fn0 rfl ?_; unfold m_story_in; simp only [Nat.reduceSub, List.replicate_succ, List.replicate_zero, List.cons_append, List.nil_append]
  refine .ret (mJoin_txt (l := tell w s v T) (ρ' := [.fz (nearD w), .fz (stD s), .fz (natD v), .fz (natD T), .no]) ?_ (by rw [tell_len]; omega)) rfl
  unfold tell
  rw [List.map_map]
  refine comp_all (f := fun k => stD (runL w s k)) (ds := List.range (T + 1)) (fun k => PyData.str (txt [mood (runL w s k) v])) (ρ1 := [.fz (nearD w), .fz (stD s), .fz (natD v), .fz (natD T), .no]) (by array_get_dec) (.no rfl) (fun k _ => ?_) (by simp; omega)
  have hr := run_ok hs k
  have h1 := str_at hr hv
  simp only [List.set_cons_zero, List.set_cons_succ]
  array_get_dec
theorem story_eq {w : Web} (hw : w.Ok) {s : List Int} (hs : StOk w.n s) {v : Nat} (hv : v < w.n) {T : Nat} (hT : T ≤ 300) : f_story [.fz (webD w), .fz (stD s), .fz (natD v), .fz (natD T)] = .ok (.str (txt (tell w s v T))) [] := by
  have h1 : f_need_number [.fz (natD T), .fz (.int 0), .fz (.int 300)] = .ok .none [] := need_number_ok (by omega) (by omega)
  have h2 := story_in_eq hw hs hv (T := T) (by omega)
  refine W.fn0 rfl ?_; unfold m_story; simp only [Nat.reduceSub, List.replicate_succ, List.replicate_zero, List.cons_append, List.nil_append]
  sizeOf_list_dec
  sizeOf_list_dec
  sizeOf_list_dec
  sizeOf_list_dec
  rfl
theorem is_told_eq {w : Web} (hw : w.Ok) {s : List Int} (hs : StOk w.n s) {v : Nat} (hv : v < w.n) {l : List Int} (hm : Mo l) (hl : l.length ≤ 1000) : f_is_told [.fz (nearD w), .fz (stD s), .fz (natD v), .fz (.str (txt l))] = .ok (.bool (toldB w s v l)) [] := by
  have h0 := len_txt (l := l) (by omega)
  refine W.fn0 rfl ?_; unfold m_is_told; simp only [Nat.reduceSub, List.replicate_succ, List.replicate_zero, List.cons_append, List.nil_append]
  refine .seq (W.forA (f := natD) (l := List.range l.length) (ρ0 := [.fz (nearD w), .fz (stD s), .fz (natD v), .fz (.str (txt l)), .no]) (fun k ρ => (∀ j < k, mood (runL w s j) v = mood l j) ∧ ∃ x4, ρ = [.fz (nearD w), .fz (stD (runL w s k)), .fz (natD v), .fz (.str (txt l)), x4]) (by array_get_dec) (by exact ⟨fun j h => absurd h (by omega), .no, rfl⟩) ?_ ?_)
  · rintro i k _ e ⟨hb, x4, rfl⟩
    obtain ⟨hi, e'⟩ := List.getElem?_eq_some_iff.mp e
    rw [List.length_range] at hi
    rw [List.getElem_range] at e'
    subst e'
    have hr := run_ok hs i
    have h1 := str_at hr hv
    have h2 := at_txt (l := l) (by omega) hi
    have h3 := ne_txt (a := [mood (runL w s i) v]) (b := [mood l i]) (fun x hx => by cases List.mem_singleton.mp hx; exact mood_three hr v) (fun x hx => by cases List.mem_singleton.mp hx; rw [mood_eq hi]; exact hm _ (List.getElem_mem hi))
    simp only [List.set_cons_zero, List.set_cons_succ]
    by_cases hc : mood (runL w s i) v = mood l i
    · have h4 : dNe (.str (txt [mood (runL w s i) v])) (.str (txt [mood l i])) = some (.bool false) := by rw [h3, hc]; simp
      sizeOf_list_dec
      sizeOf_list_dec
      exact ⟨fun j hj => by
        rcases Nat.lt_succ_iff_lt_or_eq.mp hj with h | h
        · exact hb j h
        · rw [h]; exact hc, _, rfl⟩
    · have h4 : dNe (.str (txt [mood (runL w s i) v])) (.str (txt [mood l i])) = some (.bool true) := by rw [h3]; simp [hc]
      refine .seq (.ifT (by array_get_dec) (.ret mLit_ok ?_))
      unfold toldB
      rw [decide_eq_false (fun h => hc (h i hi))]
  · rintro _ ⟨hb, x4, rfl⟩
    rw [List.length_range] at hb
    refine .ret mLit_ok ?_
    unfold toldB
    rw [decide_eq_true hb]
def fitL (w : Web) (v : Nat) (l : List Int) : List (List Int) := (allS w.n).filter fun s => toldB w s v l
theorem fits_in_eq {w : Web} (hw : w.Ok) (h8 : w.n ≤ 8) {v : Nat} (hv : v < w.n) {l : List Int} (hm : Mo l) (hl : l.length ≤ 1000) : f_fits_in [.fz (webD w), .fz (natD v), .fz (.str (txt l))] = .ok (.list ((fitL w v l).map stD)) [] := by
  refine W.fn0 rfl ?_; unfold m_fits_in; simp only [Nat.reduceSub, List.replicate_succ, List.replicate_zero, List.cons_append, List.nil_append]
  sizeOf_list_dec
  refine .ret (mComp_of (f := stD) (ds := allS w.n) (ρ1 := [.fz (webD w), .fz (natD v), .fz (.str (txt l)), .fz (nearD w), .no]) (fun s => toldB w s v l) stD (by array_get_dec) (.no rfl) (fun s hs => ?_) (fun s _ _ => ?_) (by have := allS_big h8; omega)) rfl
  · have h1 := is_told_eq hw (mem_allS.mp hs) hv hm hl
    simp only [List.set_cons_zero, List.set_cons_succ]
    array_get_dec
  · simp only [List.set_cons_zero, List.set_cons_succ]
    array_get_dec
theorem need_few_ok {w : Web} (h7 : w.n ≤ 7) : f_need_few [.fz (webD w)] = .ok .none [] := by
  have h1 : dGt (natD w.n) (.int 7) = some (.bool false) := by rw [show dGt (natD w.n) (.int 7) = some (.bool (decide ((7 : Int) < w.n))) from rfl, decide_eq_false (by omega)]
  refine W.fn0 rfl ?_; unfold m_need_few; simp only [Nat.reduceSub, List.replicate_succ, List.replicate_zero, List.cons_append, List.nil_append]
  sizeOf_list_dec
  trivial
theorem need_few_no {w : Web} (h7 : 7 < w.n) : f_need_few [.fz (webD w)] = .ex (exM (.int 7)) := by
  have h1 : dGt (natD w.n) (.int 7) = some (.bool true) := by rw [show dGt (natD w.n) (.int 7) = some (.bool (decide ((7 : Int) < w.n))) from rfl, decide_eq_true (by omega)]
  refine X.fn rfl ?_; unfold m_need_few; simp only [Nat.reduceSub, List.replicate_succ, List.replicate_zero, List.cons_append, List.nil_append]
  sizeOf_list_dec

set_option autoImplicit false
def oneOf (z : Str) (c : Nat) : Bool := decide (c ∈ z.cps.toList)
def okT (z x : Str) : Bool := x.cps.toList.all (oneOf z)
theorem signs_comp {m : ME} {z x : Str} {i : Nat} {ρ : Env} (h : m ρ = .ok (.str x) ρ) (hf : Free ρ i) (hl : x.length ≤ 1000000) : mComp (iSeqS m) (tmName i) (bYes) (mOp2 dIn (.sl i) (.ex (mLit (.str z)))) [i] ρ = .ok (.list (x.cps.toList.map fun c => .bool (oneOf z c))) ρ := by
  have hi : i < ρ.length := by
    obtain ⟨s, hs, _⟩ := hf
    exact (List.getElem?_eq_some_iff.mp hs).1
  refine comp_all (f := fun c : Nat => .str ⟨#[c]⟩) (ds := x.cps.toList) (fun c => .bool (oneOf z c)) (ρ1 := ρ) (iSeqS_str h) hf (fun c _ => ?_) (by rw [Array.length_toList]; exact hl)
  have ha : at_ (ρ.set i (.fz (.str ⟨#[c]⟩))) i = some (.str ⟨#[c]⟩) := by
    unfold at_
    rw [List.getElem?_set_self hi]
    rfl
  exact op2_ok (x1 := none) (x2 := some (.str z)) (d1 := .str ⟨#[c]⟩) (d2 := .str z) (ev_sl ha) (ev_ex mLit_ok) ha rfl rfl
theorem signs_all {m : ME} {z x : Str} {i : Nat} {ρ : Env} (h : m ρ = .ok (.str x) ρ) (hf : Free ρ i) (hl : x.length ≤ 1000000) : mFn dAll [.ex (mComp (iSeqS m) (tmName i) (bYes) (mOp2 dIn (.sl i) (.ex (mLit (.str z)))) [i])] ρ = .ok (.bool (okT z x)) ρ :=
  mFn_ok (evo_cons (ev_ex (signs_comp h hf hl)) evo_nil) rfl (all_map (oneOf z) x.cps.toList)
theorem okT_txt {l : List Int} (hm : Mo l) : okT "012" (txt l) = true := by
  unfold okT
  rw [txt_tl, List.all_eq_true]
  intro c hc
  obtain ⟨m, hmm, rfl⟩ := List.mem_map.mp hc
  have h := hm m hmm
  obtain rfl | rfl | rfl : m = 0 ∨ m = 1 ∨ m = 2 := by omega
  · decide +kernel
  · decide +kernel
  · decide +kernel
theorem len_str {x : Str} (h : x.length ≤ 1000) : dLen [.str x] = some (natD x.length) := by
  show (if x.length ≤ sizeLine then some (PyData.int x.length) else none) = _
  rw [if_pos (by unfold sizeLine; omega)]
  rfl
theorem chain_len {x : Str} {lo hi : Int} {i : Nat} {ρ : Env} (h : at_ ρ i = some (.str x)) (hl : x.length ≤ 1000) : mChain dLe dLe (.ex (mLit (.int lo))) (.ex (mFn dLen [.sl i])) (.ex (mLit (.int hi))) ρ = .ok (.bool (decide (lo ≤ (x.length : Int)) && decide ((x.length : Int) ≤ hi))) ρ := by
  have h3 : mFn dLen [.sl i] ρ = .ok (natD x.length) ρ := mFn_ok (ds := [.str x]) (evo_cons (ev_sl h) evo_nil) (by simp [fino, Opd.fin, h]) (len_str hl)
  have h4 := ev_ex h3
  by_cases hlo : lo ≤ (x.length : Int)
  · rw [decide_eq_true hlo, Bool.true_and]
    exact mChain_ok (d1 := .int lo) (d2 := natD x.length) (d3 := .int hi) (ev_ex mLit_ok) h4 rfl rfl (by show some (PyData.bool (decide (lo ≤ (x.length : Int)))) = _; rw [decide_eq_true hlo]) (ev_ex mLit_ok) rfl rfl rfl
  · rw [decide_eq_false hlo, Bool.false_and]
    have h5 : dLe (.int lo) (natD x.length) = some (.bool false) := by show some (PyData.bool (decide (lo ≤ (x.length : Int)))) = _; rw [decide_eq_false hlo]
    unfold mChain
    rw [ev_ex (mLit_ok (d := .int lo))]
    simp only [Rs.then]
    rw [h4]
    simp only [Rs.then, Opd.fin]
    rw [h5]
local macro_rules | `(tactic| decreasing_trivial_pre_omega) => `(tactic| first
  | with_reducible assumption)
theorem need_told_test {w : Web} {v : Nat} {x : Str} (hl : x.length ≤ 1000) {ρ : Env} (e : ρ = [.fz (webD w), .fz (natD v), .fz (.str x), .no]) : (bOr (bNot (mB (mIsi ["str"] (.sl 2)))) (bOr (bNot (mB (mChain dLe dLe (.ex (mLit (.int 1))) (.ex (mFn dLen [.sl 2])) (.ex (mLit (.int 60)))))) (bNot (mB (mFn dAll [.ex (mComp (iSeqS (mVar 2)) (tmName 3) (bYes) (mOp2 dIn (.sl 3) (.ex (mLit (.str "012")))) [3])]))))) ρ = .ok (!(decide ((1 : Int) ≤ (x.length : Int)) && decide ((x.length : Int) ≤ 60)) || !okT "012" x) ρ := by
  subst e
  have h1 := chain_len (x := x) (lo := 1) (hi := 60) (i := 2) (ρ := [.fz (webD w), .fz (natD v), .fz (.str x), .no]) rfl hl
  have h2 := signs_all (m := mVar 2) (z := "012") (x := x) (i := 3) (ρ := [.fz (webD w), .fz (natD v), .fz (.str x), .no]) rfl (.no rfl) (by omega)
  refine bOr_F (by array_get_dec) ?_
  cases hb : (decide ((1 : Int) ≤ (x.length : Int)) && decide ((x.length : Int) ≤ 60)) with
  | true =>
    rw [hb] at h1
    refine bOr_F (bNot_F (mB_ok h1)) ?_
    rw [Bool.not_true, Bool.false_or]
    exact bNot_ok (mB_ok h2)
  | false =>
    rw [hb] at h1
    exact bOr_T (bNot_T (mB_ok h1))
theorem told_fine {l : List Int} (hm : Mo l) (h0 : l ≠ []) (h60 : l.length ≤ 60) : (!(decide ((1 : Int) ≤ ((txt l).length : Int)) && decide (((txt l).length : Int) ≤ 60)) || !okT "012" (txt l)) = false := by
  have := List.length_pos_iff.mpr h0
  rw [okT_txt hm, txt_len, decide_eq_true (by omega), decide_eq_true (by omega)]
  rfl
theorem need_told_many {w : Web} (hw : w.Ok) (h7 : 7 < w.n) {v : Nat} (hv : v < w.n) {l : List Int} (hm : Mo l) (h0 : l ≠ []) (h60 : l.length ≤ 60) : f_need_told [.fz (webD w), .fz (natD v), .fz (.str (txt l))] = .ex (exM (.int 7)) := by
  have h1 := need_few_no h7
  refine X.fn rfl ?_; unfold m_need_told; simp only [Nat.reduceSub, List.replicate_succ, List.replicate_zero, List.cons_append, List.nil_append]
  sizeOf_list_dec
  sizeOf_list_dec
  refine .seq (.ifF ((need_told_test (by rw [txt_len]; omega) rfl).trans (by rw [told_fine hm h0 h60])) (.nil ?_))
  sizeOf_list_dec
theorem need_told_ok {w : Web} (hw : w.Ok) (h7 : w.n ≤ 7) {v : Nat} (hv : v < w.n) {l : List Int} (hm : Mo l) (h0 : l ≠ []) (h60 : l.length ≤ 60) : f_need_told [.fz (webD w), .fz (natD v), .fz (.str (txt l))] = .ok .none [] := by
  have h1 := need_few_ok h7
  refine W.fn0 rfl ?_; unfold m_need_told; simp only [Nat.reduceSub, List.replicate_succ, List.replicate_zero, List.cons_append, List.nil_append]
  sizeOf_list_dec
  sizeOf_list_dec
  refine .seq (.ifF ((need_told_test (by rw [txt_len]; omega) rfl).trans (by rw [told_fine hm h0 h60])) (.nil ?_))
  sizeOf_list_dec
  trivial
theorem fits_eq {w : Web} (hw : w.Ok) (h7 : w.n ≤ 7) {v : Nat} (hv : v < w.n) {l : List Int} (hm : Mo l) (h0 : l ≠ []) (h60 : l.length ≤ 60) : f_fits [.fz (webD w), .fz (natD v), .fz (.str (txt l))] = .ok (.tuple ((fitL w v l).map stD)) [] := by
  have h1 := need_told_ok hw h7 hv hm h0 h60
  have h2 := fits_in_eq hw (by omega) hv hm (by omega)
  refine W.fn0 rfl ?_; unfold m_fits; simp only [Nat.reduceSub, List.replicate_succ, List.replicate_zero, List.cons_append, List.nil_append]
  sizeOf_list_dec
  sizeOf_list_dec
  rfl
def sureD (n : Nat) : List (List Int) → D
  | [] => .none
  | s :: r => .tuple ((List.range n).map fun k => if (s :: r).all (fun t => decide (mood t k = mood s k)) = true then .int (mood s k) else .none)
theorem fitL_ok {w : Web} {v : Nat} {l : List Int} {s : List Int} (h : s ∈ fitL w v l) : StOk w.n s := mem_allS.mp (List.mem_filter.mp h).1
theorem fitL_len {w : Web} (h7 : w.n ≤ 8) (v : Nat) (l : List Int) : (fitL w v l).length ≤ 6561 := Nat.le_trans (List.length_filter_le _ _) (allS_big h7)
theorem sure_eq {w : Web} (hw : w.Ok) (h7 : w.n ≤ 7) {v : Nat} (hv : v < w.n) {l : List Int} (hm : Mo l) (h0 : l ≠ []) (h60 : l.length ≤ 60) : f_sure [.fz (webD w), .fz (natD v), .fz (.str (txt l))] = .ok (sureD w.n (fitL w v l)) [] := by
  have h1 := need_told_ok hw h7 hv hm h0 h60
  have h2 := fits_in_eq hw (by omega) hv hm (by omega)
  have hok : ∀ s ∈ fitL w v l, StOk w.n s := fun s h => fitL_ok h
  have hlen := fitL_len (w := w) (by omega) v l
  refine W.fn0 rfl ?_; unfold m_sure; simp only [Nat.reduceSub, List.replicate_succ, List.replicate_zero, List.cons_append, List.nil_append]
  sizeOf_list_dec
  sizeOf_list_dec
  cases e : fitL w v l with
  | nil =>
    have h3 : dEq (.list (([] : List (List Int)).map stD)) (.list []) = some (.bool true) := rfl
    refine .seq (.ifT (by array_get_dec) (.ret mLit_ok rfl))
  | cons s r =>
    rw [e] at hok hlen
    have h3 : dEq (.list ((s :: r).map stD)) (.list []) = some (.bool false) := by
      unfold dEq
      rw [okSts]
      rfl
    have h4 : dAt (.list ((s :: r).map stD)) (.int 0) = some (stD s) := (at_L ((s :: r).map stD) 0).trans rfl
    have hs := hok s List.mem_cons_self
    refine .seq (.ifF (by array_get_dec) (.nil ?_))
    refine .ret (mFn_ok (ds := [.list ((List.range w.n).map fun k => if (s :: r).all (fun t => decide (mood t k = mood s k)) = true then .int (mood s k) else .none)]) (evo_cons (ev_ex (comp_all (f := natD) (ds := List.range w.n) (fun k => if (s :: r).all (fun t => decide (mood t k = mood s k)) = true then .int (mood s k) else .none) (ρ1 := [.fz (webD w), .fz (natD v), .fz (.str (txt l)), .fz (.list ((s :: r).map stD)), .no, .no]) (by array_get_dec) (.no rfl) (fun k hk => ?_) (by simp; omega))) evo_nil) rfl rfl) rfl
    have hk := List.mem_range.mp hk
    simp only [List.set_cons_zero, List.set_cons_succ]
    have hall : mFn dAll [.ex (mComp (iSeq (mVar 3)) (tmName 4) (bYes) (mOp2 dEq (.ex (mOp2 dAt (.sl 4) (.sl 5))) (.ex (mOp2 dAt (.ex (mOp2 dAt (.sl 3) (.ex (mLit (.int 0))))) (.sl 5)))) [4])] [.fz (webD w), .fz (natD v), .fz (.str (txt l)), .fz (.list ((s :: r).map stD)), .no, .fz (natD k)] = .ok (.bool ((s :: r).all fun t => decide (mood t k = mood s k))) [.fz (webD w), .fz (natD v), .fz (.str (txt l)), .fz (.list ((s :: r).map stD)), .no, .fz (natD k)] := by
      refine mFn_ok (evo_cons (ev_ex (comp_all (f := stD) (ds := s :: r) (fun t => .bool (decide (mood t k = mood s k))) (ρ1 := [.fz (webD w), .fz (natD v), .fz (.str (txt l)), .fz (.list ((s :: r).map stD)), .no, .fz (natD k)]) (by array_get_dec) (.no rfl) (fun t ht => ?_) (by omega))) evo_nil) rfl (all_map _ (s :: r))
      have ht := hok t ht
      simp only [List.set_cons_zero, List.set_cons_succ]
      array_get_dec
    cases hb : (s :: r).all fun t => decide (mood t k = mood s k) with
    | true =>
      rw [hb] at hall
      exact mIf_t (d := .int (mood s k)) (mB_ok hall) (by array_get_dec)
    | false =>
      rw [hb] at hall
      exact mIf_f (mB_ok hall) mLit_ok

set_option autoImplicit false
theorem W.forQ {it : MI} {v : Nat} {b : SM} {ρ ρ0 : Env} {l : List D} {N : Env → Prop} {R : D → Env → Prop} (hit : it ρ = .ok l ρ0) (h0 : Free ρ0 v) (hb : ∀ d ∈ l, W b (ρ0.set v (.fz d)) (fun ρ' => ρ' = ρ0.set v (.fz d)) R) (hk : ∀ x : Sl, (∀ d, x ≠ .own d) → N (ρ0.set v x)) : W (sFor it (tmName v) b) ρ N R := by
  obtain ⟨s, hs, hn⟩ := h0
  obtain ⟨hl, hg⟩ := List.getElem?_eq_some_iff.mp hs
  refine W.for' (fun _ ρ => ∃ x, (∀ d, x ≠ .own d) ∧ ρ = ρ0.set v x) hit ⟨s, fun d e => hn d e, by rw [← hg, List.set_getElem_self]⟩ ?_ (by rintro _ ⟨x, hx, rfl⟩; exact hk x hx)
  rintro i d _ ei ⟨x, _, rfl⟩
  refine ⟨_, rfl, ?_⟩
  rw [List.set_set]
  exact (hb d (List.mem_of_getElem? ei)).imp (fun _ h => ⟨.fz d, (fun _ e => nomatch e), h⟩) fun _ _ h => h

set_option autoImplicit false
def Tally (L : List (List Int)) (l : List (List Int × D)) : Prop := ∃ ks : List (List Int), l = ks.map (fun t => (t, natD (L.count t))) ∧ ks.Nodup ∧ ∀ t, t ∈ ks ↔ t ∈ L
theorem find_map {α : Type} (f : List Int → α) (ks : List (List Int)) (t : List Int) : (ks.map fun u => (u, f u)).find? (fun p => decide (p.1 = t)) = if t ∈ ks then some (t, f t) else none := by
  induction ks with
  | nil => rfl
  | cons u ks ih =>
    rw [List.map_cons, List.find?_cons]
    by_cases h : u = t
    · simp [h]
    · have h' : t ≠ u := fun e => h e.symm
      simp only [h, decide_false, ih, List.mem_cons, h', false_or]
theorem Tally.get {L : List (List Int)} {l : List (List Int × D)} (h : Tally L l) (t : List Int) : dGetV (kvsS l) (stD t) = if t ∈ L then some (natD (L.count t)) else none := by
  obtain ⟨ks, rfl, hn, hk⟩ := h
  rw [dGetV_st, find_map]
  by_cases hm : t ∈ ks
  · rw [if_pos hm, if_pos ((hk t).mp hm)]
    rfl
  · rw [if_neg hm, if_neg (fun z => hm ((hk t).mpr z))]
    rfl
theorem Tally.at {L : List (List Int)} {l : List (List Int × D)} (h : Tally L l) {t : List Int} (ht : t ∈ L) : dAt (.dict (kvsS l)) (stD t) = some (natD (L.count t)) := by
  rw [at_dict, ← dGetV_st, h.get, if_pos ht]
theorem Tally.has {L : List (List Int)} {l : List (List Int × D)} (h : Tally L l) (t : List Int) : dIn (stD t) (.dict (kvsS l)) = some (.bool (decide (t ∈ L))) := by
  show (dHas _ _).map _ = _
  rw [has_dict]
  obtain ⟨ks, rfl, hn, hk⟩ := h
  rw [List.map_map]
  show some (PyData.bool (decide (t ∈ ks.map id))) = _
  rw [List.map_id]
  congr 2
  exact decide_eq_decide.mpr (hk t)
theorem Tally.nil : Tally [] [] := ⟨[], rfl, List.nodup_nil, fun t => Iff.rfl⟩
theorem Tally.put {M M' : List (List Int)} {l : List (List Int × D)} (h : Tally M l) {t0 : List Int} {c : Nat} (hc : 0 < c) (hM : ∀ t, M'.count t = M.count t + if t = t0 then c else 0) : ∃ l', dPutV (kvsS l) (stD t0) (natD (M.count t0 + c)) = kvsS l' ∧ Tally M' l' := by
  obtain ⟨ks, rfl, hn, hk⟩ := h
  have hmem : ∀ t, t ∈ M' ↔ t ∈ M ∨ t = t0 := fun t => by
    rw [← List.count_pos_iff, ← List.count_pos_iff, hM]
    by_cases e : t = t0
    · simp [e]; omega
    · simp [e]
  by_cases hm : t0 ∈ ks
  · refine ⟨ks.map fun t => (t, natD (M'.count t)), ?_, ks, rfl, hn, fun t => ?_⟩
    · unfold dPutV
      rw [if_pos]
      · unfold kvsS
        rw [List.map_map, List.map_map, List.map_map]
        refine List.map_congr_left fun t _ => ?_
        simp only [Function.comp]
        rw [dkEq_st]
        by_cases e : t = t0
        · simp [e, hM]
        · simp [e, hM]
      · unfold kvsS
        rw [List.map_map, List.any_map, List.any_eq_true]
        exact ⟨t0, hm, by simp only [Function.comp]; rw [dkEq_st]; simp⟩
    · rw [hmem, hk]
      refine ⟨.inl, fun z => z.elim id fun e => ?_⟩
      rw [e]
      exact (hk t0).mp hm
  · refine ⟨(ks.map fun t => (t, natD (M.count t))) ++ [(t0, natD (M.count t0 + c))], dPutV_st (fun p hp e => ?_), ks ++ [t0], ?_, ?_, fun t => ?_⟩
    · obtain ⟨t, ht, rfl⟩ := List.mem_map.mp hp
      exact hm (e ▸ ht)
    · rw [List.map_append]
      congr 1
      · refine List.map_congr_left fun t ht => ?_
        have e : t ≠ t0 := fun e => hm (e ▸ ht)
        rw [hM, if_neg e, Nat.add_zero]
      · rw [List.map_cons, List.map_nil, hM, if_pos rfl]
    · rw [List.nodup_append]
      exact ⟨hn, by simp, fun a ha b hb e => hm (by cases List.mem_singleton.mp hb; rw [← e]; exact ha)⟩
    · rw [List.mem_append, List.mem_singleton, hmem, hk]
/-- what is counted when the first so many states are done -/
def partL (nx : List Int → List Int) (L ks : List (List Int)) : List (List Int) := (L.filter fun s => decide (s ∈ ks)).map nx
theorem part_step {nx : List Int → List Int} {L ks : List (List Int)} {u : List Int} (hu : u ∉ ks) (t : List Int) : (partL nx L (ks ++ [u])).count t = (partL nx L ks).count t + if t = nx u then L.count u else 0 := by
  unfold partL
  induction L with
  | nil => simp
  | cons s L ih =>
    rw [List.filter_cons, List.filter_cons, List.count_cons]
    by_cases h1 : s ∈ ks
    · have hne : s ≠ u := fun e => hu (e ▸ h1)
      rw [if_pos (by simp [h1]), if_pos (by simp [h1]), List.map_cons, List.map_cons, List.count_cons, List.count_cons, ih]
      have : (s == u) = false := by simp [hne]
      rw [this]
      simp
      omega
    · by_cases h2 : s = u
      · subst h2
        rw [if_pos (by simp), if_neg (by simp [h1]), List.map_cons, List.count_cons, ih]
        by_cases h3 : t = nx s
        · simp [h3]; omega
        · have : (nx s == t) = false := by simp; exact fun e => h3 e.symm
          simp [h3, this]
      · rw [if_neg (by simp [h1, h2]), if_neg (by simp [h1]), ih]
        have : (s == u) = false := by simp [h2]
        simp [this]
theorem part_nil (nx : List Int → List Int) (L : List (List Int)) : partL nx L [] = [] := by unfold partL; simp
theorem part_all {nx : List Int → List Int} {L ks : List (List Int)} (h : ∀ t, t ∈ L → t ∈ ks) : partL nx L ks = L.map nx := by
  unfold partL
  rw [List.filter_eq_self.mpr fun s hs => decide_eq_true (h s hs)]
def leadsL (w : Web) : List (List Int × D) := (allS w.n).map fun s => (s, stD (nxt w s))
theorem leads_at {w : Web} {s : List Int} (hs : StOk w.n s) : dAt (.dict (kvsS (leadsL w))) (stD s) = some (stD (nxt w s)) := by
  unfold leadsL
  rw [at_dict, find_map, if_pos (mem_allS.mpr hs)]
  rfl

set_option autoImplicit false
theorem dcM_of {α : Type} {f : α → D} {i : Nat} {ek ev : ME} {key : α → List Int} {val : α → D} {ρ : Env} (hi : ρ[i]? = some .no) : ∀ (ds : List α) (acc : List (List Int × D)), (∀ d ∈ ds, ek (ρ.set i (.fz (f d))) = .ok (stD (key d)) (ρ.set i (.fz (f d)))) → (∀ d ∈ ds, ev (ρ.set i (.fz (f d))) = .ok (val d) (ρ.set i (.fz (f d)))) →
    (ds.map key).Nodup → (∀ d ∈ ds, ∀ p ∈ acc, p.1 ≠ key d) → dcM (tmName i) ek ev [i] (ds.map f) (kvsS acc) ρ = .ok (kvsS (acc ++ ds.map fun d => (key d, val d))) ρ
  | [], acc, _, _, _, _ => by simp [dcM]
  | d :: ds, acc, hk, hv, hn, hd => by
    have h1 := hk d List.mem_cons_self
    have h2 := hv d List.mem_cons_self
    have ew : wipeE (ρ.set i (.fz (f d))) [i] = ρ := by
      show (wipeE (ρ.set i (.fz (f d))) []).set i .no = ρ
      exact set_set hi
    rw [List.map_cons, List.nodup_cons] at hn
    have ih := dcM_of hi ds (acc ++ [(key d, val d)]) (fun x hx => hk x (List.mem_cons_of_mem _ hx)) (fun x hx => hv x (List.mem_cons_of_mem _ hx)) hn.2 (fun x hx p hp e => by
      rcases List.mem_append.mp hp with z | z
      · exact hd x (List.mem_cons_of_mem _ hx) p z e
      · cases List.mem_singleton.mp z
        exact hn.1 (List.mem_map.mpr ⟨x, hx, (show key d = key x from e).symm⟩))
    have e0 : dcM (tmName i) ek ev [i] ((d :: ds).map f) (kvsS acc) ρ = (ek (ρ.set i (.fz (f d)))).then fun k ρ2 => (ev ρ2).then fun y ρ3 => match toKT k with
      | some _ => dcM (tmName i) ek ev [i] (ds.map f) (dPutV (kvsS acc) k y) (wipeE ρ3 [i])
      | none => .stuck := rfl
    rw [e0, h1]
    simp only [Rs.then]
    rw [h2]
    simp only [toKT_st]
    rw [ew, dPutV_st (fun p hp => hd d List.mem_cons_self p hp), ih, List.append_assoc]
    rfl
theorem dc_map {α : Type} {f : α → D} {i : Nat} {it : MI} {ek ev : ME} (key : α → List Int) (val : α → D) {ρ ρ1 : Env} {ds : List α} (hit : it ρ = .ok (ds.map f) ρ1) (hf : Free ρ1 i) (hk : ∀ d ∈ ds, ek (ρ1.set i (.fz (f d))) = .ok (stD (key d)) (ρ1.set i (.fz (f d))))
    (hv : ∀ d ∈ ds, ev (ρ1.set i (.fz (f d))) = .ok (val d) (ρ1.set i (.fz (f d)))) (hnd : (ds.map key).Nodup) (hz : ds.length ≤ 1000000) : mDC it (tmName i) ek ev [i] ρ = .ok (.dict (kvsS (ds.map fun d => (key d, val d)))) ρ1 := by
  obtain ⟨s, hs, hn⟩ := hf
  obtain ⟨hl, hg⟩ := List.getElem?_eq_some_iff.mp hs
  have hw : wipeE ρ1 [i] = ρ1.set i .no := rfl
  have hi : (ρ1.set i .no)[i]? = some .no := List.getElem?_set_self hl
  have z := dcM_of (f := f) (ek := ek) (ev := ev) (key := key) (val := val) hi ds [] (fun d hd => by rw [List.set_set]; exact hk d hd) (fun d hd => by rw [List.set_set]; exact hv d hd) hnd (fun _ _ p hp => by simp at hp)
  have z' : dcM (tmName i) ek ev [i] (ds.map f) [] (ρ1.set i .no) = _ := z
  unfold mDC
  rw [hit]
  show (if (ds.map f).length ≤ sizeLine then _ else _) = _
  rw [if_pos (by rw [List.length_map]; unfold sizeLine; omega), hw, z']
  show Rs.ok _ (unwipe ρ1 (ρ1.set i .no) [i]) = _
  have hu : unwipe ρ1 (ρ1.set i .no) [i] = ρ1 := by
    show (ρ1.set i .no).set i (Sl.keep ρ1[i]?) = ρ1
    rw [List.set_set, hs]
    have hk : Sl.keep (some s) = s := by
      cases s with
      | no => rfl
      | fz d => rfl
      | own d => exact (hn d rfl).elim
    rw [hk, ← hg]
    exact List.set_getElem_self hl
  rw [hu]
  rfl
theorem allS_nodup : ∀ n, (allS n).Nodup
  | 0 => by show [([] : List Int)].Nodup; simp
  | n + 1 => by
    show ((allS n).flatMap three).Nodup
    have ih := allS_nodup n
    have hl : ∀ s ∈ allS n, s.length = n := fun s hs => all_len hs
    revert ih hl
    generalize allS n = l
    intro ih hl
    induction l with
    | nil => simp
    | cons s l ihl =>
      rw [List.flatMap_cons, List.nodup_append]
      obtain ⟨h1, h2⟩ := List.nodup_cons.mp ih
      refine ⟨by simp [three], ihl h2 (fun t ht => hl t (List.mem_cons_of_mem _ ht)), ?_⟩
      intro a ha b hb e
      subst e
      obtain ⟨t, ht, hb⟩ := List.mem_flatMap.mp hb
      obtain ⟨m, _, _, rfl⟩ := mem_three.mp ha
      obtain ⟨m', _, _, e⟩ := mem_three.mp hb
      have := List.append_inj_left' e rfl
      exact h1 (this ▸ ht)
theorem iDk_ok {i : Nat} {kvs : List (D × D)} {ρ : Env} (h : ρ[i]? = some (.fz (.dict kvs))) (hp : plainKvs kvs = true) (hn : kvs ≠ []) : iDk i ρ = .ok (kvs.map (·.1)) ρ := by
  unfold iDk
  rw [h]
  simp only
  rw [if_pos ⟨hp, hn⟩]
theorem plain_S (l : List (List Int × D)) : plainKvs (kvsS l) = true := by
  cases l with
  | nil => rfl
  | cons p l => cases l <;> rfl
theorem iDk_S {i : Nat} {l : List (List Int × D)} {ρ : Env} (h : ρ[i]? = some (.fz (.dict (kvsS l)))) (hn : l ≠ []) : iDk i ρ = .ok ((l.map (·.1)).map stD) ρ := by
  rw [iDk_ok h (plain_S l) (by cases l with
    | nil => exact (hn rfl).elim
    | cons p l => intro z; cases z)]
  congr 1
  unfold kvsS
  rw [List.map_map, List.map_map]
  rfl
local macro_rules | `(tactic| decreasing_trivial_pre_omega) => `(tactic| first
  | with_reducible assumption)
theorem leads_of_eq {w : Web} (hw : w.Ok) (h8 : w.n ≤ 8) : f_leads_of [.fz (webD w)] = .ok (.dict (kvsS (leadsL w))) [] := by
  refine W.fn0 rfl ?_; unfold m_leads_of; simp only [Nat.reduceSub, List.replicate_succ, List.replicate_zero, List.cons_append, List.nil_append]
  sizeOf_list_dec
  refine .ret (dc_map (f := stD) (ds := allS w.n) (fun s => s) (fun s => stD (nxt w s)) (ρ1 := [.fz (webD w), .fz (nearD w), .no]) (by array_get_dec) (.no rfl) (fun s hs => ?_) (fun s hs => ?_) (by rw [List.map_id']; exact allS_nodup _) (by have := allS_big h8; omega)) rfl
  · simp only [List.set_cons_zero, List.set_cons_succ]
    array_get_dec
  · have hs := mem_allS.mp hs
    simp only [List.set_cons_zero, List.set_cons_succ]
    array_get_dec
theorem leads_ne {w : Web} : leadsL w ≠ [] := by
  intro h
  have : (leadsL w).length = 0 := by rw [h]; rfl
  unfold leadsL at this
  rw [List.length_map, allS_len] at this
  have := Nat.pow_pos (n := w.n) (show 0 < 3 by omega)
  omega
theorem ones_tally (w : Web) : Tally (allS w.n) (((leadsL w).map (·.1)).map fun t => (t, natD 1)) := by
  have e : (leadsL w).map (·.1) = allS w.n := by unfold leadsL; rw [List.map_map]; show (allS w.n).map id = _; rw [List.map_id]
  rw [e]
  refine ⟨allS w.n, List.map_congr_left fun t ht => ?_, allS_nodup _, fun t => Iff.rfl⟩
  rw [(allS_nodup w.n).count, if_pos ht]
/-- {one: 1 for one in leads} -/
theorem ones_eq {w : Web} (h8 : w.n ≤ 8) {i j : Nat} {ρ : Env} (h : ρ[i]? = some (.fz (.dict (kvsS (leadsL w))))) (hf : Free ρ j) : mDC (iDk i) (tmName j) (mVar j) (mLit (.int 1)) [j] ρ = .ok (.dict (kvsS (((leadsL w).map (·.1)).map fun t => (t, natD 1)))) ρ := by
  have hj : j < ρ.length := by
    obtain ⟨s, hs, _⟩ := hf
    exact (List.getElem?_eq_some_iff.mp hs).1
  refine dc_map (f := stD) (ds := (leadsL w).map (·.1)) (fun s => s) (fun _ => natD 1) (iDk_S h leads_ne) hf (fun s _ => mVar_fz (List.getElem?_set_self hj)) (fun s _ => mLit_ok) ?_ ?_
  · rw [List.map_id']
    unfold leadsL
    rw [List.map_map]
    show ((allS w.n).map id).Nodup
    rw [List.map_id]
    exact allS_nodup _
  · unfold leadsL
    rw [List.length_map, List.length_map]
    have := allS_big h8
    omega
theorem get2_S {i : Nat} {l : List (List Int × D)} {m n : ME} {ρ : Env} {t : List Int} {x : D} (h : at_ ρ i = some (.dict (kvsS l))) (hm : m ρ = .ok (stD t) ρ) (hn : n ρ = .ok x ρ) : mGet2 i m n ρ = .ok ((dGetV (kvsS l) (stD t)).getD x) ρ := by
  unfold mGet2
  rw [h]
  simp only [plain_S, if_true]
  rw [hm]
  simp only [Rs.then]
  rw [hn]
  simp only [Rs.then]
  rw [h]
  simp only [keyFits_st, if_true]
theorem Tally.get0 {L : List (List Int)} {l : List (List Int × D)} (h : Tally L l) (t : List Int) : (dGetV (kvsS l) (stD t)).getD (.int 0) = natD (L.count t) := by
  rw [h.get]
  by_cases hm : t ∈ L
  · rw [if_pos hm]; rfl
  · rw [if_neg hm, List.count_eq_zero.mpr hm]; rfl
theorem add_natN (a b : Nat) : dAdd (natD a) (natD b) = some (natD (a + b)) := by
  show some (PyData.int ((a : Int) + (b : Int))) = some (.int ((a + b : Nat) : Int))
  rw [Int.natCast_add]
theorem kvsS_len (l : List (List Int × D)) : (kvsS l).length = l.length := by unfold kvsS; rw [List.length_map]
theorem put_S {l l' : List (List Int × D)} {t : List Int} {d : D} (hl : l.length ≤ 1000000) (h : dPutV (kvsS l) (stD t) d = kvsS l') : dPutAt (.dict (kvsS l)) (stD t) d = some (.dict (kvsS l')) := by
  show (if (kvsS l).length < sizeLine ∧ keyFits (kvsS l) (stD t) = true then some (PyData.dict (dPutV (kvsS l) (stD t) d)) else none) = _
  rw [if_pos ⟨by rw [kvsS_len]; unfold sizeLine; omega, keyFits_st l t⟩, h]
theorem nodup_few : ∀ {ks L : List (List Int)}, ks.Nodup → (∀ t ∈ ks, t ∈ L) → ks.length ≤ L.length
  | [], _, _, _ => Nat.zero_le _
  | t :: ks, L, hn, h => by
    obtain ⟨h1, h2⟩ := List.nodup_cons.mp hn
    have ht := h t List.mem_cons_self
    have := nodup_few (ks := ks) (L := L.erase t) h2 fun u hu => (List.mem_erase_of_ne (fun e => h1 (by rw [← e]; exact hu))).mpr (h u (List.mem_cons_of_mem _ hu))
    rw [List.length_erase_of_mem ht] at this
    have := List.length_pos_of_mem ht
    rw [List.length_cons]
    omega
theorem Tally.len {L : List (List Int)} {l : List (List Int × D)} (h : Tally L l) : l.length ≤ L.length := by
  obtain ⟨ks, rfl, hn, hk⟩ := h
  rw [List.length_map]
  exact nodup_few hn fun t ht => (hk t).mp ht
theorem counts_behind_eq {w : Web} {L : List (List Int)} {l : List (List Int × D)} (hT : Tally L l) (hne : L ≠ []) (hok : ∀ s ∈ L, StOk w.n s) (hbig : L.length ≤ 1000000) : ∃ l', f_counts_behind [.fz (.dict (kvsS (leadsL w))), .fz (.dict (kvsS l))] = .ok (.dict (kvsS l')) [] ∧ Tally (L.map (nxt w)) l' := by
  obtain ⟨d, e, l', rfl, h⟩ := W.fnP (len := 4) (n := 2) (m := m_counts_behind) (ss := [.fz (.dict (kvsS (leadsL w))), .fz (.dict (kvsS l))]) (P := fun d => ∃ l', d = .dict (kvsS l') ∧ Tally (L.map (nxt w)) l') rfl (by
    have hT' := hT
    obtain ⟨ks, el, hn, hk⟩ := hT'
    have e1 : l.map (·.1) = ks := by rw [el, List.map_map]; show ks.map id = _; rw [List.map_id]
    have hl : l ≠ [] := by
      intro z
      rw [z] at e1
      cases hL : L with
      | nil => exact hne hL
      | cons s L' =>
        have := (hk s).mpr (by rw [hL]; exact List.mem_cons_self)
        rw [← e1] at this
        cases this
    unfold m_counts_behind
    refine .seq (.own (d := .dict (kvsS [])) (ρ' := [.fz (.dict (kvsS (leadsL w))), .fz (.dict (kvsS l)), .no, .no]) rfl ?_)
    simp only [List.set_cons_zero, List.set_cons_succ]
    have hit := iDk_S (i := 1) (l := l) (ρ := [.fz (.dict (kvsS (leadsL w))), .fz (.dict (kvsS l)), .own (.dict (kvsS [])), .no]) rfl hl
    rw [e1] at hit
    refine .seq (.forA (f := stD) (l := ks) (fun i ρ => ∃ l' x3, Tally (partL (nxt w) L (ks.take i)) l' ∧ ρ = [.fz (.dict (kvsS (leadsL w))), .fz (.dict (kvsS l)), .own (.dict (kvsS l')), x3]) hit (by exact ⟨[], .no, by rw [List.take_zero, part_nil]; exact .nil, rfl⟩) ?_ ?_)
    · rintro i u _ ei ⟨l', x3, hl', rfl⟩
      obtain ⟨hi, eu⟩ := List.getElem?_eq_some_iff.mp ei
      have huk : u ∈ ks := List.mem_of_getElem? ei
      have huL := (hk u).mp huk
      have hu := hok u huL
      have htk : ks.take (i + 1) = ks.take i ++ [u] := by rw [List.take_add_one, ei]; rfl
      have hnot : u ∉ ks.take i := by
        intro z
        obtain ⟨j, hj, ej⟩ := List.getElem_of_mem z
        rw [List.length_take] at hj
        rw [List.getElem_take] at ej
        exact List.pairwise_iff_getElem.mp hn j i (by omega) hi (by omega) (ej.trans eu.symm)
      obtain ⟨l2, hp, hT2⟩ := hl'.put (t0 := nxt w u) (c := L.count u) (List.count_pos_iff.mpr huL) (part_step hnot)
      simp only [List.set_cons_zero, List.set_cons_succ]
      have a1 := leads_at hu
      have a2 := hT.at huL
      have a3 : mOp2 dAt (.sl 0) (.sl 3) [.fz (.dict (kvsS (leadsL w))), .fz (.dict (kvsS l)), .own (.dict (kvsS l')), .fz (stD u)] = .ok (stD (nxt w u)) [.fz (.dict (kvsS (leadsL w))), .fz (.dict (kvsS l)), .own (.dict (kvsS l')), .fz (stD u)] := by array_get_dec
      have a4 := get2_S (i := 2) (l := l') (n := mLit (.int 0)) (x := .int 0) (ρ := [.fz (.dict (kvsS (leadsL w))), .fz (.dict (kvsS l)), .own (.dict (kvsS l')), .fz (stD u)]) rfl a3 rfl
      rw [hl'.get0] at a4
      have a5 := add_natN ((partL (nxt w) L (ks.take i)).count (nxt w u)) (L.count u)
      have hlen : l'.length ≤ 1000000 := by
        have h1 := hl'.len
        have h2 : (partL (nxt w) L (ks.take i)).length ≤ L.length := by unfold partL; rw [List.length_map]; exact List.length_filter_le _ _
        omega
      refine .put (c0 := .dict (kvsS l')) (c := .dict (kvsS l')) (kd := stD (nxt w u)) (ρ1 := [.fz (.dict (kvsS (leadsL w))), .fz (.dict (kvsS l)), .own (.dict (kvsS l')), .fz (stD u)]) (by array_get_dec) rfl (ev_ex a3) rfl rfl (put_S hlen hp) ?_
      exact ⟨l2, .fz (stD u), by rw [htk]; exact hT2, rfl⟩
    · rintro _ ⟨l', x3, hl', rfl⟩
      rw [List.take_length, part_all fun t ht => (hk t).mpr ht] at hl'
      exact .ret (mVar_own rfl) ⟨l', rfl, hl'⟩)
  exact ⟨l', e, h⟩

set_option autoImplicit false
def atT (w : Web) (m : Nat) : List (List Int) := (allS w.n).map fun t => runL w t m
theorem atT_0 (w : Web) : atT w 0 = allS w.n := by
  show (allS w.n).map (fun t => t) = _
  rw [List.map_id']
theorem atT_succ (w : Web) (m : Nat) : atT w (m + 1) = (atT w m).map (nxt w) := by
  unfold atT
  rw [List.map_map]
  rfl
theorem atT_len (w : Web) (m : Nat) : (atT w m).length = 3 ^ w.n := by unfold atT; rw [List.length_map, allS_len]
theorem atT_big {w : Web} (h8 : w.n ≤ 8) (m : Nat) : (atT w m).length ≤ 6561 := by
  unfold atT; rw [List.length_map]; exact allS_big h8
theorem atT_ok {w : Web} {m : Nat} {s : List Int} (h : s ∈ atT w m) : StOk w.n s := by
  obtain ⟨t, ht, rfl⟩ := List.mem_map.mp h
  exact run_ok (mem_allS.mp ht) m
theorem atT_ne (w : Web) (m : Nat) : atT w m ≠ [] := by
  intro h
  have := atT_len w m
  rw [h] at this
  have := Nat.pow_pos (n := w.n) (show 0 < 3 by omega)
  simp at *
  omega
theorem mem_atT {w : Web} {m : Nat} {s : List Int} : s ∈ atT w m ↔ ∃ t, StOk w.n t ∧ runL w t m = s := by
  unfold atT
  rw [List.mem_map]
  constructor
  · rintro ⟨t, ht, e⟩; exact ⟨t, mem_allS.mp ht, e⟩
  · rintro ⟨t, ht, e⟩; exact ⟨t, mem_allS.mpr ht, e⟩
theorem run_nxt (w : Web) (s : List Int) : ∀ m, runL w (nxt w s) m = runL w s (m + 1)
  | 0 => rfl
  | m + 1 => by
    show nxt w (runL w (nxt w s) m) = nxt w (runL w s (m + 1))
    rw [run_nxt w s m]
theorem atT_anti {w : Web} {m : Nat} {s : List Int} (h : s ∈ atT w (m + 1)) : s ∈ atT w m := by
  obtain ⟨t, ht, e⟩ := mem_atT.mp h
  exact mem_atT.mpr ⟨nxt w t, nxt_ok ht, (run_nxt w t m).trans e⟩
theorem atT_le {w : Web} {s : List Int} {m k : Nat} (h : s ∈ atT w (m + k)) : s ∈ atT w m := by
  induction k with
  | zero => exact h
  | succ k ih => exact ih (atT_anti h)
theorem cnt_le_len (L : List (List Int)) (s : List Int) : L.count s ≤ L.length := List.count_le_length
def Endless (w : Web) (s : List Int) : Prop := ∃ p, 0 < p ∧ runL w s p = s
theorem run_add (w : Web) (s : List Int) (a : Nat) : ∀ b, runL w (runL w s a) b = runL w s (a + b)
  | 0 => rfl
  | b + 1 => by show nxt w _ = nxt w _; rw [run_add w s a b]; rfl
/-- a state that comes twice on its way to s: s comes again -/
theorem endless_of {w : Web} {t : List Int} {i j m : Nat} (hij : i < j) (hjm : j ≤ m) (e : runL w t i = runL w t j) : Endless w (runL w t m) := by
  refine ⟨j - i, by omega, ?_⟩
  have h1 : runL w t m = runL w (runL w t i) (m - i) := by rw [run_add]; congr 1; omega
  have h2 : runL w t m = runL w (runL w t j) (m - j) := by rw [run_add]; congr 1; omega
  rw [run_add]
  rw [show m + (j - i) = j + (m - i) by omega, ← run_add, ← e, ← h1]
theorem deep_endless {w : Web} {s : List Int} (h : s ∈ atT w (3 ^ w.n)) : Endless w s := by
  obtain ⟨t, ht, rfl⟩ := mem_atT.mp h
  by_cases hd : ((List.range (3 ^ w.n + 1)).map fun k => runL w t k).Nodup
  · have := few_states hd fun s hs => by
      obtain ⟨k, _, rfl⟩ := List.mem_map.mp hs
      exact run_ok ht k
    simp at this
    omega
  · unfold List.Nodup at hd
    rw [List.pairwise_iff_getElem] at hd
    have ⟨i, hd⟩ := Classical.not_forall.mp hd
    have ⟨j, hd⟩ := Classical.not_forall.mp hd
    have ⟨hi, hd⟩ := Classical.not_forall.mp hd
    have ⟨hj, hd⟩ := Classical.not_forall.mp hd
    have ⟨hij, hd⟩ := Classical.not_forall.mp hd
    have e := Classical.not_not.mp hd
    simp only [List.getElem_map, List.getElem_range] at e
    simp at hj
    exact endless_of hij (by omega) e
theorem endless_all {w : Web} {s : List Int} (hs : StOk w.n s) (h : Endless w s) (m : Nat) : s ∈ atT w m := by
  obtain ⟨p, hp, e⟩ := h
  have hq : ∀ q, runL w s (p * q) = s := fun q => by
    induction q with
    | zero => rfl
    | succ q ih => rw [Nat.mul_succ, ← run_add, ih, e]
  have hle : m ≤ p * m := by
    have := Nat.mul_le_mul_right m hp
    omega
  refine atT_le (k := p * m - m) ?_
  rw [show m + (p * m - m) = p * m by omega]
  exact mem_atT.mpr ⟨s, hs, hq m⟩
/-- how deep below s the states lie -/
theorem deepest {w : Web} {s : List Int} (hs : StOk w.n s) (h : ¬ Endless w s) : ∃ D, D < 3 ^ w.n ∧ s ∈ atT w D ∧ s ∉ atT w (D + 1) := by
  have key : ∀ M, s ∉ atT w M → ∃ D, D < M ∧ s ∈ atT w D ∧ s ∉ atT w (D + 1) := fun M => by
    induction M with
    | zero => intro h; rw [atT_0] at h; exact (h (mem_allS.mpr hs)).elim
    | succ M ih =>
      intro hM
      by_cases h2 : s ∈ atT w M
      · exact ⟨M, by omega, h2, hM⟩
      · obtain ⟨D, a, b⟩ := ih h2
        exact ⟨D, by omega, b⟩
  exact key _ fun z => h (deep_endless z)
theorem rnd_endless {w : Web} {s : List Int} {N f : Nat} (h : Rnd w s N f) : f = 0 ↔ Endless w s := by
  constructor
  · rintro rfl
    exact ⟨N, h.lt, h.eq⟩
  · rintro ⟨p, hp, e⟩
    by_cases hf : f = 0
    · exact hf
    · exfalso
      have hq : ∀ q, runL w s (p * q) = s := fun q => by
        induction q with
        | zero => rfl
        | succ q ih => rw [Nat.mul_succ, ← run_add, ih, e]
      have hle : N ≤ p * N := by have := Nat.mul_le_mul_right N hp; omega
      obtain ⟨h1, h2⟩ := h.spot (p * N)
      rw [hq] at h2
      refine h.df 0 (spotN N f (p * N)) ?_ h1 h2.symm
      unfold spotN
      rw [if_neg (by omega)]
      omega
theorem rnd_ex {w : Web} (hw : w.Ok) {s : List Int} (hs : StOk w.n s) : ∃ N f, Rnd w s N f := by
  obtain ⟨N, f, h, _⟩ := law_trip_eq hw hs
  exact ⟨N, f, h⟩
local macro_rules | `(tactic| decreasing_trivial_pre_omega) => `(tactic| first
  | with_reducible assumption)
theorem few_ok {c : Nat} (h : c ≤ 20000) : f_need_few_states [.fz (natD c)] = .ok .none [] := by
  have h1 : dGt (natD c) (.int 20000) = some (.bool false) := by rw [show dGt (natD c) (.int 20000) = some (.bool (decide ((20000 : Int) < c))) from rfl, decide_eq_false (by omega)]
  refine W.fn0 rfl ?_; unfold m_need_few_states; simp only [Nat.reduceSub, List.replicate_succ, List.replicate_zero, List.cons_append, List.nil_append]
  sizeOf_list_dec
  trivial
theorem kin_eq {w : Web} (hw : w.Ok) (h8 : w.n ≤ 8) {s : List Int} (hs : StOk w.n s) {m : Nat} (hm : m ≤ 100) : f_kin [.fz (webD w), .fz (stD s), .fz (natD m)] = .ok (natD ((atT w m).count s)) [] := by
  have h1 : f_need_number [.fz (natD m), .fz (.int 0), .fz (.int 100)] = .ok .none [] := need_number_ok (by omega) (by omega)
  have h2 := eq_nat0 m
  refine W.fn0 rfl ?_; unfold m_kin; simp only [Nat.reduceSub, List.replicate_succ, List.replicate_zero, List.cons_append, List.nil_append]
  sizeOf_list_dec
  sizeOf_list_dec
  by_cases h0 : m = 0
  · subst h0
    have h2 : dEq (natD 0) (.int 0) = some (.bool true) := h2
    refine .seq (.ifT (by array_get_dec) (.ret mLit_ok ?_))
    rw [atT_0, (allS_nodup w.n).count, if_pos (mem_allS.mpr hs)]
    rfl
  · rw [decide_eq_false h0] at h2
    refine .seq (.ifF (by array_get_dec) (.nil ?_))
    have hl := leads_of_eq hw h8
    sizeOf_list_dec
    have ho := ones_eq (w := w) h8 (i := 3) (j := 5) (ρ := [.fz (webD w), .fz (stD s), .fz (natD m), .fz (.dict (kvsS (leadsL w))), .no, .no, .no]) rfl (.no rfl)
    refine .seq (.own ho ?_)
    simp only [List.set_cons_zero, List.set_cons_succ]
    refine .seq (.forA (f := natD) (l := List.range m) (fun i ρ => ∃ l x4 x6, Tally (atT w i) l ∧ (x4 = .own (.dict (kvsS l)) ∨ x4 = .fz (.dict (kvsS l))) ∧ ρ = [.fz (webD w), .fz (stD s), .fz (natD m), .fz (.dict (kvsS (leadsL w))), x4, .no, x6]) (ρ0 := [.fz (webD w), .fz (stD s), .fz (natD m), .fz (.dict (kvsS (leadsL w))), .own (.dict (kvsS (((leadsL w).map (·.1)).map fun t => (t, natD 1)))), .no, .no]) (by array_get_dec) (by exact ⟨_, _, .no, by rw [atT_0]; exact ones_tally w, .inl rfl, rfl⟩) ?_ ?_)
    · rintro i k _ _ ⟨l, x4, x6, hT, hx, rfl⟩
      simp only [List.set_cons_zero, List.set_cons_succ]
      obtain ⟨l', e, hT'⟩ := counts_behind_eq hT (atT_ne w i) (fun t ht => atT_ok ht) (by have := atT_big h8 i; omega)
      rw [← atT_succ] at hT'
      have hset : mCall f_counts_behind [.v (mVar 3), .v (mVar 4)] [.fz (webD w), .fz (stD s), .fz (natD m), .fz (.dict (kvsS (leadsL w))), x4, .no, .fz (natD k)] = .ok (.dict (kvsS l')) [.fz (webD w), .fz (stD s), .fz (natD m), .fz (.dict (kvsS (leadsL w))), .fz (.dict (kvsS l)), .no, .fz (natD k)] := by
        rcases hx with rfl | rfl
        · array_get_dec
        · array_get_dec
      refine .seq (.set' hset ?_)
      simp only [List.set_cons_zero, List.set_cons_succ]
      have hg := get2_S (i := 4) (l := l') (m := mVar 1) (n := mLit (.int 0)) (t := s) (x := .int 0) (ρ := [.fz (webD w), .fz (stD s), .fz (natD m), .fz (.dict (kvsS (leadsL w))), .fz (.dict (kvsS l')), .no, .fz (natD k)]) rfl rfl rfl
      rw [hT'.get0] at hg
      have hf := few_ok (c := (atT w (i + 1)).count s) (by have h1 := cnt_le_len (atT w (i + 1)) s; have h2 := atT_big h8 (i + 1); omega)
      refine .do' (by array_get_dec) ?_
      exact ⟨l', .fz (.dict (kvsS l')), .fz (natD k), hT', .inr rfl, rfl⟩
    · rintro _ ⟨l, x4, x6, hT, hx, rfl⟩
      rw [List.length_range] at hT
      have hg := get2_S (i := 4) (l := l) (m := mVar 1) (n := mLit (.int 0)) (t := s) (x := .int 0) (ρ := [.fz (webD w), .fz (stD s), .fz (natD m), .fz (.dict (kvsS (leadsL w))), x4, .no, x6]) (by rcases hx with rfl | rfl <;> rfl) rfl rfl
      rw [hT.get0] at hg
      exact .ret hg rfl
theorem eldest_round {w : Web} (hw : w.Ok) {s : List Int} (hs : StOk w.n s) (h : Endless w s) : f_eldest [.fz (webD w), .fz (stD s)] = .ok (.str "endless") [] := by
  obtain ⟨N, f, hr⟩ := rnd_ex hw hs
  obtain rfl := (rnd_endless hr).mpr h
  have h1 := row_round_eq hw hs hr
  have h2 : dEq (natD 0) (.int 0) = some (.bool true) := eq_nat0 0
  have h3 : dAt (.tuple [rowD' w s N, natD 0]) (.int 1) = some (natD 0) := rfl
  refine W.fn0 rfl ?_; unfold m_eldest; simp only [Nat.reduceSub, List.replicate_succ, List.replicate_zero, List.cons_append, List.nil_append]
  sizeOf_list_dec
  refine .seq (.ifT (by array_get_dec) (.ret mLit_ok rfl))
theorem eldest_deep {w : Web} (hw : w.Ok) (h8 : w.n ≤ 8) {s : List Int} (hs : StOk w.n s) (h : ¬ Endless w s) {D : Nat} (hD : s ∈ atT w D) (hD' : s ∉ atT w (D + 1)) : f_eldest [.fz (webD w), .fz (stD s)] = .ok (natD D) [] := by
  obtain ⟨N, f, hr⟩ := rnd_ex hw hs
  have hf : f ≠ 0 := fun e => h ((rnd_endless hr).mp e)
  have h1 := row_round_eq hw hs hr
  have h2 : dEq (natD f) (.int 0) = some (.bool false) := by rw [eq_nat0, decide_eq_false hf]
  have h3 : dAt (.tuple [rowD' w s N, natD f]) (.int 1) = some (natD f) := rfl
  have hl := leads_of_eq hw h8
  have hDlt : D < 3 ^ w.n := by
    by_cases z : D < 3 ^ w.n
    · exact z
    · exact (h (deep_endless (atT_le (k := D - 3 ^ w.n) (by rw [show 3 ^ w.n + (D - 3 ^ w.n) = D by omega]; exact hD)))).elim
  have hbig : 3 ^ w.n ≤ 6561 := Nat.pow_le_pow_right (n := 3) (by omega) h8
  refine W.fn0 rfl ?_; unfold m_eldest; simp only [Nat.reduceSub, List.replicate_succ, List.replicate_zero, List.cons_append, List.nil_append]
  sizeOf_list_dec
  refine .seq (.ifF (by array_get_dec) (.nil ?_))
  refine .seq (.par (ds := [.dict (kvsS (leadsL w)), .int 0]) (ρ1 := [.fz (webD w), .fz (stD s), .no, .no, .no, .no]) (by simp only [List.map_cons, List.map_nil]; array_get_dec) ?_)
  simp only [setP, List.set_cons_zero, List.set_cons_succ, List.map_cons, List.map_nil, Bool.false_eq_true, if_false, if_true]
  have ho := ones_eq (w := w) h8 (i := 2) (j := 5) (ρ := [.fz (webD w), .fz (stD s), .fz (.dict (kvsS (leadsL w))), .fz (.int 0), .no, .no]) rfl (.no rfl)
  obtain ⟨l, e, hT⟩ := counts_behind_eq (ones_tally w) (by rw [← atT_0]; exact atT_ne w 0) (fun t ht => mem_allS.mp ht) (by have := allS_big h8; omega)
  rw [← atT_0, ← atT_succ] at hT
  sizeOf_list_dec
  refine .seq (W.whileM (fun k ρ => ∃ i l, i + k = D ∧ Tally (atT w (i + 1)) l ∧ ρ = [.fz (webD w), .fz (stD s), .fz (.dict (kvsS (leadsL w))), .fz (natD i), .fz (.dict (kvsS l)), .no]) ?_ 1000000 D _ (by omega) ⟨0, l, by omega, hT, rfl⟩)
  rintro k _ ⟨i, l, hik, hT, rfl⟩
  have hh := hT.has s
  by_cases hin : s ∈ atT w (i + 1)
  · rw [decide_eq_true hin] at hh
    have hk : 0 < k := by
      by_cases z : k = 0
      · rw [show i = D by omega] at hin
        exact (hD' hin).elim
      · omega
    refine ⟨true, _, by array_get_dec, fun _ => ?_, fun z => by cases z⟩
    have ha := hT.at hin
    have hf := few_ok (c := (atT w (i + 1)).count s) (by have h1 := cnt_le_len (atT w (i + 1)) s; have h2 := atT_big h8 (i + 1); omega)
    obtain ⟨l', e, hT'⟩ := counts_behind_eq hT (atT_ne w (i + 1)) (fun t ht => atT_ok ht) (by have := atT_big h8 (i + 1); omega)
    rw [← atT_succ] at hT'
    sizeOf_list_dec
    refine .par (ds := [.dict (kvsS l'), natD (i + 1)]) (ρ1 := [.fz (webD w), .fz (stD s), .fz (.dict (kvsS (leadsL w))), .fz (natD i), .fz (.dict (kvsS l)), .no]) (by simp only [List.map_cons, List.map_nil]; array_get_dec) ?_
    exact ⟨k - 1, by omega, i + 1, l', by omega, hT', rfl⟩
  · rw [decide_eq_false hin] at hh
    have hiD : i = D := by
      by_cases z : i = D
      · exact z
      · exact (hin (atT_le (k := D - (i + 1)) (by rw [show i + 1 + (D - (i + 1)) = D by omega]; exact hD))).elim
    subst hiD
    exact ⟨false, _, by array_get_dec, (fun z => by cases z), fun _ => .ret (by array_get_dec) rfl⟩

set_option autoImplicit false
def lotsL : Nat → List (List Int)
  | 0 => [[]]
  | n + 1 => (lotsL n).map (· ++ [0]) ++ (lotsL n).map (· ++ [1])
theorem lots_len : ∀ n, (lotsL n).length = 2 ^ n
  | 0 => rfl
  | n + 1 => by
    show ((lotsL n).map _ ++ (lotsL n).map _).length = _
    rw [List.length_append, List.length_map, List.length_map, lots_len n, Nat.pow_succ]
    omega
theorem mem_lots : ∀ {n : Nat} {l : List Int}, l ∈ lotsL n ↔ l.length = n ∧ ∀ x ∈ l, x = 0 ∨ x = 1
  | 0, l => by
    show l ∈ [[]] ↔ _
    rw [List.mem_singleton]
    constructor
    · rintro rfl; exact ⟨rfl, by simp⟩
    · rintro ⟨h, _⟩; exact List.length_eq_zero_iff.mp h
  | n + 1, l => by
    show l ∈ (lotsL n).map _ ++ (lotsL n).map _ ↔ _
    rw [List.mem_append, List.mem_map, List.mem_map]
    constructor
    · rintro (⟨k, hk, rfl⟩ | ⟨k, hk, rfl⟩)
      · obtain ⟨h1, h2⟩ := mem_lots.mp hk
        refine ⟨by simp [h1], fun x hx => ?_⟩
        rcases List.mem_append.mp hx with z | z
        · exact h2 x z
        · exact .inl (List.mem_singleton.mp z)
      · obtain ⟨h1, h2⟩ := mem_lots.mp hk
        refine ⟨by simp [h1], fun x hx => ?_⟩
        rcases List.mem_append.mp hx with z | z
        · exact h2 x z
        · exact .inr (List.mem_singleton.mp z)
    · rintro ⟨h1, h2⟩
      have hne : l ≠ [] := by intro z; rw [z] at h1; cases h1
      have h3 : l.dropLast ∈ lotsL n := mem_lots.mpr ⟨by rw [List.length_dropLast, h1]; rfl, fun x hx => h2 x (List.dropLast_subset l hx)⟩
      rcases h2 _ (List.getLast_mem hne) with e | e
      · exact .inl ⟨l.dropLast, h3, by show l.dropLast ++ [0] = l; rw [← e]; exact List.dropLast_concat_getLast hne⟩
      · exact .inr ⟨l.dropLast, h3, by show l.dropLast ++ [1] = l; rw [← e]; exact List.dropLast_concat_getLast hne⟩
theorem lots_nodup : ∀ n, (lotsL n).Nodup
  | 0 => by show [([] : List Int)].Nodup; simp
  | n + 1 => by
    show ((lotsL n).map _ ++ (lotsL n).map _).Nodup
    have ih := lots_nodup n
    have hi : ∀ x : Int, ((lotsL n).map (· ++ [x])).Nodup := fun x => by
      unfold List.Nodup
      rw [List.pairwise_map]
      exact ih.imp fun h e => h (List.append_inj_left' e rfl)
    rw [List.nodup_append]
    refine ⟨hi 0, hi 1, ?_⟩
    intro a ha b hb e
    obtain ⟨x, _, rfl⟩ := List.mem_map.mp ha
    obtain ⟨y, _, rfl⟩ := List.mem_map.mp hb
    have := List.append_inj_right' e rfl
    simp at this
def elderL (n : Nat) (s lot : List Int) : List Int := (List.range n).map fun i => (mood s i - mood lot i) % 3
theorem elder_ok (n : Nat) (s lot : List Int) : StOk n (elderL n s lot) := ⟨by simp [elderL], fun x hx => by
  obtain ⟨i, _, rfl⟩ := List.mem_map.mp hx
  omega⟩
theorem mood_elder {n : Nat} {s lot : List Int} {i : Nat} (hi : i < n) : mood (elderL n s lot) i = (mood s i - mood lot i) % 3 := by
  rw [mood_eq (by simp [elderL]; exact hi)]
  simp [elderL]
theorem st_same {n : Nat} {s t : List Int} (hs : s.length = n) (ht : t.length = n) (h : ∀ i, i < n → mood s i = mood t i) : s = t := by
  refine List.ext_getElem (by omega) fun i h1 h2 => ?_
  have := h i (by omega)
  rwa [mood_eq h1, mood_eq h2] at this
def aheadL (w : Web) (s : List Int) : List (List Int) := (allS w.n).filter fun t => decide (nxt w t = s)
def foundL (w : Web) (s : List Int) (l : List (List Int)) : List (List Int) := (l.filter fun lot => decide (nxt w (elderL w.n s lot) = s)).map (elderL w.n s)
theorem found_pos {w : Web} {s lot : List Int} (l : List (List Int)) (h : nxt w (elderL w.n s lot) = s) : foundL w s (l ++ [lot]) = foundL w s l ++ [elderL w.n s lot] := by
  unfold foundL
  rw [List.filter_append, List.map_append]
  have : [lot].filter (fun lot => decide (nxt w (elderL w.n s lot) = s)) = [lot] := by simp [h]
  rw [this]
  rfl
theorem found_neg {w : Web} {s lot : List Int} (l : List (List Int)) (h : nxt w (elderL w.n s lot) ≠ s) : foundL w s (l ++ [lot]) = foundL w s l := by
  unfold foundL
  rw [List.filter_append]
  have : [lot].filter (fun lot => decide (nxt w (elderL w.n s lot) = s)) = [] := by simp [h]
  rw [this, List.append_nil]
theorem lot_mood {n : Nat} {l : List Int} (h : l ∈ lotsL n) (i : Nat) : mood l i = 0 ∨ mood l i = 1 := by
  obtain ⟨h1, h2⟩ := mem_lots.mp h
  by_cases hi : i < l.length
  · rw [mood_eq hi]
    exact h2 _ (List.getElem_mem hi)
  · unfold mood
    rw [List.getD_eq_getElem?_getD, List.getElem?_eq_none (by omega)]
    exact .inl rfl
theorem elder_inj {n : Nat} {s a b : List Int} (hs : StOk n s) (ha : a ∈ lotsL n) (hb : b ∈ lotsL n) (e : elderL n s a = elderL n s b) : a = b := by
  refine st_same (mem_lots.mp ha).1 (mem_lots.mp hb).1 fun i hi => ?_
  have h1 : mood (elderL n s a) i = mood (elderL n s b) i := by rw [e]
  rw [mood_elder hi, mood_elder hi] at h1
  rcases lot_mood ha i with h2 | h2 <;> rcases lot_mood hb i with h3 | h3 <;> omega
theorem mem_found {w : Web} {s : List Int} (hs : StOk w.n s) (t : List Int) : t ∈ foundL w s (lotsL w.n) ↔ t ∈ aheadL w s := by
  unfold foundL aheadL
  rw [List.mem_map, List.mem_filter]
  constructor
  · rintro ⟨lot, hl, rfl⟩
    obtain ⟨h1, h2⟩ := List.mem_filter.mp hl
    exact ⟨mem_allS.mpr (elder_ok _ _ _), h2⟩
  · rintro ⟨ht, h2⟩
    have ht := mem_allS.mp ht
    have e := of_decide_eq_true h2
    let lot : List Int := (List.range w.n).map fun i => if hot w t i = true then 1 else 0
    have hlot : lot ∈ lotsL w.n := mem_lots.mpr ⟨by simp [lot], fun x hx => by
      obtain ⟨i, _, rfl⟩ := List.mem_map.mp hx
      split
      · exact .inr rfl
      · exact .inl rfl⟩
    have hel : elderL w.n s lot = t := by
      refine st_same (elder_ok _ _ _).len ht.len fun i hi => ?_
      rw [mood_elder hi]
      have hm : mood lot i = if hot w t i = true then 1 else 0 := by
        rw [mood_eq (by simp [lot]; exact hi)]
        simp [lot]
      have h3 := mood_three ht i
      rw [hm, ← e, mood_nxt hi]
      split <;> omega
    exact ⟨lot, List.mem_filter.mpr ⟨hlot, by rw [hel]; exact h2⟩, hel⟩
theorem lt_app : ∀ {s t : List Int} (a b : List Int), s.length = t.length → s < t → s ++ a < t ++ b
  | [], [], _, _, _, h => absurd h (List.lt_irrefl _)
  | [], _ :: _, _, _, h, _ => by cases h
  | _ :: _, [], _, _, h, _ => by cases h
  | x :: s, y :: t, a, b, hl, h => by
    rw [List.cons_append, List.cons_append, List.cons_lt_cons_iff]
    rw [List.cons_lt_cons_iff] at h
    rcases h with h | ⟨h1, h2⟩
    · exact .inl h
    · exact .inr ⟨h1, lt_app a b (by simpa using hl) h2⟩
theorem lt_app_same : ∀ (s : List Int) {a b : List Int}, a < b → s ++ a < s ++ b
  | [], _, _, h => h
  | x :: s, a, b, h => by
    rw [List.cons_append, List.cons_append, List.cons_lt_cons_iff]
    exact .inr ⟨rfl, lt_app_same s h⟩
theorem one_lt {a b : Int} (h : a < b) : [a] < [b] := by rw [List.cons_lt_cons_iff]; exact .inl h
theorem allS_lt : ∀ n, (allS n).Pairwise (· < ·)
  | 0 => by show [([] : List Int)].Pairwise _; simp
  | n + 1 => by
    show ((allS n).flatMap three).Pairwise _
    have ih := allS_lt n
    have hl : ∀ s ∈ allS n, s.length = n := fun s hs => all_len hs
    revert ih hl
    generalize allS n = l
    intro ih hl
    induction l with
    | nil => simp
    | cons s l ihl =>
      rw [List.flatMap_cons, List.pairwise_append]
      obtain ⟨h1, h2⟩ := List.pairwise_cons.mp ih
      refine ⟨?_, ihl h2 (fun t ht => hl t (List.mem_cons_of_mem _ ht)), ?_⟩
      · unfold three
        simp only [List.pairwise_cons, List.mem_cons, List.not_mem_nil, or_false, forall_eq_or_imp, forall_eq, List.Pairwise.nil, and_true, false_implies, implies_true]
        exact ⟨⟨lt_app_same s (one_lt (by omega)), lt_app_same s (one_lt (by omega))⟩, lt_app_same s (one_lt (by omega))⟩
      · intro a ha b hb
        obtain ⟨m, _, _, rfl⟩ := mem_three.mp ha
        obtain ⟨t, ht, hb⟩ := List.mem_flatMap.mp hb
        obtain ⟨m', _, _, rfl⟩ := mem_three.mp hb
        exact lt_app _ _ (by rw [hl s List.mem_cons_self, hl t (List.mem_cons_of_mem _ ht)]) (h1 t ht)
theorem sort_found {w : Web} {s : List Int} (hs : StOk w.n s) : sortTs (foundL w s (lotsL w.n)) = aheadL w s := by
  have hle : ∀ a b : List Int, (PySem.W.dataLe false encT a b = true) ↔ a ≤ b := fun a b => by rw [le_T]; simp
  refine List.Perm.eq_of_pairwise (le := fun a b : List Int => a ≤ b) (fun a b _ _ h1 h2 => List.le_antisymm h1 h2) ?_ ?_ ?_
  · have := PySem.W.sort_pairwise (le := PySem.W.dataLe false encT) (PySem.W.sortLe_total _ _ _) (foundL w s (lotsL w.n))
    exact this.imp fun {a b} hh => (hle a b).mp hh
  · exact ((allS_lt w.n).filter _).imp fun h => List.le_of_lt h
  · refine (List.mergeSort_perm _ _).trans ?_
    refine (List.perm_ext_iff_of_nodup ?_ ?_).mpr fun b => mem_found hs b
    · unfold foundL List.Nodup
      rw [List.pairwise_map]
      refine ((lots_nodup w.n).filter _).imp_of_mem fun {a b} ha hb hab e => hab (elder_inj hs (List.mem_filter.mp ha).1 (List.mem_filter.mp hb).1 e)
    · exact (allS_nodup w.n).filter _
local macro_rules | `(tactic| decreasing_trivial_pre_omega) => `(tactic| first
  | with_reducible assumption)
theorem add_lot {s : List Int} (hn : s.length ≤ 1000) (m : Int) : dAdd (stD s) (.tuple [.int m]) = some (stD (s ++ [m])) := add_one (n := 0) hn m
theorem lots_of_eq {n : Nat} (h : n ≤ 10) : f_lots_of [.fz (natD n)] = .ok (.list ((lotsL n).map stD)) [] := by
  refine W.fn0 rfl ?_; unfold m_lots_of; simp only [Nat.reduceSub, List.replicate_succ, List.replicate_zero, List.cons_append, List.nil_append]
  sizeOf_list_dec
  refine .seq (W.forA (f := natD) (l := List.range n) (fun k ρ => ∃ x2, ρ = [.fz (natD n), .fz (.list ((lotsL k).map stD)), x2, .no]) (ρ0 := [.fz (natD n), .fz (.list [.tuple []]), .no, .no]) (by array_get_dec) (by exact ⟨.no, rfl⟩) ?_ ?_)
  · rintro i k _ e ⟨x2, rfl⟩
    have hi : i < n := by have := (List.getElem?_eq_some_iff.mp e).1; rw [List.length_range] at this; exact this
    have hl : (lotsL i).length ≤ 1024 := by rw [lots_len]; exact Nat.pow_le_pow_right (n := 2) (by omega) (show i ≤ 10 by omega)
    simp only [List.set_cons_zero, List.set_cons_succ]
    have hc : ∀ x : Int, mComp (iSeq (mVar 1)) (tmName 3) (bYes) (mOp2 dAdd (.sl 3) (.ex (mTup [mLit (.int x)]))) [3] [.fz (natD n), .fz (.list ((lotsL i).map stD)), .fz (natD k), .no] = .ok (.list (((lotsL i).map (· ++ [x])).map stD)) [.fz (natD n), .fz (.list ((lotsL i).map stD)), .fz (natD k), .no] := fun x => by
      rw [List.map_map]
      refine comp_all (f := stD) (ds := lotsL i) (stD ∘ (· ++ [x])) (ρ1 := [.fz (natD n), .fz (.list ((lotsL i).map stD)), .fz (natD k), .no]) (by array_get_dec) (.no rfl) (fun s hs => ?_) (by omega)
      have h1 := add_lot (s := s) (by have := (mem_lots.mp hs).1; omega) x
      simp only [List.set_cons_zero, List.set_cons_succ]
      exact op2_ok (d2 := .tuple [.int x]) (by array_get_dec) (by array_get_dec) rfl rfl h1
    have h0 := hc 0
    have h1 := hc 1
    have hcat : dCat (.list (((lotsL i).map (· ++ [0])).map stD)) (.list (((lotsL i).map (· ++ [1])).map stD)) = some (.list ((lotsL (i + 1)).map stD)) := by
      show (if (((lotsL i).map (· ++ [0])).map stD).length + (((lotsL i).map (· ++ [1])).map stD).length ≤ sizeLine then some (PyData.list (((lotsL i).map (· ++ [0])).map stD ++ ((lotsL i).map (· ++ [1])).map stD)) else none) = _
      rw [if_pos (by simp only [List.length_map]; unfold sizeLine; omega), ← List.map_append]
      rfl
    refine .set' (by array_get_dec) ⟨.fz (natD k), rfl⟩
  · rintro _ ⟨x2, rfl⟩
    rw [List.length_range]
    exact .ret (by array_get_dec) rfl
theorem ahead_in_eq {w : Web} (hw : w.Ok) {s : List Int} (hs : StOk w.n s) : f_ahead_in [.fz (nearD w), .fz (stD s), .fz (.list ((lotsL w.n).map stD))] = .ok (.list ((aheadL w s).map stD)) [] := by
  have hm := hw.most
  have hll : (lotsL w.n).length ≤ 1024 := by rw [lots_len]; exact Nat.pow_le_pow_right (n := 2) (by omega) (show w.n ≤ 10 by omega)
  refine W.fn0 rfl ?_; unfold m_ahead_in; simp only [Nat.reduceSub, List.replicate_succ, List.replicate_zero, List.cons_append, List.nil_append]
  sizeOf_list_dec
  refine .seq (W.forA (f := stD) (l := lotsL w.n) (fun j ρ => ∃ x4 x5, ρ = [.fz (nearD w), .fz (stD s), .fz (.list ((lotsL w.n).map stD)), .own (.list ((foundL w s ((lotsL w.n).take j)).map stD)), x4, x5, .no, .no]) (ρ0 := [.fz (nearD w), .fz (stD s), .fz (.list ((lotsL w.n).map stD)), .own (.list []), .no, .no, .no, .no]) (by array_get_dec) (by exact ⟨.no, .no, rfl⟩) ?_ ?_)
  · rintro j lot _ e ⟨x4, x5, rfl⟩
    have hlot := List.mem_of_getElem? e
    have hlen := (mem_lots.mp hlot).1
    have htk : (lotsL w.n).take (j + 1) = (lotsL w.n).take j ++ [lot] := by rw [List.take_add_one, e]; rfl
    simp only [List.set_cons_zero, List.set_cons_succ]
    have hz : zipD (s.map PyData.int) (lot.map PyData.int) = (List.range w.n).map fun i => .tuple [.int (mood s i), .int (mood lot i)] := by
      refine List.ext_getElem? fun i => ?_
      unfold zipD
      rw [List.getElem?_map, List.getElem?_map]
      by_cases hi : i < w.n
      · rw [List.getElem?_range hi]
        have e1 := mood_at (s := s) (i := i) (by rw [hs.len]; exact hi)
        have e2 := mood_at (s := lot) (i := i) (by rw [hlen]; exact hi)
        simp [List.getElem?_zip_eq_some, List.zip, List.getElem?_zipWith, e1, e2]
      · rw [List.getElem?_eq_none (by simp [hs.len, hlen]; omega), List.getElem?_eq_none (by simp; omega)]
        rfl
    have hc := mComp_gen (f := fun i => .tuple [.int (mood s i), .int (mood lot i)]) (it := iZip (mVar 1) (mVar 4)) (tm := tmTup [([6], tmName 6), ([7], tmName 7)]) (vs := [6, 7]) (cd := bYes) (elt := mOp2 dMod (.ex (mOp2 dSub (.sl 6) (.sl 7))) (.ex (mLit (.int 3)))) (fun _ => true) (fun i => .int ((mood s i - mood lot i) % 3))
      (ρ := [.fz (nearD w), .fz (stD s), .fz (.list ((lotsL w.n).map stD)), .own (.list ((foundL w s ((lotsL w.n).take j)).map stD)), .fz (stD lot), x5, .no, .no]) (ρ1 := [.fz (nearD w), .fz (stD s), .fz (.list ((lotsL w.n).map stD)), .own (.list ((foundL w s ((lotsL w.n).take j)).map stD)), .fz (stD lot), x5, .no, .no]) (ρ0 := [.fz (nearD w), .fz (stD s), .fz (.list ((lotsL w.n).map stD)), .own (.list ((foundL w s ((lotsL w.n).take j)).map stD)), .fz (stD lot), x5, .no, .no]) (ρ2 := [.fz (nearD w), .fz (stD s), .fz (.list ((lotsL w.n).map stD)), .own (.list ((foundL w s ((lotsL w.n).take j)).map stD)), .fz (stD lot), x5, .no, .no]) (ds := List.range w.n)
      (by
        rw [← hz]
        rfl) (by simp; omega) rfl (fun i _ => ⟨[.fz (nearD w), .fz (stD s), .fz (.list ((lotsL w.n).map stD)), .own (.list ((foundL w s ((lotsL w.n).take j)).map stD)), .fz (stD lot), x5, .fz (.int (mood s i)), .fz (.int (mood lot i))], rfl, rfl, fun _ => by simp [fnM, ownIx, backs, sRet, sSeq, sIf, sSet, sOwn, sDo, sNil, sAsg, Rs.sr, mOp2, Opd.ev, Opd.fin, at_, Sl.val, Rs.then, mLit, mVar, mB, mAnd, mOr, mNot, bAnd, bOr, bNot, mIf, bYes, mTup, mLst, evm, evo, fino, mFn, mCall, eva, sls, ioIx, putBack, Arg.opd, iSeq, iRng, fR1, fR2, sFor, tmName, tmTup, tmSeq, mApp, mExt, mPutAt, dPutAt, mIsi, dTy, isB, dEq, dNe, dLt, dLe, dGt, dGe, dIsN, dNotN, dAdd, dSub, dMod, dFdiv, dMul, dAt, dLen, dInt, dTuple, dList, mChain, sPar, setP], rfl⟩) rfl
    rw [List.filter_eq_self.mpr (fun _ _ => rfl)] at hc
    have hel : mFn dTuple [.ex (mComp (iZip (mVar 1) (mVar 4)) (tmTup [([6], tmName 6), ([7], tmName 7)]) (bYes) (mOp2 dMod (.ex (mOp2 dSub (.sl 6) (.sl 7))) (.ex (mLit (.int 3)))) [6, 7])] [.fz (nearD w), .fz (stD s), .fz (.list ((lotsL w.n).map stD)), .own (.list ((foundL w s ((lotsL w.n).take j)).map stD)), .fz (stD lot), x5, .no, .no] = .ok (stD (elderL w.n s lot)) [.fz (nearD w), .fz (stD s), .fz (.list ((lotsL w.n).map stD)), .own (.list ((foundL w s ((lotsL w.n).take j)).map stD)), .fz (stD lot), x5, .no, .no] := mFn_1 hc (by
      unfold elderL stD
      rw [List.map_map]
      rfl)
    refine .seq (.set' hel ?_)
    simp only [List.set_cons_zero, List.set_cons_succ]
    have hok := elder_ok w.n s lot
    have h1 := eq_st (nxt w (elderL w.n s lot)) s
    have hfl : (foundL w s ((lotsL w.n).take j)).length ≤ 1024 := by
      unfold foundL
      rw [List.length_map]
      have h2 := List.length_filter_le (fun lot => decide (nxt w (elderL w.n s lot) = s)) ((lotsL w.n).take j)
      rw [List.length_take] at h2
      omega
    by_cases hc : nxt w (elderL w.n s lot) = s
    · rw [decide_eq_true hc] at h1
      refine .ifT (by array_get_dec) (.app rfl (by array_get_dec) rfl (by rw [List.length_map]; omega) ⟨.fz (stD lot), .fz (stD (elderL w.n s lot)), ?_⟩)
      simp only [List.set_cons_zero, List.set_cons_succ]
      rw [htk, found_pos _ hc, List.map_append]
      rfl
    · rw [decide_eq_false hc] at h1
      refine .ifF (by array_get_dec) (.nil ⟨.fz (stD lot), .fz (stD (elderL w.n s lot)), ?_⟩)
      rw [htk, found_neg _ hc]
  · rintro _ ⟨x4, x5, rfl⟩
    rw [List.take_length]
    have hsT : dSortT [.list ((foundL w s (lotsL w.n)).map stD)] = some (.list ((aheadL w s).map stD)) := by
      rw [← sort_found hs]
      have hne : ∀ b ∈ foundL w s (lotsL w.n), b ≠ [] := fun b hb z => by
        have h1 := mem_allS.mp (List.mem_filter.mp ((mem_found hs b).mp hb)).1
        have h2 := h1.len
        have h3 := hw.pos
        rw [z] at h2
        have h2 : 0 = w.n := h2
        omega
      show (dTups ((foundL w s (lotsL w.n)).map encT)).map _ = _
      rw [dTups_of hne]
      rfl
    exact .ret (by array_get_dec) rfl
theorem ahead_eq {w : Web} (hw : w.Ok) {s : List Int} (hs : StOk w.n s) : f_ahead [.fz (webD w), .fz (stD s)] = .ok (.tuple ((aheadL w s).map stD)) [] := by
  have h1 := lots_of_eq hw.most
  have h2 := ahead_in_eq hw hs
  refine W.fn0 rfl ?_; unfold m_ahead; simp only [Nat.reduceSub, List.replicate_succ, List.replicate_zero, List.cons_append, List.nil_append]
  sizeOf_list_dec
  sizeOf_list_dec
  rfl

set_option autoImplicit false
section
variable {w : Web} {s : List Int}
theorem wk_path {a b k : Nat} {c : Int} (h : Wk w s a b k c) : ∃ X, PathF w a X ∧ X.length ≤ k ∧ sumF s a X = c := by
  induction h with
  | nil a => exact ⟨[], trivial, Nat.le_refl _, rfl⟩
  | stay _ ih =>
    obtain ⟨X, h1, h2, h3⟩ := ih
    exact ⟨X, h1, by omega, h3⟩
  | @go a b d k c e _ ih =>
    obtain ⟨X, h1, h2, h3⟩ := ih
    exact ⟨b :: X, ⟨e, h1⟩, by simp; omega, by show stp s a b + sumF s b X = _; rw [h3]⟩
theorem loop_in (hw : w.Ok) : ∀ {v : Nat} {X : List Nat}, PathF w v X → ¬ (v :: X).Nodup → ∃ P Y B, X = P ++ Y ++ endF v P :: B ∧ (endF v P :: Y).Nodup
  | v, [], _, h => (h (by simp)).elim
  | v, b :: r, hp, h => by
    by_cases hn : (b :: r).Nodup
    · have hm : v ∈ b :: r := by
        by_cases z : v ∈ b :: r
        · exact z
        · exact (h (List.nodup_cons.mpr ⟨z, hn⟩)).elim
      have hvb : v ≠ b := (Web.adj_lt hw hp.1).2.2
      have hr : v ∈ r := (List.mem_cons.mp hm).resolve_left hvb
      obtain ⟨X, Y, rfl⟩ := List.append_of_mem hr
      refine ⟨[], b :: X, Y, rfl, ?_⟩
      have h1 : (b :: X ++ v :: Y).Nodup := hn
      obtain ⟨h2, h3, h4⟩ := List.nodup_append.mp h1
      exact List.nodup_cons.mpr ⟨fun z => h4 v z v List.mem_cons_self rfl, h2⟩
    · obtain ⟨P, Y, B, e, hd⟩ := loop_in hw hp.2 hn
      exact ⟨b :: P, Y, B, by rw [e]; rfl, hd⟩
/-- a closed piece that pays is a ring -/
theorem piece (hw : w.Ok) {v : Nat} {P Y B : List Nat} (h : PathF w v (P ++ Y ++ endF v P :: B)) (hn : (endF v P :: Y).Nodup) :
    (rsumF s (endF v P) Y ≤ 0 ∨ RingF w (endF v P) Y) ∧ PathF w v (P ++ B) ∧ sumF s v (P ++ Y ++ endF v P :: B) = sumF s v (P ++ B) + rsumF s (endF v P) Y := by
  rw [List.append_assoc] at h
  obtain ⟨h1, h2⟩ := PathF.append.mp h
  obtain ⟨h3, h4⟩ := PathF.append.mp h2
  have h5 : w.adj (endF (endF v P) Y) (endF v P) = true := h4.1
  refine ⟨?_, PathF.append.mpr ⟨h1, h4.2⟩, ?_⟩
  · cases Y with
    | nil => exact ((Web.adj_lt hw h5).2.2 rfl).elim
    | cons y Y =>
      cases Y with
      | nil =>
        refine .inl ?_
        show stp s (endF v P) y + (stp s y (endF v P) + 0) ≤ 0
        have := stp_anti s (endF v P) y
        omega
      | cons z Y => exact .inr ⟨hn, by simp, h3, h5⟩
  · rw [List.append_assoc, sumF_append, sumF_append, sumF_append]
    have : rsumF s (endF v P) Y = sumF s (endF v P) Y + (stp s (endF (endF v P) Y) (endF v P) + 0) := by
      unfold rsumF
      rw [sumF_append]
      rfl
    rw [this]
    simp only [sumF]
    omega
theorem least_len {p : List Nat → Prop} (h : ∃ X, p X) : ∃ X, p X ∧ ∀ Y, p Y → X.length ≤ Y.length := by
  have key : ∀ n X, p X → X.length ≤ n → ∃ X, p X ∧ ∀ Y, p Y → X.length ≤ Y.length := fun n => by
    induction n with
    | zero => intro X h1 h2; exact ⟨X, h1, fun Y _ => by omega⟩
    | succ n ih =>
      intro X h1 h2
      by_cases hm : ∀ Y, p Y → X.length ≤ Y.length
      · exact ⟨X, h1, hm⟩
      · have ⟨Y, hY⟩ := Classical.not_forall.mp hm
        have ⟨hy, hl⟩ := Classical.not_imp.mp hY
        exact ih Y hy (by omega)
  obtain ⟨X, hX⟩ := h
  exact key _ X hX (Nat.le_refl _)
/-- the shortest of the walks that pay so much -/
theorem short_best (hw : w.Ok) (hs : StOk w.n s) (k v : Nat) : ∃ X, PathF w v X ∧ X.length ≤ k ∧ cnt w s k v ≤ sumF s v X ∧ ∀ P Y B, X = P ++ Y ++ endF v P :: B → (endF v P :: Y).Nodup → RingF w (endF v P) Y ∧ 0 < rsumF s (endF v P) Y ∧ PathF w v (P ++ B) ∧ sumF s v X = sumF s v (P ++ B) + rsumF s (endF v P) Y ∧ X.length = (P ++ B).length + (Y.length + 1) := by
  obtain ⟨b, hb⟩ := cnt_wk hw hs k v
  obtain ⟨X0, a1, a2, a3⟩ := wk_path hb
  obtain ⟨X, ⟨h1, h2, h3⟩, hmin⟩ := least_len (p := fun X => PathF w v X ∧ X.length ≤ k ∧ cnt w s k v ≤ sumF s v X) ⟨X0, a1, a2, by omega⟩
  refine ⟨X, h1, h2, h3, fun P Y B e hn => ?_⟩
  rw [e] at h1
  obtain ⟨q1, q2, q3⟩ := piece (s := s) hw h1 hn
  have hlen : X.length = (P ++ B).length + (Y.length + 1) := by rw [e]; simp; omega
  have hpos : 0 < rsumF s (endF v P) Y := by
    by_cases z : 0 < rsumF s (endF v P) Y
    · exact z
    · have := hmin (P ++ B) ⟨q2, by omega, by rw [e] at h3; omega⟩
      omega
  exact ⟨q1.resolve_left (by omega), hpos, q2, by rw [e]; exact q3, hlen⟩
theorem ring_few (hw : w.Ok) {a : Nat} {Y : List Nat} (h : RingF w a Y) : Y.length + 1 ≤ w.n := by
  have := nodup_le w.n (a :: Y) h.nd fun x hx => by
    rcases List.mem_cons.mp hx with rfl | hx
    · exact (Web.adj_lt hw h.back).2.1
    · exact h.path.lt hw hx
  simpa using this
theorem ring_at {a u : Nat} {Y : List Nat} (h : RingF w a Y) (hu : u ∈ a :: Y) : ∃ Z, RingF w u Z ∧ rsumF s u Z = rsumF s a Y ∧ Z.length = Y.length := by
  rcases List.mem_cons.mp hu with rfl | hu
  · exact ⟨Y, h, rfl, rfl⟩
  · obtain ⟨X1, Y1, rfl⟩ := List.append_of_mem hu
    obtain ⟨h1, h2⟩ := h.turn (s := s)
    exact ⟨_, h1, h2, by simp; omega⟩
theorem cut_at {v u : Nat} {X : List Nat} (hu : u ∈ v :: X) : ∃ A B, X = A ++ B ∧ endF v A = u := by
  rcases List.mem_cons.mp hu with rfl | hu
  · exact ⟨[], X, rfl, rfl⟩
  · obtain ⟨A, B, rfl⟩ := List.append_of_mem hu
    exact ⟨A ++ [u], B, by simp, by rw [endF_append]; rfl⟩
theorem two_nodup (hw : w.Ok) {l m : List Nat} (h1 : l.Nodup) (h2 : m.Nodup) (hl : ∀ x ∈ l, x < w.n) (hm : ∀ x ∈ m, x < w.n) (hd : ∀ x ∈ l, x ∉ m) : l.length + m.length ≤ w.n := by
  have := nodup_le w.n (l ++ m) (List.nodup_append.mpr ⟨h1, h2, fun a ha b hb e => hd a ha (e ▸ hb)⟩) fun x hx => (List.mem_append.mp hx).elim (hl x) (hm x)
  rwa [List.length_append] at this
end

set_option autoImplicit false
section
variable {w : Web} {s : List Int}
end

set_option autoImplicit false
section
variable {w : Web} {s : List Int}
theorem ring_36 (hw : w.Ok) (h6 : w.n ≤ 6) {a : Nat} {Y : List Nat} (h : RingF w a Y) (hp : 0 < rsumF s a Y) : rsumF s a Y = 3 ∨ (rsumF s a Y = 6 ∧ Y.length + 1 = 6) := by
  have h1 := rsum_mod s a Y
  have h2 := (h.wk (s := s)).le
  have h3 := ring_few hw h
  omega
theorem cnt_upto (k v : Nat) : ∀ j, cnt w s (k + j) v ≤ cnt w s k v + j
  | 0 => by simp
  | j + 1 => by
    have ih := cnt_upto k v j
    show cnt w s (k + j) v + (if hot w (runL w s (k + j)) v = true then 1 else 0) ≤ _
    split <;> omega
theorem ring_lt (hw : w.Ok) {a : Nat} {Y : List Nat} (hR : RingF w a Y) : ∀ x ∈ a :: Y, x < w.n := fun x hx => by
  rcases List.mem_cons.mp hx with rfl | hx
  · exact (Web.adj_lt hw hR.back).2.1
  · exact hR.path.lt hw hx
theorem loop_sub {v : Nat} {X P Y2 B : List Nat} (e : X = P ++ Y2 ++ endF v P :: B) : ∀ x ∈ endF v P :: Y2, x ∈ v :: X := fun x hx => by
  rw [e]
  rcases List.mem_cons.mp hx with rfl | hx
  · exact List.mem_cons_of_mem _ (List.mem_append_right _ List.mem_cons_self)
  · exact List.mem_cons_of_mem _ (List.mem_append_left _ (List.mem_append_right _ hx))
/-- a ring laid in so many times -/
theorem lay_in (hw : w.Ok) (hs : StOk w.n s) {k v u : Nat} {X Z : List Nat} (h1 : PathF w v X) (h2 : X.length ≤ k) (hc : cnt w s k v ≤ sumF s v X) (hu : u ∈ v :: X) (hZ : RingF w u Z) (m : Nat) : cnt w s k v + m * rsumF s u Z ≤ cnt w s (k + m * (Z.length + 1)) v := by
  obtain ⟨A, B, rfl, rfl⟩ := cut_at hu
  obtain ⟨p1, p2⟩ := PathF.append.mp h1
  have hwk := ((p1.wk (s := s)).append ((hZ.wk (s := s)).rounds m)).append (p2.wk (s := s))
  have h6 := cnt_ge hw hs hwk
  rw [sumF_append] at hc
  rw [List.length_append] at h2
  have h7 := cntM_mono (w := w) (s := s) (a := v) (show A.length + m * (Z.length + 1) + B.length ≤ k + m * (Z.length + 1) by omega)
  omega
theorem reach_ge (hw : w.Ok) (hs : StOk w.n s) {v : Nat} (hv : v < w.n) {a : Nat} {Y : List Nat} (hr : Reach w v a) (hR : RingF w a Y) (m : Nat) {k : Nat} (hk : w.n - 1 + m * (Y.length + 1) ≤ k) : m * rsumF s a Y - (w.n - 1 : Nat) ≤ cnt w s k v := by
  obtain ⟨P, r1, r2, r3⟩ := hr.path
  subst r3
  have hd := path_len hw hv r1 r2
  have hwk := (r2.wk (s := s)).append ((hR.wk (s := s)).rounds m)
  have h7 := cnt_ge hw hs hwk
  have h8 := (r2.wk (s := s)).le
  have h9 := cntM_mono (w := w) (s := s) (a := v) (show P.length + m * (Y.length + 1) ≤ k by omega)
  omega
theorem six_one (hw : w.Ok) (h6 : w.n ≤ 6) (hs : StOk w.n s) {v : Nat} (hv : v < w.n) {a : Nat} {Y : List Nat} (hr : Reach w v a) (hR : RingF w a Y) (h1' : rsumF s a Y = (Y.length : Int) + 1) {k : Nat} (hk : 40 ≤ k) : cnt w s (k + 60) v = cnt w s k v + 60 := by
  have hup := cnt_upto (w := w) (s := s) k v 60
  have hL2 := hR.len
  have hLn := ring_few hw hR
  obtain ⟨X, h1, h2, hc, hloop⟩ := short_best hw hs k v
  have hltX : ∀ x ∈ v :: X, x < w.n := fun x hx => by
    rcases List.mem_cons.mp hx with rfl | hx
    · exact hv
    · exact h1.lt hw hx
  have hcrit : ∃ u Z, u ∈ v :: X ∧ RingF w u Z ∧ rsumF s u Z = (Z.length : Int) + 1 := by
    by_cases hmeet : ∃ u, u ∈ v :: X ∧ u ∈ a :: Y
    · obtain ⟨u, hu1, hu2⟩ := hmeet
      obtain ⟨Z, z1, z2, z3⟩ := ring_at (s := s) hR hu2
      exact ⟨u, Z, hu1, z1, by rw [z2, z3]; exact h1'⟩
    · have hdis : ∀ x ∈ v :: X, x ∉ a :: Y := fun x hx z => hmeet ⟨x, hx, z⟩
      by_cases hnd : (v :: X).Nodup
      · exfalso
        have a1 := path_len hw hv hnd h1
        have a2 := (h1.wk (s := s)).le
        have a3 := reach_ge (s := s) hw hs hv hr hR 4 (k := k) (by omega)
        omega
      · obtain ⟨P, Y2, B, e, hn⟩ := loop_in hw h1 hnd
        obtain ⟨q1, q2, _⟩ := hloop P Y2 B e hn
        have hsub := loop_sub e
        have := two_nodup hw hn hR.nd (fun x hx => hltX x (hsub x hx)) (ring_lt hw hR) (fun x hx => hdis x (hsub x hx))
        have a1 := q1.len
        simp only [List.length_cons] at this
        have a2 := rsum_mod s (endF v P) Y2
        have a3 := (q1.wk (s := s)).le
        exact ⟨endF v P, Y2, hsub _ List.mem_cons_self, q1, by omega⟩
  obtain ⟨u, Z, hu, hZ, hz⟩ := hcrit
  have b1 := rsum_mod s u Z
  have b2 := ring_few hw hZ
  have b3 := hZ.len
  have hl : Z.length + 1 = 3 ∨ Z.length + 1 = 6 := by omega
  rcases hl with e | e
  · have := lay_in hw hs h1 h2 hc hu hZ 20
    rw [e, show k + 20 * 3 = k + 60 by omega] at this
    omega
  · have := lay_in hw hs h1 h2 hc hu hZ 10
    rw [e, show k + 10 * 6 = k + 60 by omega] at this
    omega
theorem six_period (hw : w.Ok) (h6 : w.n ≤ 6) (hs : StOk w.n s) {v : Nat} (hv : v < w.n) {k : Nat} (hk : 40 ≤ k) : (cnt w s (k + 60) v - cnt w s k v) % 3 = 0 := by
  by_cases hone : ∃ Y a, Reach w v a ∧ RingF w a Y ∧ rsumF s a Y = (Y.length : Int) + 1
  · obtain ⟨Y, a, hr, hR, h1⟩ := hone
    have := six_one (s := s) hw h6 hs hv hr hR h1 hk
    omega
  by_cases hex : ∃ Y a, Reach w v a ∧ RingF w a Y ∧ 0 < rsumF s a Y
  · have h3 : ∀ a Y, Reach w v a → RingF w a Y → 0 < rsumF s a Y → rsumF s a Y = 3 ∧ 4 ≤ Y.length + 1 := fun a Y hr hR hp => by
      have b3 := hR.len
      rcases ring_36 (s := s) hw h6 hR hp with e | ⟨e, e2⟩
      · refine ⟨e, ?_⟩
        by_cases z : Y.length + 1 = 3
        · exact (hone ⟨Y, a, hr, hR, by omega⟩).elim
        · omega
      · exact (hone ⟨Y, a, hr, hR, by omega⟩).elim
    obtain ⟨Y, ⟨a, hr, hR, hp⟩, hmin⟩ := least_len hex
    obtain ⟨hY3, hY4⟩ := h3 a Y hr hR hp
    have hLn := ring_few hw hR
    have step : ∀ j, 40 ≤ j → cnt w s (j + (Y.length + 1)) v = cnt w s j v + 3 := fun j hj => by
      have hup : cnt w s (j + (Y.length + 1)) v ≤ cnt w s j v + 3 := by
        obtain ⟨X, h1, h2, hc, hloop⟩ := short_best hw hs (j + (Y.length + 1)) v
        by_cases hx : X.length ≤ j
        · have a1 := cnt_ge hw hs (h1.wk (s := s))
          have a2 := cntM_mono (w := w) (s := s) (a := v) hx
          omega
        · have hnd : ¬ (v :: X).Nodup := fun z => by
            have := path_len hw hv z h1
            omega
          obtain ⟨P, Y2, B, e, hn⟩ := loop_in hw h1 hnd
          obtain ⟨q1, q2, q3, q4, q5⟩ := hloop P Y2 B e hn
          have hr2 : Reach w v (endF v P) := by
            have : PathF w v P := (PathF.append.mp ((PathF.append.mp (e ▸ h1)).1)).1
            exact this.reach (endF_mem v P)
          have a1 := hmin Y2 ⟨_, hr2, q1, q2⟩
          have a2 := (h3 _ _ hr2 q1 q2).1
          have a3 := cnt_ge hw hs (q3.wk (s := s))
          have a4 := cntM_mono (w := w) (s := s) (a := v) (show (P ++ B).length ≤ j by omega)
          omega
      have hdown : cnt w s j v + 3 ≤ cnt w s (j + (Y.length + 1)) v := by
        obtain ⟨X, h1, h2, hc, hloop⟩ := short_best hw hs j v
        have hltX : ∀ x ∈ v :: X, x < w.n := fun x hx => by
          rcases List.mem_cons.mp hx with rfl | hx
          · exact hv
          · exact h1.lt hw hx
        by_cases hmeet : ∃ u, u ∈ v :: X ∧ u ∈ a :: Y
        · obtain ⟨u, hu1, hu2⟩ := hmeet
          obtain ⟨Z, z1, z2, z3⟩ := ring_at (s := s) hR hu2
          have := lay_in hw hs h1 h2 hc hu1 z1 1
          rw [z2, z3, hY3, Nat.one_mul] at this
          omega
        · exfalso
          have hdis : ∀ x ∈ v :: X, x ∉ a :: Y := fun x hx z => hmeet ⟨x, hx, z⟩
          have hshort : X.length ≤ 1 := by
            by_cases hnd : (v :: X).Nodup
            · have := two_nodup hw hnd hR.nd hltX (ring_lt hw hR) hdis
              simp only [List.length_cons] at this
              omega
            · obtain ⟨P, Y2, B, e, hn⟩ := loop_in hw h1 hnd
              obtain ⟨q1, _⟩ := hloop P Y2 B e hn
              have hsub := loop_sub e
              have := two_nodup hw hn hR.nd (fun x hx => hltX x (hsub x hx)) (ring_lt hw hR) (fun x hx => hdis x (hsub x hx))
              have a1 := q1.len
              simp only [List.length_cons] at this
              omega
          have a2 := (h1.wk (s := s)).le
          have a3 := reach_ge (s := s) hw hs hv hr hR 3 (k := j) (by omega)
          omega
      omega
    have many : ∀ m : Nat, cnt w s (k + m * (Y.length + 1)) v = cnt w s k v + 3 * m := fun m => by
      induction m with
      | zero => simp
      | succ m ih =>
        have := step (k + m * (Y.length + 1)) (by omega)
        rw [show k + (m + 1) * (Y.length + 1) = k + m * (Y.length + 1) + (Y.length + 1) by rw [Nat.succ_mul]; omega, this, ih]
        omega
    have hL : Y.length + 1 = 4 ∨ Y.length + 1 = 5 ∨ Y.length + 1 = 6 := by omega
    rcases hL with e | e | e
    · have := many 15; rw [e, show k + 15 * 4 = k + 60 by omega] at this; omega
    · have := many 12; rw [e, show k + 12 * 5 = k + 60 by omega] at this; omega
    · have := many 10; rw [e, show k + 10 * 6 = k + 60 by omega] at this; omega
  · have slow : ∀ j, cnt w s j v ≤ cnt w s (w.n - 1) v := fun j => by
      obtain ⟨X, h1, h2, hc, hloop⟩ := short_best hw hs j v
      by_cases hnd : (v :: X).Nodup
      · have a1 := cnt_ge hw hs (h1.wk (s := s))
        have a2 := cntM_mono (w := w) (s := s) (a := v) (path_len hw hv hnd h1)
        omega
      · obtain ⟨P, Y2, B, e, hn⟩ := loop_in hw h1 hnd
        obtain ⟨q1, q2, _⟩ := hloop P Y2 B e hn
        have hr : Reach w v (endF v P) := by
          have : PathF w v P := (PathF.append.mp ((PathF.append.mp (e ▸ h1)).1)).1
          exact this.reach (endF_mem v P)
        exact (hex ⟨Y2, _, hr, q1, q2⟩).elim
    have h1 := slow (k + 60)
    have h2 := cntM_mono (w := w) (s := s) (a := v) (show w.n - 1 ≤ k by omega)
    have h3 := cntM_mono (w := w) (s := s) (a := v) (show k ≤ k + 60 by omega)
    omega
theorem six_round (hw : w.Ok) (h6 : w.n ≤ 6) (hs : StOk w.n s) {k : Nat} (hk : 40 ≤ k) : runL w s (k + 60) = runL w s k := by
  refine st_same (run_ok hs _).len (run_ok hs _).len fun v hv => ?_
  have h1 := mood_run (w := w) hs hv (k + 60)
  have h2 := mood_run (w := w) hs hv k
  have h3 := six_period (s := s) hw h6 hs hv hk
  omega
theorem six_endless {u : List Int} (hw : w.Ok) (h6 : w.n ≤ 6) {m : Nat} (hm : 100 ≤ m) (h : u ∈ atT w m) : Endless w u := by
  obtain ⟨t, ht, rfl⟩ := mem_atT.mp h
  exact endless_of (i := 40) (j := 100) (by omega) hm (six_round hw h6 ht (Nat.le_refl _)).symm
end

set_option autoImplicit false
section
variable {w : Web}
theorem hot_same {s t : List Int} {u : Nat} (h : mood s u = mood t u) (hj : ∀ j, w.adj u j = true → mood s j = mood t j) : hot w s u = hot w t u := by
  unfold hot
  rw [Bool.eq_iff_iff, List.any_eq_true, List.any_eq_true]
  have key : ∀ j, j ∈ w.nbr u → stp s u j = stp t u j := fun j hm => by
    unfold stp
    rw [h, hj j (List.mem_filter.mp hm).2]
  constructor
  · rintro ⟨j, hm, e⟩
    exact ⟨j, hm, by rw [← key j hm]; exact e⟩
  · rintro ⟨j, hm, e⟩
    exact ⟨j, hm, by rw [key j hm]; exact e⟩
theorem light (hw : w.Ok) {s t : List Int} {v : Nat} (hd : ∀ u, u ≠ v → mood s u = mood t u) : ∀ (k u : Nat), u < w.n → mood (runL w s k) u ≠ mood (runL w t k) u → ∃ m, m ≤ k ∧ Walk w v u m
  | 0, u, _, h => by
    by_cases e : u = v
    · subst e
      exact ⟨0, Nat.le_refl _, .here _⟩
    · exact (h (hd u e)).elim
  | k + 1, u, hu, h => by
    by_cases h1 : mood (runL w s k) u = mood (runL w t k) u
    · by_cases h2 : ∀ j, w.adj u j = true → mood (runL w s k) j = mood (runL w t k) j
      · refine (h ?_).elim
        have a1 := mood_nxt (w := w) (s := runL w s k) hu
        have a2 := mood_nxt (w := w) (s := runL w t k) hu
        show mood (nxt w (runL w s k)) u = mood (nxt w (runL w t k)) u
        rw [a1, a2, hot_same h1 h2, h1]
      · have ⟨j, h3⟩ := Classical.not_forall.mp h2
        have ⟨h4, h5⟩ := Classical.not_imp.mp h3
        obtain ⟨m, hm, hk⟩ := light hw hd k j (Web.adj_lt hw h4).2.1 h5
        exact ⟨m + 1, by omega, .on hk (by rw [Web.adj_comm]; exact h4)⟩
    · obtain ⟨m, hm, hk⟩ := light hw hd k u hu h1
      exact ⟨m, by omega, hk⟩
end
local macro_rules | `(tactic| decreasing_trivial_pre_omega) => `(tactic| first
  | with_reducible assumption)
theorem changes_eqN {w : Web} (hw : w.Ok) {s : List Int} (hs : StOk w.n s) {g : Nat} (hg : g ≤ 1000000000000000000000000000000) : f_changes [.fz (webD w), .fz (stD s), .fz (natD g)] = .ok (stD (cntL w s g)) [] := by
  have h1 : f_need_number [.fz (natD g), .fz (.int 0), .fz (.int 1000000000000000000000000000000)] = .ok .none [] := need_number_ok (by omega) (by omega)
  have h2 := changes_in_eq hw hs (many := g) (Nat.lt_of_le_of_lt hg (by decide))
  refine W.fn0 rfl ?_; unfold m_changes; simp only [Nat.reduceSub, List.replicate_succ, List.replicate_zero, List.cons_append, List.nil_append]
  sizeOf_list_dec
  sizeOf_list_dec
  sizeOf_list_dec
  rfl
theorem mood_cntL' {w : Web} {s : List Int} {k v : Nat} (hv : v < w.n) : mood (cntL w s k) v = cnt w s k v := by
  unfold cntL
  rw [mood_eq (by simp; exact hv)]
  simp
theorem state_at_eq {w : Web} (hw : w.Ok) {s : List Int} (hs : StOk w.n s) {g : Nat} (hg : g ≤ 1000000000000000000000000000000) : f_state_at [.fz (webD w), .fz (stD s), .fz (natD g)] = .ok (stD (runL w s g)) [] := by
  have h1 : f_need_number [.fz (natD g), .fz (.int 0), .fz (.int 1000000000000000000000000000000)] = .ok .none [] := need_number_ok (by omega) (by omega)
  have h2 := changes_in_eq hw hs (many := g) (Nat.lt_of_le_of_lt hg (by decide))
  have hm := hw.most
  have hc : (cntL w s g).length = w.n := by simp [cntL]
  have h3 : f_state_in [.fz (webD w), .fz (stD s), .fz (natD g)] = .ok (stD (runL w s g)) [] := by
    refine W.fn0 rfl ?_; unfold m_state_in; simp only [Nat.reduceSub, List.replicate_succ, List.replicate_zero, List.cons_append, List.nil_append]
    sizeOf_list_dec
    have hcc : mComp (iRng fR1 [.ex (mOp2 dAt (.sl 0) (.ex (mLit (.int 0))))]) (tmName 4) (bYes) (mOp2 dMod (.ex (mOp2 dAdd (.ex (mOp2 dAt (.sl 1) (.sl 4))) (.ex (mOp2 dAt (.sl 3) (.sl 4))))) (.ex (mLit (.int 3)))) [4] [.fz (webD w), .fz (stD s), .fz (natD g), .fz (stD (cntL w s g)), .no] = .ok (.list ((runL w s g).map PyData.int)) [.fz (webD w), .fz (stD s), .fz (natD g), .fz (stD (cntL w s g)), .no] := by
      have e : (runL w s g).map PyData.int = (List.range w.n).map fun v => PyData.int (mood (runL w s g) v) := by
        refine List.ext_getElem (by rw [List.length_map, (run_ok hs g).len]; simp) fun i h1 h2 => ?_
        rw [List.getElem_map, List.getElem_map, List.getElem_range, mood_eq]
      rw [e]
      refine comp_all (f := natD) (ds := List.range w.n) _ (ρ1 := [.fz (webD w), .fz (stD s), .fz (natD g), .fz (stD (cntL w s g)), .no]) (by array_get_dec) (.no rfl) (fun v hv => ?_) (by simp; omega)
      have hv := List.mem_range.mp hv
      have a1 : dAt (stD (cntL w s g)) (natD v) = some (.int (cnt w s g v)) := by rw [st_at (by omega), mood_cntL' hv]
      have a2 : dMod (.int (mood s v + cnt w s g v)) (.int 3) = some (.int (mood (runL w s g) v)) := by
        rw [mood_run (w := w) hs hv g]
        rfl
      have a3 : dAdd (.int (mood s v)) (.int (cnt w s g v)) = some (.int (mood s v + cnt w s g v)) := rfl
      simp only [List.set_cons_zero, List.set_cons_succ]
      array_get_dec
    exact .ret (mFn_1 hcc rfl) rfl
  refine W.fn0 rfl ?_; unfold m_state_at; simp only [Nat.reduceSub, List.replicate_succ, List.replicate_zero, List.cons_append, List.nil_append]
  sizeOf_list_dec
  sizeOf_list_dec
  sizeOf_list_dec
  rfl

set_option autoImplicit false
/-- the states that so many ticks lead to s -/
def layL (w : Web) (s : List Int) (d : Nat) : List (List Int) := (allS w.n).filter fun t => decide (runL w t d = s)
theorem lay_len (w : Web) (s : List Int) (d : Nat) : (atT w d).count s = (layL w s d).length := by
  unfold atT layL
  rw [List.count_eq_countP, List.countP_map, List.countP_eq_length_filter]
  congr 1
  refine List.filter_congr fun t _ => ?_
  show (runL w t d == s) = decide (runL w t d = s)
  rw [Bool.eq_iff_iff]
  simp
theorem has_stT (l : List (List Int)) (t : List Int) : dHas (stD t) (.tuple (l.map stD)) = some (decide (t ∈ l)) := by
  have h1 : okD (.tuple (l.map stD)) = true := (Shp.tup Shp.st l).ok
  show (if (okD (stD t) && okD (.tuple (l.map stD))) = true then some (inAny (l.map stD) (stD t)) else none) = _
  rw [okSt, h1, inAny_map eqv_st]
  simp
theorem notin_stT (l : List (List Int)) (t : List Int) : dNotIn (stD t) (.tuple (l.map stD)) = some (.bool (!decide (t ∈ l))) := by
  show (dHas _ _).map _ = _
  rw [has_stT]
  rfl
theorem ne_st (s t : List Int) : dNe (stD s) (stD t) = some (.bool (!decide (s = t))) := by
  unfold dNe
  rw [okSt, okSt, eqv_st]
  rfl
theorem ne_natstr {x : Str} (h : PyData.strOk x = true) (n : Nat) : dNe (natD n) (.str x) = some (.bool true) ∧ dEq (natD n) (.str x) = some (.bool false) := by
  have h1 : okD (natD n) = true := okI n
  have h2 : PyData.eqv (natD n) (.str x) = false := by unfold natD; simp only [PyData.eqv]
  unfold dNe dEq
  rw [h1, okStr1 h, h2]
  exact ⟨rfl, rfl⟩
theorem cut_4 (ds : List D) : dCut (.tuple ds) none (some ((4 : Nat) : Int)) = some (.tuple (ds.take 4)) := by
  show some (PyData.tuple ((ds.drop (HT.sIx ds.length 0 none)).take (HT.sIx ds.length ds.length (some ((4 : Nat) : Int)) - HT.sIx ds.length 0 none))) = _
  rw [HT.sIx_none, HT.sIx_nat, List.drop_zero, Nat.sub_zero]
  by_cases h : 4 ≤ ds.length
  · rw [Nat.min_eq_left h]
  · rw [Nat.min_eq_right (by omega), List.take_of_length_le (Nat.le_refl _), List.take_of_length_le (by omega)]
theorem becomes_01 {w : Web} (hw : w.Ok) {e : List Int} (he : StOk w.n e) : ∃ r, f_becomes [.fz (webD w), .fz (stD e), .fz (stD (nxt w e))] = .ok r [] ∧ (r = natD 0 ∨ r = natD 1) := by
  obtain ⟨N, f, hr⟩ := rnd_ex hw he
  obtain ⟨r, e1, hB⟩ := becomes_eq hw he (nxt_ok he) hr
  refine ⟨r, e1, ?_⟩
  have hlt := hr.lt
  rcases hB with ⟨hno, _⟩ | ⟨i, hi, ei, rfl⟩
  · refine (hno (mem_rowS.mpr ?_)).elim
    by_cases h2 : 2 ≤ N
    · exact ⟨1, by omega, rfl⟩
    · have hN : N = 1 := by omega
      subst hN
      have hf : f = 0 := by omega
      subst hf
      exact ⟨0, by omega, hr.eq.symm⟩
  · by_cases h2 : i ≤ 1
    · rcases (by omega : i = 0 ∨ i = 1) with rfl | rfl
      · exact .inl rfl
      · exact .inr rfl
    · exact (hr.df 1 i (by omega) hi ei.symm).elim
theorem chg_len {w : Web} {s : List Int} (hs : StOk w.n s) {v : Nat} (hv : v < w.n) : ∀ j : Nat, ((((List.range j).filter fun k => !decide ([mood (runL w s k) v] = [mood (runL w s (k + 1)) v])).length : Nat) : Int) = cnt w s j v
  | 0 => rfl
  | j + 1 => by
    have ih := chg_len hs hv j
    rw [List.range_succ, List.filter_append, List.length_append, Int.natCast_add, ih]
    show _ = cnt w s j v + if hot w (runL w s j) v = true then 1 else 0
    have h1 : mood (runL w s (j + 1)) v = if hot w (runL w s j) v = true then (mood (runL w s j) v + 1) % 3 else mood (runL w s j) v := mood_nxt hv
    have h2 := mood_three (run_ok hs (w := w) j) v
    by_cases hh : hot w (runL w s j) v = true
    · rw [if_pos hh] at h1 ⊢
      have hne : ¬ ([mood (runL w s j) v] = [mood (runL w s (j + 1)) v]) := fun z => by
        have := List.cons.inj z
        omega
      rw [List.filter_cons_of_pos (by simp only [decide_eq_false hne]; rfl)]
      rfl
    · rw [if_neg hh] at h1 ⊢
      rw [List.filter_cons_of_neg (by rw [h1]; simp)]
      rfl
theorem mood_tell {w : Web} {s : List Int} {v T k : Nat} (hk : k ≤ T) : mood (tell w s v T) k = mood (runL w s k) v := by
  unfold tell
  rw [mood_eq (by simp; omega)]
  simp
local macro_rules | `(tactic| decreasing_trivial_pre_omega) => `(tactic| first
  | with_reducible assumption)
theorem law_true (ns : List Int) (hl : ns.length ≤ 63) (hb : ∀ z ∈ ns, Builtin.Int.intBits z ≤ 1048576) : f_law [.fz (scrD ns)] = .ok (.bool true) [] := by
  have r0 : RowOk ns (rowD ns 0 15570 0) := ⟨0, 15570, 0, rfl, by omega, by omega, by omega⟩
  obtain ⟨w, d1, e1, hw, hn6, r1⟩ := web_drawn r0 (most := 6) (by omega) (by omega)
  have hn := hw.pos
  have h6 : w.n ≤ 6 := by omega
  obtain ⟨s, d2, e2, hs, r2⟩ := state_drawn r1 hw
  obtain ⟨x, d3, e3, v0, v1, r3⟩ := taken r2 (m := w.n) (by omega) (by omega)
  obtain ⟨v, rfl⟩ : ∃ i : Nat, x = i := ⟨x.toNat, by omega⟩
  have hv : v < w.n := by omega
  obtain ⟨x, d4, e4, x0, x1, r4⟩ := taken r3 (m := 6) (by omega) (by omega)
  obtain ⟨K, rfl⟩ : ∃ i : Nat, x = i := ⟨x.toNat, by omega⟩
  have hK : K < 6 := by omega
  obtain ⟨m, d5, e5, m0, m1, r5⟩ := taken r4 (m := 3) (by omega) (by omega)
  have e3' : f__law_taken [.own d2, .fz (natD w.n)] = .ok (natD v) [d3] := e3
  have e4' : f__law_taken [.own d3, .fz (.int 6)] = .ok (natD K) [d4] := e4
  refine W.fn0 rfl ?_
  unfold m_law
  refine .seq (.own (d := rowD ns 0 15570 0) (ρ' := [.fz (scrD ns), .no, .no, .no, .no, .no, .no, .no, .no, .no, .no, .no, .no, .no, .no, .no, .no]) rfl ?_)
  simp only [List.set_cons_zero, List.set_cons_succ]
  sizeOf_list_dec
  refine .seq (.parT (ds := [stD s, natD v, natD K]) (ρ2 := [.fz (scrD ns), .own d4, .fz (webD w), .fz (stD s), .fz (natD v), .fz (natD K), .no, .no, .no, .no, .no, .no, .no, .no, .no, .no, .no]) (by simp only [List.map_cons, List.map_nil]; array_get_dec) rfl ?_)
  obtain ⟨t, ht⟩ : ∃ t, t = s.take v ++ [m] ++ s.drop (v + 1) := ⟨_, rfl⟩
  have hsl := hs.len
  have c1 : dCut (stD s) none (some (v : Int)) = some (stD (s.take v)) := by
    unfold stD
    rw [cut_loT (by rw [List.length_map]; omega), List.map_take]
  have c2 : dCut (stD s) (some ((v + 1 : Nat) : Int)) none = some (stD (s.drop (v + 1))) := by
    unfold stD
    rw [cut_hiT (by rw [List.length_map]; omega), List.map_drop]
  have c3 : dAdd (stD (s.take v)) (.tuple [.int m]) = some (stD (s.take v ++ [m])) := add_one (n := 0) (by rw [List.length_take]; omega) m
  have c4 : dAdd (stD (s.take v ++ [m])) (stD (s.drop (v + 1))) = some (stD t) := by rw [ht]; exact cat_st (by simp; omega)
  have htk : StOk w.n t := ⟨by rw [ht]; simp; omega, fun x hx => by
    rw [ht] at hx
    rcases List.mem_append.mp hx with z | z
    · rcases List.mem_append.mp z with z | z
      · exact hs.three x (List.mem_of_mem_take z)
      · cases List.mem_singleton.mp z; exact ⟨m0, m1⟩
    · exact hs.three x (List.mem_of_mem_drop z)⟩
  have hdiff : ∀ u, u ≠ v → mood s u = mood t u := fun u hu => by
    unfold mood
    rw [ht, List.getD_eq_getElem?_getD, List.getD_eq_getElem?_getD]
    congr 1
    rcases Nat.lt_or_gt_of_ne hu with h | h
    · rw [List.append_assoc, List.getElem?_append_left (by rw [List.length_take]; omega), List.getElem?_take_of_lt h]
    · rw [List.getElem?_append_right (by simp; omega), List.getElem?_drop]
      congr 1
      simp
      omega
  refine .seq (.set' (d := stD t) (ρ' := [.fz (scrD ns), .own d5, .fz (webD w), .fz (stD s), .fz (natD v), .fz (natD K), .no, .no, .no, .no, .no, .no, .no, .no, .no, .no, .no]) (by array_get_dec) ?_)
  simp only [List.set_cons_zero, List.set_cons_succ]
  have hrs := run_eq hw hs (m := K) (by omega)
  have hrt := run_eq hw htk (m := K) (by omega)
  have hat : ∀ (u : List Int) (j : Nat), j ≤ K → dAt (.tuple ((List.range (K + 1)).map fun k => stD (runL w u k))) (natD j) = some (stD (runL w u j)) := fun u j hj => by
    rw [at_T, List.getElem?_map, List.getElem?_range (by omega)]
    rfl
  have a1 := hat s K (Nat.le_refl _)
  have a2 := hat t K (Nat.le_refl _)
  refine .seq (.par (ds := [stD (runL w s K), stD (runL w t K)]) (ρ1 := [.fz (scrD ns), .own d5, .fz (webD w), .fz (stD s), .fz (natD v), .fz (natD K), .fz (stD t), .no, .no, .no, .no, .no, .no, .no, .no, .no, .no]) (by simp only [List.map_cons, List.map_nil]; array_get_dec) ?_)
  simp only [setP, List.set_cons_zero, List.set_cons_succ, List.map_cons, List.map_nil, Bool.false_eq_true, if_false, if_true]
  have hh := run_ok hs (w := w) K
  have hh' := run_ok htk (w := w) K
  refine .seq (.forA (f := natD) (l := List.range w.n) (fun i ρ => ∃ x9 x10, (∀ y, x9 ≠ .own y) ∧ ρ = [.fz (scrD ns), .own d5, .fz (webD w), .fz (stD s), .fz (natD v), .fz (natD K), .fz (stD t), .fz (stD (runL w s K)), .fz (stD (runL w t K)), x9, x10, .no, .no, .no, .no, .no, .no]) (ρ0 := [.fz (scrD ns), .own d5, .fz (webD w), .fz (stD s), .fz (natD v), .fz (natD K), .fz (stD t), .fz (stD (runL w s K)), .fz (stD (runL w t K)), .no, .no, .no, .no, .no, .no, .no, .no]) (by array_get_dec) (by exact ⟨.no, .no, (fun y z => nomatch z), rfl⟩) ?_ ?_)
  · rintro i k _ e ⟨x9, x10, _, rfl⟩
    obtain ⟨hi, e'⟩ := List.getElem?_eq_some_iff.mp e
    rw [List.length_range] at hi
    rw [List.getElem_range] at e'
    subst e'
    simp only [List.set_cons_zero, List.set_cons_succ]
    obtain ⟨o, ho, hfar⟩ := far_eq hw hv hi
    sizeOf_list_dec
    have b1 := ne_int (mood (runL w s K) i) (mood (runL w t K) i)
    have htest : (bAnd (mB (mOp2 dNe (.ex (mOp2 dAt (.sl 7) (.sl 9))) (.ex (mOp2 dAt (.sl 8) (.sl 9))))) (bOr (mB (mOp2 dIsN (.sl 10) (.ex (mLit .none)))) (mB (mOp2 dGt (.sl 10) (.sl 5))))) [.fz (scrD ns), .own d5, .fz (webD w), .fz (stD s), .fz (natD v), .fz (natD K), .fz (stD t), .fz (stD (runL w s K)), .fz (stD (runL w t K)), .fz (natD i), .fz (optD o), .no, .no, .no, .no, .no, .no] = .ok false [.fz (scrD ns), .own d5, .fz (webD w), .fz (stD s), .fz (natD v), .fz (natD K), .fz (stD t), .fz (stD (runL w s K)), .fz (stD (runL w t K)), .fz (natD i), .fz (optD o), .no, .no, .no, .no, .no, .no] := by
      by_cases hc : mood (runL w s K) i = mood (runL w t K) i
      · rw [decide_eq_true hc] at b1
        have b1 : dNe (.int (mood (runL w s K) i)) (.int (mood (runL w t K) i)) = some (.bool false) := b1
        exact bAnd_F (by array_get_dec)
      · rw [decide_eq_false hc] at b1
        have b1 : dNe (.int (mood (runL w s K) i)) (.int (mood (runL w t K) i)) = some (.bool true) := b1
        obtain ⟨mm, hmm, hwalk⟩ := light hw hdiff K i hi hc
        rcases hfar with ⟨rfl, hno⟩ | ⟨dd, rfl, hdd⟩
        · exact (hno hwalk.reach).elim
        · have hle := hdd.2 mm hwalk
          have b2 : dIsN (optD (some (dd : Int))) .none = some (.bool false) := rfl
          have b3 : dGt (optD (some (dd : Int))) (natD K) = some (.bool false) := by
            show some (PyData.bool (decide ((K : Int) < dd))) = _
            rw [decide_eq_false (by omega)]
          exact bAnd_T (by array_get_dec) (bOr_F (by array_get_dec) (by array_get_dec))
    exact .ifF htest (.nil ⟨.fz (natD i), .fz (optD o), (fun y z => nomatch z), rfl⟩)
  rintro _ ⟨x9, x10, hx9, rfl⟩
  obtain ⟨h, hhe⟩ : ∃ h, h = runL w s K := ⟨_, rfl⟩
  rw [← hhe] at hh a1 ⊢
  have hah := ahead_eq hw hh
  have hcut : iSeq (mCut (.ex (mCall f_ahead [.v (mVar 2), .v (mVar 7)])) (none) (some (mLit (.int 4)))) [.fz (scrD ns), .own d5, .fz (webD w), .fz (stD s), .fz (natD v), .fz (natD K), .fz (stD t), .fz (stD h), .fz (stD (runL w t K)), x9, x10, .no, .no, .no, .no, .no, .no] = .ok (((aheadL w h).map stD).take 4) [.fz (scrD ns), .own d5, .fz (webD w), .fz (stD s), .fz (natD v), .fz (natD K), .fz (stD t), .fz (stD h), .fz (stD (runL w t K)), x9, x10, .no, .no, .no, .no, .no, .no] :=
    iSeq_T (mCut_lo (i := 4) (c := .tuple ((aheadL w h).map stD)) (ev_ex (by array_get_dec)) rfl rfl (cut_4 _))
  refine .seq (.forQ (l := ((aheadL w h).map stD).take 4) (ρ0 := [.fz (scrD ns), .own d5, .fz (webD w), .fz (stD s), .fz (natD v), .fz (natD K), .fz (stD t), .fz (stD h), .fz (stD (runL w t K)), x9, x10, .no, .no, .no, .no, .no, .no]) hcut (.no rfl) (fun d hd => ?_) (fun x11 hx11 => ?_))
  · obtain ⟨e, he, rfl⟩ := List.mem_map.mp (List.mem_of_mem_take hd)
    obtain ⟨he1, he2⟩ := List.mem_filter.mp he
    have he := mem_allS.mp he1
    have hne := of_decide_eq_true he2
    obtain ⟨r, b1, b2⟩ := becomes_01 hw he
    rw [hne] at b1
    have b3 := tick_eq hw he
    rw [hne] at b3
    have b4 := ne_st h h
    rw [decide_eq_true rfl] at b4
    have b4 : dNe (stD h) (stD h) = some (.bool false) := b4
    have b5 : dNotIn r (.list [.int 0, .int 1]) = some (.bool false) := by
      rcases b2 with rfl | rfl
      · have q : dHas (natD 0) (.list [.int 0, .int 1]) = some true := by decide +kernel
        show (dHas (natD 0) (.list [.int 0, .int 1])).map (fun b => PyData.bool (!b)) = _
        rw [q]
        rfl
      · have q : dHas (natD 1) (.list [.int 0, .int 1]) = some true := by decide +kernel
        show (dHas (natD 1) (.list [.int 0, .int 1])).map (fun b => PyData.bool (!b)) = _
        rw [q]
        rfl
    simp only [List.set_cons_zero, List.set_cons_succ]
    exact .ifF (bOr_F (by array_get_dec) (by array_get_dec)) (.nil rfl)
  simp only [List.set_cons_zero, List.set_cons_succ]
  -- counts of what was ahead
  have hk1 : f_kin [.fz (webD w), .fz (stD h), .fz (.int 1)] = .ok (natD (aheadL w h).length) [] := by
    have := kin_eq hw (by omega) hh (m := 1) (by omega)
    rw [lay_len] at this
    exact this
  have hlen : dLen [.tuple ((aheadL w h).map stD)] = some (natD (aheadL w h).length) := by
    show some (PyData.int (((aheadL w h).map stD).length : Nat)) = _
    rw [List.length_map]
    rfl
  have hnn : dNe (natD (aheadL w h).length) (natD (aheadL w h).length) = some (.bool false) := (ne_nat _ _).trans (by simp)
  have hg0 : dGt (natD K) (.int 0) = some (.bool (decide (0 < K))) := gt_nat0 K
  have ht1 : (bAnd (mB (mOp2 dGt (.sl 5) (.ex (mLit (.int 0))))) (mB (mOp2 dNotIn (.ex (mOp2 dAt (.ex (mCall f_run [.v (mVar 2), .v (mVar 3), .v (mVar 5)])) (.ex (mOp2 dSub (.sl 5) (.ex (mLit (.int 1))))))) (.ex (mCall f_ahead [.v (mVar 2), .v (mVar 7)]))))) [.fz (scrD ns), .own d5, .fz (webD w), .fz (stD s), .fz (natD v), .fz (natD K), .fz (stD t), .fz (stD h), .fz (stD (runL w t K)), x9, x10, x11, .no, .no, .no, .no, .no] = .ok false [.fz (scrD ns), .own d5, .fz (webD w), .fz (stD s), .fz (natD v), .fz (natD K), .fz (stD t), .fz (stD h), .fz (stD (runL w t K)), x9, x10, x11, .no, .no, .no, .no, .no] := by
    by_cases hK0 : 0 < K
    · rw [decide_eq_true hK0] at hg0
      have hsub : dSub (natD K) (.int 1) = some (natD (K - 1)) := sub_nat1 (by omega)
      have hat1 := hat s (K - 1) (by omega)
      have hin := notin_stT (aheadL w h) (runL w s (K - 1))
      have hmem : runL w s (K - 1) ∈ aheadL w h := List.mem_filter.mpr ⟨mem_allS.mpr (run_ok hs (K - 1)), decide_eq_true (by
        rw [hhe]
        show runL w s (K - 1 + 1) = _
        rw [show K - 1 + 1 = K by omega])⟩
      rw [decide_eq_true hmem] at hin
      have hin : dNotIn (stD (runL w s (K - 1))) (.tuple ((aheadL w h).map stD)) = some (.bool false) := hin
      exact bAnd_T (by array_get_dec) (by array_get_dec)
    · rw [decide_eq_false hK0] at hg0
      exact bAnd_F (by array_get_dec)
  refine .seq (.ifF (bOr_F ht1 (by array_get_dec)) (.nil ?_))
  -- the eldest
  have sE : PyData.strOk "endless" = true := by decide +kernel
  have gE : dNe (.str "endless") (.str "endless") = some (.bool false) ∧ dEq (.str "endless") (.str "endless") = some (.bool true) := by
    unfold dNe dEq
    rw [okStr1 sE, eqv_str]
    simp
  have hinK : h ∈ atT w K := mem_atT.mpr ⟨s, hs, hhe.symm⟩
  obtain ⟨R, f, hR⟩ := rnd_ex hw hh
  have hcr := coming_round_eq hw hh hR
  have hc0 : dAt (.tuple [natD f, natD (R - f)]) (.int 0) = some (natD f) := rfl
  have hf0 := eq_nat0 f
  obtain ⟨dB, eB, hB⟩ : ∃ dB, f_eldest [.fz (webD w), .fz (stD h)] = .ok dB [] ∧ ((dB = .str "endless" ∧ Endless w h) ∨ ∃ D, dB = natD D ∧ ¬ Endless w h ∧ h ∈ atT w D ∧ h ∉ atT w (D + 1)) := by
    by_cases hE : Endless w h
    · exact ⟨_, eldest_round hw hh hE, .inl ⟨rfl, hE⟩⟩
    · obtain ⟨D, _, q1, q2⟩ := deepest hh hE
      exact ⟨_, eldest_deep hw (by omega) hh hE q1 q2, .inr ⟨D, rfl, hE, q1, q2⟩⟩
  sizeOf_list_dec
  have ht2 : (bAnd (mB (mOp2 dNe (.sl 12) (.ex (mLit (.str "endless"))))) (bOr (mB (mOp2 dLt (.sl 12) (.sl 5))) (bOr (mB (mOp2 dEq (.ex (mCall f_kin [.v (mVar 2), .v (mVar 7), .v (mVar 12)])) (.ex (mLit (.int 0))))) (mB (mOp2 dNe (.ex (mCall f_kin [.v (mVar 2), .v (mVar 7), .v (mOp2 dAdd (.sl 12) (.ex (mLit (.int 1))))])) (.ex (mLit (.int 0)))))))) [.fz (scrD ns), .own d5, .fz (webD w), .fz (stD s), .fz (natD v), .fz (natD K), .fz (stD t), .fz (stD h), .fz (stD (runL w t K)), x9, x10, x11, .fz dB, .no, .no, .no, .no] = .ok false [.fz (scrD ns), .own d5, .fz (webD w), .fz (stD s), .fz (natD v), .fz (natD K), .fz (stD t), .fz (stD h), .fz (stD (runL w t K)), x9, x10, x11, .fz dB, .no, .no, .no, .no] := by
    rcases hB with ⟨rfl, hE⟩ | ⟨D, rfl, hE, q1, q2⟩
    · have g1 := gE.1
      exact bAnd_F (by array_get_dec)
    · have g1 := (ne_natstr sE D).1
      have hD100 : D < 100 := by
        by_cases z : D < 100
        · exact z
        · exact (hE (six_endless hw h6 (by omega) q1)).elim
      have hKD : ¬ D < K := fun z => q2 (atT_le (k := K - (D + 1)) (by rw [show D + 1 + (K - (D + 1)) = K by omega]; exact hinK))
      have g2 : dLt (natD D) (natD K) = some (.bool false) := by
        show some (PyData.bool (decide ((D : Int) < K))) = _
        rw [decide_eq_false (by omega)]
      have g3 := kin_eq hw (by omega) hh (m := D) (by omega)
      have g4 := kin_eq hw (by omega) hh (m := D + 1) (by omega)
      rw [List.count_eq_zero.mpr q2] at g4
      have g5 : dEq (natD ((atT w D).count h)) (.int 0) = some (.bool false) := by
        rw [eq_nat0, decide_eq_false (by have := List.count_pos_iff.mpr q1; omega)]
      have g6 : dNe (natD 0) (.int 0) = some (.bool false) := ne_nat0 0
      exact bAnd_T (by array_get_dec) (bOr_F (by array_get_dec) (bOr_F (by array_get_dec) (by array_get_dec)))
  refine .seq (.ifF ht2 (.nil ?_))
  have ht3 : mB (mOp2 dNe (.ex (mOp2 dEq (.sl 12) (.ex (mLit (.str "endless"))))) (.ex (mOp2 dEq (.ex (mOp2 dAt (.ex (mCall f_coming_round [.v (mVar 2), .v (mVar 7)])) (.ex (mLit (.int 0))))) (.ex (mLit (.int 0)))))) [.fz (scrD ns), .own d5, .fz (webD w), .fz (stD s), .fz (natD v), .fz (natD K), .fz (stD t), .fz (stD h), .fz (stD (runL w t K)), x9, x10, x11, .fz dB, .no, .no, .no, .no] = .ok false [.fz (scrD ns), .own d5, .fz (webD w), .fz (stD s), .fz (natD v), .fz (natD K), .fz (stD t), .fz (stD h), .fz (stD (runL w t K)), x9, x10, x11, .fz dB, .no, .no, .no, .no] := by
    have hbb : ∀ b : Bool, dNe (.bool b) (.bool b) = some (.bool false) := fun b => by cases b <;> rfl
    rcases hB with ⟨rfl, hE⟩ | ⟨D, rfl, hE, q1, q2⟩
    · rw [decide_eq_true ((rnd_endless hR).mpr hE)] at hf0
      have g1 := gE.2
      have g2 := hbb true
      array_get_dec
    · rw [decide_eq_false fun z => hE ((rnd_endless hR).mp z)] at hf0
      have g1 := (ne_natstr sE D).2
      have g2 := hbb false
      array_get_dec
  refine .seq (.ifF ht3 (.nil ?_))
  -- what one tells
  have hsto := story_eq hw hs hv (T := K) (by omega)
  sizeOf_list_dec
  have hmo := tell_mo hs v K (w := w)
  have htl := tell_len w s v K
  have hne : tell w s v K ≠ [] := fun z => by rw [z] at htl; cases htl
  have hfits := fits_eq hw (by omega) hv hmo hne (by omega)
  have hsure := sure_eq hw (by omega) hv hmo hne (by omega)
  have hsin : s ∈ fitL w v (tell w s v K) := List.mem_filter.mpr ⟨mem_allS.mpr hs, decide_eq_true fun k hk => by
    rw [mood_tell (by omega)]⟩
  have hnin := notin_stT (fitL w v (tell w s v K)) s
  rw [decide_eq_true hsin] at hnin
  have hnin : dNotIn (stD s) (.tuple ((fitL w v (tell w s v K)).map stD)) = some (.bool false) := hnin
  have m0' : mood (tell w s v K) 0 = mood s v := mood_tell (by omega)
  have hat0 : dAt (.str (txt (tell w s v K))) (.int 0) = some (.str (txt [mood s v])) := by
    rw [← m0']
    exact at_txt (k := 0) (by omega) (by omega)
  have hstr := str_at hs hv
  have hmo1 : Mo [mood s v] := fun x hx => by cases List.mem_singleton.mp hx; exact mood_three hs v
  have hne1 := ne_txt hmo1 hmo1
  rw [decide_eq_true rfl] at hne1
  have hne1 : dNe (.str (txt [mood s v])) (.str (txt [mood s v])) = some (.bool false) := hne1
  refine .seq (.ifF (bOr_F (by array_get_dec) (by array_get_dec)) (.nil ?_))
  obtain ⟨f0, fr, efit⟩ : ∃ f0 fr, fitL w v (tell w s v K) = f0 :: fr := by
    cases e : fitL w v (tell w s v K) with
    | nil => rw [e] at hsin; cases hsin
    | cons f0 fr => exact ⟨f0, fr, rfl⟩
  rw [efit] at hsure hsin
  obtain ⟨kn, hkn⟩ : ∃ kn : Nat → D, kn = fun k => if (f0 :: fr).all (fun t => decide (mood t k = mood f0 k)) = true then PyData.int (mood f0 k) else .none := ⟨_, rfl⟩
  have hsD : sureD w.n (f0 :: fr) = .tuple ((List.range w.n).map kn) := by rw [hkn]; rfl
  rw [hsD] at hsure
  sizeOf_list_dec
  have hkat : ∀ k, k < w.n → dAt (.tuple ((List.range w.n).map kn)) (natD k) = some (kn k) := fun k hk => by
    rw [at_T, List.getElem?_map, List.getElem?_range hk]
    rfl
  have hall : ∀ t ∈ f0 :: fr, mood t v = mood s v := fun t htm => by
    rw [← efit] at htm
    have h1 := of_decide_eq_true (List.mem_filter.mp htm).2 0 (by omega)
    rw [m0'] at h1
    exact h1
  have hkv : kn v = .int (mood s v) := by
    rw [hkn]
    have h1 := hall f0 List.mem_cons_self
    show (if (f0 :: fr).all (fun t => decide (mood t v = mood f0 v)) = true then PyData.int (mood f0 v) else .none) = _
    rw [if_pos (List.all_eq_true.mpr fun t htm => decide_eq_true (by rw [hall t htm, h1])), h1]
  have hkat1 := hkat v hv
  rw [hkv] at hkat1
  have hni : dNe (.int (mood s v)) (.int (mood s v)) = some (.bool false) := (ne_int _ _).trans (by simp)
  have hcomp : mComp (iRng fR1 [.ex (mOp2 dAt (.sl 2) (.ex (mLit (.int 0))))]) (tmName 9) (bAnd (mB (mOp2 dNotN (.ex (mOp2 dAt (.sl 14) (.sl 9))) (.ex (mLit .none)))) (mB (mOp2 dNe (.ex (mOp2 dAt (.sl 14) (.sl 9))) (.ex (mOp2 dAt (.sl 3) (.sl 9)))))) (mVar 9) [9] [.fz (scrD ns), .own d5, .fz (webD w), .fz (stD s), .fz (natD v), .fz (natD K), .fz (stD t), .fz (stD h), .fz (stD (runL w t K)), x9, x10, x11, .fz dB, .fz (.str (txt (tell w s v K))), .fz (.tuple ((List.range w.n).map kn)), .no, .no] = .ok (.list (((List.range w.n).filter fun _ => false).map natD)) [.fz (scrD ns), .own d5, .fz (webD w), .fz (stD s), .fz (natD v), .fz (natD K), .fz (stD t), .fz (stD h), .fz (stD (runL w t K)), x9, x10, x11, .fz dB, .fz (.str (txt (tell w s v K))), .fz (.tuple ((List.range w.n).map kn)), .no, .no] := by
    refine mComp_of (f := natD) (ds := List.range w.n) (fun _ => false) natD (ρ1 := [.fz (scrD ns), .own d5, .fz (webD w), .fz (stD s), .fz (natD v), .fz (natD K), .fz (stD t), .fz (stD h), .fz (stD (runL w t K)), x9, x10, x11, .fz dB, .fz (.str (txt (tell w s v K))), .fz (.tuple ((List.range w.n).map kn)), .no, .no]) (by array_get_dec) (by exact ⟨x9, rfl, hx9⟩) (fun k hk => ?_) (fun k _ z => by cases z) (by simp; omega)
    have hk := List.mem_range.mp hk
    have b1 := hkat k hk
    simp only [List.set_cons_zero, List.set_cons_succ]
    by_cases hc : (f0 :: fr).all (fun t => decide (mood t k = mood f0 k)) = true
    · have b2 : kn k = .int (mood s k) := by
        rw [hkn]
        show (if (f0 :: fr).all (fun t => decide (mood t k = mood f0 k)) = true then PyData.int (mood f0 k) else .none) = _
        rw [if_pos hc, of_decide_eq_true (List.all_eq_true.mp hc s hsin)]
      rw [b2] at b1
      have b3 : dNotN (.int (mood s k)) .none = some (.bool true) := rfl
      have b4 : dNe (.int (mood s k)) (.int (mood s k)) = some (.bool false) := (ne_int _ _).trans (by simp)
      exact bAnd_T (by array_get_dec) (by array_get_dec)
    · have b2 : kn k = .none := by
        rw [hkn]
        show (if (f0 :: fr).all (fun t => decide (mood t k = mood f0 k)) = true then PyData.int (mood f0 k) else .none) = _
        rw [if_neg hc]
      rw [b2] at b1
      have b3 : dNotN .none .none = some (.bool false) := rfl
      exact bAnd_F (by array_get_dec)
  have hfe : ((List.range w.n).filter fun _ => false).map natD = [] := by simp
  rw [hfe] at hcomp
  have hn0 : dNe (.list ([] : List D)) (.list []) = some (.bool false) := rfl
  refine .seq (.ifF (bOr_F (by array_get_dec) (by array_get_dec)) (.nil ?_))
  -- where two states meet
  obtain ⟨N1, f1, hr1⟩ := rnd_ex hw hs
  obtain ⟨N2, f2, hr2⟩ := rnd_ex hw htk
  obtain ⟨sp, hmeet, hleast⟩ := meet_eq hw hs htk hr1 hr2
  have hsp : sp = .none ∨ ∃ M : Nat, sp = natD M ∧ M < 100 ∧ runL w s M = runL w t M ∧ ∀ j, j < M → runL w s j ≠ runL w t j := by
    rcases hleast with ⟨rfl, _⟩ | ⟨M, rfl, q1, q2⟩
    · exact .inl rfl
    · refine .inr ⟨M, rfl, ?_, q1, q2⟩
      by_cases z : M < 100
      · exact z
      · have p1 := six_round hw h6 hs (k := M - 60) (by omega)
        have p2 := six_round hw h6 htk (k := M - 60) (by omega)
        rw [show M - 60 + 60 = M by omega] at p1 p2
        exact (q2 (M - 60) (by omega) (show runL w s (M - 60) = runL w t (M - 60) from p1.symm.trans ((show runL w s M = runL w t M from q1).trans p2))).elim
  sizeOf_list_dec
  have ht6 : (bAnd (mB (mOp2 dNotN (.sl 15) (.ex (mLit .none)))) (mB (mOp2 dNe (.ex (mCall f_state_at [.v (mVar 2), .v (mVar 3), .v (mVar 15)])) (.ex (mCall f_state_at [.v (mVar 2), .v (mVar 6), .v (mVar 15)]))))) [.fz (scrD ns), .own d5, .fz (webD w), .fz (stD s), .fz (natD v), .fz (natD K), .fz (stD t), .fz (stD h), .fz (stD (runL w t K)), x9, x10, x11, .fz dB, .fz (.str (txt (tell w s v K))), .fz (.tuple ((List.range w.n).map kn)), .fz sp, .no] = .ok false [.fz (scrD ns), .own d5, .fz (webD w), .fz (stD s), .fz (natD v), .fz (natD K), .fz (stD t), .fz (stD h), .fz (stD (runL w t K)), x9, x10, x11, .fz dB, .fz (.str (txt (tell w s v K))), .fz (.tuple ((List.range w.n).map kn)), .fz sp, .no] := by
    rcases hsp with rfl | ⟨M, rfl, q0, q1, q2⟩
    · have b3 : dNotN .none .none = some (.bool false) := rfl
      exact bAnd_F (by array_get_dec)
    · have b3 : dNotN (natD M) .none = some (.bool true) := rfl
      have b4 := state_at_eq hw hs (g := M) (by omega)
      have b5 := state_at_eq hw htk (g := M) (by omega)
      rw [← q1] at b5
      have b6 := ne_st (runL w s M) (runL w s M)
      rw [decide_eq_true rfl] at b6
      have b6 : dNe (stD (runL w s M)) (stD (runL w s M)) = some (.bool false) := b6
      exact bAnd_T (by array_get_dec) (by array_get_dec)
  refine .seq (.ifF ht6 (.nil ?_))
  have ht7 : (bAnd (mB (mOp2 dNotN (.sl 15) (.ex (mLit .none)))) (bAnd (mB (mOp2 dGt (.sl 15) (.ex (mLit (.int 0))))) (mB (mOp2 dEq (.ex (mCall f_state_at [.v (mVar 2), .v (mVar 3), .v (mOp2 dSub (.sl 15) (.ex (mLit (.int 1))))])) (.ex (mCall f_state_at [.v (mVar 2), .v (mVar 6), .v (mOp2 dSub (.sl 15) (.ex (mLit (.int 1))))])))))) [.fz (scrD ns), .own d5, .fz (webD w), .fz (stD s), .fz (natD v), .fz (natD K), .fz (stD t), .fz (stD h), .fz (stD (runL w t K)), x9, x10, x11, .fz dB, .fz (.str (txt (tell w s v K))), .fz (.tuple ((List.range w.n).map kn)), .fz sp, .no] = .ok false [.fz (scrD ns), .own d5, .fz (webD w), .fz (stD s), .fz (natD v), .fz (natD K), .fz (stD t), .fz (stD h), .fz (stD (runL w t K)), x9, x10, x11, .fz dB, .fz (.str (txt (tell w s v K))), .fz (.tuple ((List.range w.n).map kn)), .fz sp, .no] := by
    rcases hsp with rfl | ⟨M, rfl, q0, q1, q2⟩
    · have b3 : dNotN .none .none = some (.bool false) := rfl
      exact bAnd_F (by array_get_dec)
    · have b3 : dNotN (natD M) .none = some (.bool true) := rfl
      have b7 := gt_nat0 M
      by_cases hM : 0 < M
      · rw [decide_eq_true hM] at b7
        have b8 : dSub (natD M) (.int 1) = some (natD (M - 1)) := sub_nat1 (by omega)
        have b4 := state_at_eq hw hs (g := M - 1) (by omega)
        have b5 := state_at_eq hw htk (g := M - 1) (by omega)
        have b6 := eq_st (runL w s (M - 1)) (runL w t (M - 1))
        rw [decide_eq_false (q2 (M - 1) (by omega))] at b6
        exact bAnd_T (by array_get_dec) (bAnd_T (by array_get_dec) (by array_get_dec))
      · rw [decide_eq_false hM] at b7
        exact bAnd_T (by array_get_dec) (bAnd_F (by array_get_dec))
  refine .seq (.ifF ht7 (.nil ?_))
  -- changes
  have hch := changes_eqN hw hs (g := K) (by omega)
  sizeOf_list_dec
  have hcc : mComp (iRng fR1 [.sl 5]) (tmName 9) (mB (mOp2 dNe (.ex (mOp2 dAt (.sl 13) (.sl 9))) (.ex (mOp2 dAt (.sl 13) (.ex (mOp2 dAdd (.sl 9) (.ex (mLit (.int 1))))))))) (mLit (.int 1)) [9] [.fz (scrD ns), .own d5, .fz (webD w), .fz (stD s), .fz (natD v), .fz (natD K), .fz (stD t), .fz (stD h), .fz (stD (runL w t K)), x9, x10, x11, .fz dB, .fz (.str (txt (tell w s v K))), .fz (.tuple ((List.range w.n).map kn)), .fz sp, .fz (stD (cntL w s K))] = .ok (.list (((List.range K).filter fun k => !decide ([mood (runL w s k) v] = [mood (runL w s (k + 1)) v])).map fun _ => .int 1)) [.fz (scrD ns), .own d5, .fz (webD w), .fz (stD s), .fz (natD v), .fz (natD K), .fz (stD t), .fz (stD h), .fz (stD (runL w t K)), x9, x10, x11, .fz dB, .fz (.str (txt (tell w s v K))), .fz (.tuple ((List.range w.n).map kn)), .fz sp, .fz (stD (cntL w s K))] := by
    refine mComp_of (f := natD) (ds := List.range K) (fun k => !decide ([mood (runL w s k) v] = [mood (runL w s (k + 1)) v])) (fun _ => .int 1) (ρ1 := [.fz (scrD ns), .own d5, .fz (webD w), .fz (stD s), .fz (natD v), .fz (natD K), .fz (stD t), .fz (stD h), .fz (stD (runL w t K)), x9, x10, x11, .fz dB, .fz (.str (txt (tell w s v K))), .fz (.tuple ((List.range w.n).map kn)), .fz sp, .fz (stD (cntL w s K))]) (by array_get_dec) (by exact ⟨x9, rfl, hx9⟩) (fun k hk => ?_) (fun _ _ _ => rfl) (by simp; omega)
    have hk := List.mem_range.mp hk
    have b1 := at_txt (l := tell w s v K) (k := k) (by omega) (by omega)
    have b2 := at_txt (l := tell w s v K) (k := k + 1) (by omega) (by omega)
    rw [mood_tell (by omega)] at b1 b2
    have b3 := ne_txt (a := [mood (runL w s k) v]) (b := [mood (runL w s (k + 1)) v]) (fun x hx => by cases List.mem_singleton.mp hx; exact mood_three (run_ok hs k) v) (fun x hx => by cases List.mem_singleton.mp hx; exact mood_three (run_ok hs (k + 1)) v)
    simp only [List.set_cons_zero, List.set_cons_succ]
    array_get_dec
  have hlenc : dLen [.list (((List.range K).filter fun k => !decide ([mood (runL w s k) v] = [mood (runL w s (k + 1)) v])).map fun _ => PyData.int 1)] = some (.int (cnt w s K v)) := by
    show some (PyData.int ((((List.range K).filter fun k => !decide ([mood (runL w s k) v] = [mood (runL w s (k + 1)) v])).map fun _ => PyData.int 1).length : Nat)) = _
    rw [List.length_map, chg_len hs hv K]
  have hcl : ∀ j, (cntL w s j).length = w.n := fun j => by simp [cntL]
  have hatc : ∀ j, dAt (stD (cntL w s j)) (natD v) = some (.int (cnt w s j v)) := fun j => by rw [st_at (by rw [hcl]; exact hv), mood_cntL' hv]
  have hatK := hatc K
  have hnc : dNe (.int (cnt w s K v)) (.int (cnt w s K v)) = some (.bool false) := (ne_int _ _).trans (by simp)
  refine .seq (.ifF (by array_get_dec) (.nil ?_))
  have hst := stirred_eq hw hs
  have hch1 : f_changes [.fz (webD w), .fz (stD s), .fz (.int 1)] = .ok (stD (cntL w s 1)) [] := changes_eqN hw hs (g := 1) (by omega)
  have hat1 := hatc 1
  have hin : dIn (natD v) (.tuple (((List.range w.n).filter (hot w s)).map natD)) = some (.bool (hot w s v)) := by
    refine (in_tup ((List.range w.n).filter (hot w s)) v).trans ?_
    have : (v ∈ (List.range w.n).filter (hot w s)) ↔ hot w s v = true := by
      rw [List.mem_filter, List.mem_range]
      exact ⟨fun h => h.2, fun h => ⟨hv, h⟩⟩
    by_cases hh : hot w s v = true
    · rw [decide_eq_true (this.mpr hh), hh]
    · rw [decide_eq_false fun z => hh (this.mp z)]
      cases e : hot w s v with
      | true => exact (hh e).elim
      | false => rfl
  have he1 : dEq (.int (cnt w s 1 v)) (.int 1) = some (.bool (hot w s v)) := by
    rw [eq_int]
    show some (PyData.bool (decide (0 + (if hot w s v = true then 1 else 0) = (1 : Int)))) = _
    cases hot w s v <;> rfl
  have hbb : dEq (.bool (hot w s v)) (.bool (hot w s v)) = some (.bool true) := (eq_bool _ _).trans (by simp)
  exact .ret (by array_get_dec) rfl

end MP
set_option autoImplicit false
namespace MP
open PySem PySem.Spec PyProof.Rows L2 LamX
theorem law_mk {l : PySem.W.OpenLaw} {w : World} {K : PySem.W.Frag} {h : Heap} {mg : Str → Option Value} {fa : Addr} (KX : K.In h) (G : h.Ns mainGlobals mg) (hfa : mg "law" = some (.ref fa))
    {f0 f1 f2 f3 f4 f5 f6 f7 f8 f9 f10 f11 f12 f13 f14 f15 f16 f17 f18 f19 f20 f21 f22 f23 f24 f25 f26 f27 f28 f29 f30 f31 f32 f33 f34 f35 f36 f37 f38 f39 f40 f41 f42 f43 f44 f45 f46 f47 f48 f49 f50 f51 e_BadFolk e_BadNumber e_BadState e_NotText e_BadWeb fi_BadWeb ca_BadWeb cc_BadWeb NN_BadWeb e_TooMany fi_TooMany ca_TooMany cc_TooMany NN_TooMany : Addr} {oc0 kV0 dc0 pm0 ct0 cd0 oc1 kV1 dc1 pm1 ct1 cd1 oc2 kV2 dc2 pm2 ct2 cd2 oc3 kV3 dc3 pm3 ct3 cd3 oc4 kV4 dc4 pm4 ct4 cd4 oc5 kV5 dc5 pm5 ct5 cd5 oc6 kV6 dc6 pm6 ct6 cd6 oc7 kV7 dc7 pm7 ct7 cd7 oc8 kV8 dc8 pm8 ct8 cd8 oc9 kV9 dc9 pm9 ct9 cd9 oc10 kV10 dc10 pm10 ct10 cd10 oc11 kV11 dc11 pm11 ct11 cd11 oc12 kV12 dc12 pm12 ct12 cd12 oc13 kV13 dc13 pm13 ct13 cd13 oc14 kV14 dc14 pm14 ct14 cd14 oc15 kV15 dc15 pm15 ct15 cd15 oc16 kV16 dc16 pm16 ct16 cd16 oc17 kV17 dc17 pm17 ct17 cd17 oc18 kV18 dc18 pm18 ct18 cd18 oc19 kV19 dc19 pm19 ct19 cd19 oc20 kV20 dc20 pm20 ct20 cd20 oc21 kV21 dc21 pm21 ct21 cd21 oc22 kV22 dc22 pm22 ct22 cd22 oc23 kV23 dc23 pm23 ct23 cd23 oc24 kV24 dc24 pm24 ct24 cd24 oc25 kV25 dc25 pm25 ct25 cd25 oc26 kV26 dc26 pm26 ct26 cd26 oc27 kV27 dc27 pm27 ct27 cd27 oc28 kV28 dc28 pm28 ct28 cd28 oc29 kV29 dc29 pm29 ct29 cd29 oc30 kV30 dc30 pm30 ct30 cd30 oc31 kV31 dc31 pm31 ct31 cd31 oc32 kV32 dc32 pm32 ct32 cd32 oc33 kV33 dc33 pm33 ct33 cd33 oc34 kV34 dc34 pm34 ct34 cd34 oc35 kV35 dc35 pm35 ct35 cd35 oc36 kV36 dc36 pm36 ct36 cd36 oc37 kV37 dc37 pm37 ct37 cd37 oc38 kV38 dc38 pm38 ct38 cd38 oc39 kV39 dc39 pm39 ct39 cd39 oc40 kV40 dc40 pm40 ct40 cd40 oc41 kV41 dc41 pm41 ct41 cd41 oc42 kV42 dc42 pm42 ct42 cd42 oc43 kV43 dc43 pm43 ct43 cd43 oc44 kV44 dc44 pm44 ct44 cd44 oc45 kV45 dc45 pm45 ct45 cd45 oc46 kV46 dc46 pm46 ct46 cd46 oc47 kV47 dc47 pm47 ct47 cd47 oc48 kV48 dc48 pm48 ct48 cd48 oc49 kV49 dc49 pm49 ct49 cd49 oc50 kV50 dc50 pm50 ct50 cd50 oc51 kV51 dc51 pm51 ct51 cd51 doc_BadWeb pm_BadWeb ct_BadWeb kV_BadWeb oc_BadWeb ccl_BadWeb cl_BadWeb doc_TooMany pm_TooMany ct_TooMany kV_TooMany oc_TooMany ccl_TooMany cl_TooMany : Value} {od0 an0 od1 an1 od2 an2 od3 an3 od4 an4 od5 an5 od6 an6 od7 an7 od8 an8 od9 an9 od10 an10 od11 an11 od12 an12 od13 an13 od14 an14 od15 an15 od16 an16 od17 an17 od18 an18 od19 an19 od20 an20 od21 an21 od22 an22 od23 an23 od24 an24 od25 an25 od26 an26 od27 an27 od28 an28 od29 an29 od30 an30 od31 an31 od32 an32 od33 an33 od34 an34 od35 an35 od36 an36 od37 an37 od38 an38 od39 an39 od40 an40 od41 an41 od42 an42 od43 an43 od44 an44 od45 an45 od46 an46 od47 an47 od48 an48 od49 an49 od50 an50 od51 an51 an_BadWeb od_BadWeb cdd_BadWeb cld_BadWeb dd_BadWeb an_TooMany od_TooMany cdd_TooMany cld_TooMany dd_TooMany : Option Addr} {sl0 sl1 sl2 sl3 sl4 sl5 sl6 sl7 sl8 sl9 sl10 sl11 sl12 sl13 sl14 sl15 sl16 sl17 sl18 sl19 sl20 sl21 sl22 sl23 sl24 sl25 sl26 sl27 sl28 sl29 sl30 sl31 sl32 sl33 sl34 sl35 sl36 sl37 sl38 sl39 sl40 sl41 sl42 sl43 sl44 sl45 sl46 sl47 sl48 sl49 sl50 sl51 osl_BadWeb ccs_BadWeb csl_BadWeb osl_TooMany ccs_TooMany csl_TooMany : Array (Option Value)} {t_MOODS t_MOST_ALL t_MOST_BACK t_MOST_FOLK t_MOST_RUN t_MOST_STATES t_MOST_STORY t_MOST_TICK t_MOST_TOLD t_SIGNS : Tok}
    {vs_BadWeb : Array Value} {file_BadWeb nm_BadWeb q_BadWeb : Str} {tf_BadWeb : Tok} {bs_BadWeb bm_BadWeb sub_BadWeb : List Value} {sn_BadWeb : List Str} {ab_BadWeb : Bool} {col_BadWeb : Option Bool} {k0_BadWeb k1_BadWeb k2_BadWeb k3_BadWeb k5_BadWeb : Option Value} {vs_TooMany : Array Value} {file_TooMany nm_TooMany q_TooMany : Str} {tf_TooMany : Tok} {bs_TooMany bm_TooMany sub_TooMany : List Value} {sn_TooMany : List Str} {ab_TooMany : Bool} {col_TooMany : Option Bool} {k0_TooMany k1_TooMany k2_TooMany k3_TooMany k5_TooMany : Option Value}
    (a0 : PySem.W.nsIn K mainGlobals "is_number" = some (some (.ref f0)))
    (l0 : K.lookup f0 = some ⟨oc0, od0, .func (PySem.W.fnOf "is_number" "is_number" (defArgs (top 10)) (defBody (top 10)) (defScope (top 10)) .none kV0 dc0 pm0 an0 cd0 ct0), sl0⟩)
    (c0 : PySem.W.codeIn K cd0 "is_number" = true)
    (k0 : PySem.W.keepIn K (.ref f0) = true)
    (a1 : PySem.W.nsIn K mainGlobals "is_street" = some (some (.ref f1)))
    (l1 : K.lookup f1 = some ⟨oc1, od1, .func (PySem.W.fnOf "is_street" "is_street" (defArgs (top 11)) (defBody (top 11)) (defScope (top 11)) .none kV1 dc1 pm1 an1 cd1 ct1), sl1⟩)
    (c1 : PySem.W.codeIn K cd1 "is_street" = true)
    (k1 : PySem.W.keepIn K (.ref f1) = true)
    (a2 : PySem.W.nsIn K mainGlobals "need_web" = some (some (.ref f2)))
    (l2 : K.lookup f2 = some ⟨oc2, od2, .func (PySem.W.fnOf "need_web" "need_web" (defArgs (top 12)) (defBody (top 12)) (defScope (top 12)) .none kV2 dc2 pm2 an2 cd2 ct2), sl2⟩)
    (c2 : PySem.W.codeIn K cd2 "need_web" = true)
    (k2 : PySem.W.keepIn K (.ref f2) = true)
    (a3 : PySem.W.nsIn K mainGlobals "need_one" = some (some (.ref f3)))
    (l3 : K.lookup f3 = some ⟨oc3, od3, .func (PySem.W.fnOf "need_one" "need_one" (defArgs (top 13)) (defBody (top 13)) (defScope (top 13)) .none kV3 dc3 pm3 an3 cd3 ct3), sl3⟩)
    (c3 : PySem.W.codeIn K cd3 "need_one" = true)
    (k3 : PySem.W.keepIn K (.ref f3) = true)
    (a4 : PySem.W.nsIn K mainGlobals "near_lists" = some (some (.ref f4)))
    (l4 : K.lookup f4 = some ⟨oc4, od4, .func (PySem.W.fnOf "near_lists" "near_lists" (defArgs (top 14)) (defBody (top 14)) (defScope (top 14)) .none kV4 dc4 pm4 an4 cd4 ct4), sl4⟩)
    (c4 : PySem.W.codeIn K cd4 "near_lists" = true)
    (k4 : PySem.W.keepIn K (.ref f4) = true)
    (a5 : PySem.W.nsIn K mainGlobals "ways_from" = some (some (.ref f5)))
    (l5 : K.lookup f5 = some ⟨oc5, od5, .func (PySem.W.fnOf "ways_from" "ways_from" (defArgs (top 15)) (defBody (top 15)) (defScope (top 15)) .none kV5 dc5 pm5 an5 cd5 ct5), sl5⟩)
    (c5 : PySem.W.codeIn K cd5 "ways_from" = true)
    (k5 : PySem.W.keepIn K (.ref f5) = true)
    (a6 : PySem.W.nsIn K mainGlobals "far" = some (some (.ref f6)))
    (l6 : K.lookup f6 = some ⟨oc6, od6, .func (PySem.W.fnOf "far" "far" (defArgs (top 16)) (defBody (top 16)) (defScope (top 16)) .none kV6 dc6 pm6 an6 cd6 ct6), sl6⟩)
    (c6 : PySem.W.codeIn K cd6 "far" = true)
    (k6 : PySem.W.keepIn K (.ref f6) = true)
    (a7 : PySem.W.nsIn K mainGlobals "need_number" = some (some (.ref f7)))
    (l7 : K.lookup f7 = some ⟨oc7, od7, .func (PySem.W.fnOf "need_number" "need_number" (defArgs (top 20)) (defBody (top 20)) (defScope (top 20)) .none kV7 dc7 pm7 an7 cd7 ct7), sl7⟩)
    (c7 : PySem.W.codeIn K cd7 "need_number" = true)
    (k7 : PySem.W.keepIn K (.ref f7) = true)
    (a8 : PySem.W.nsIn K mainGlobals "are_moods" = some (some (.ref f8)))
    (l8 : K.lookup f8 = some ⟨oc8, od8, .func (PySem.W.fnOf "are_moods" "are_moods" (defArgs (top 21)) (defBody (top 21)) (defScope (top 21)) .none kV8 dc8 pm8 an8 cd8 ct8), sl8⟩)
    (c8 : PySem.W.codeIn K cd8 "are_moods" = true)
    (k8 : PySem.W.keepIn K (.ref f8) = true)
    (a9 : PySem.W.nsIn K mainGlobals "need_both" = some (some (.ref f9)))
    (l9 : K.lookup f9 = some ⟨oc9, od9, .func (PySem.W.fnOf "need_both" "need_both" (defArgs (top 22)) (defBody (top 22)) (defScope (top 22)) .none kV9 dc9 pm9 an9 cd9 ct9), sl9⟩)
    (c9 : PySem.W.codeIn K cd9 "need_both" = true)
    (k9 : PySem.W.keepIn K (.ref f9) = true)
    (a10 : PySem.W.nsIn K mainGlobals "step" = some (some (.ref f10)))
    (l10 : K.lookup f10 = some ⟨oc10, od10, .func (PySem.W.fnOf "step" "step" (defArgs (top 23)) (defBody (top 23)) (defScope (top 23)) .none kV10 dc10 pm10 an10 cd10 ct10), sl10⟩)
    (c10 : PySem.W.codeIn K cd10 "step" = true)
    (k10 : PySem.W.keepIn K (.ref f10) = true)
    (a11 : PySem.W.nsIn K mainGlobals "stirred_in" = some (some (.ref f11)))
    (l11 : K.lookup f11 = some ⟨oc11, od11, .func (PySem.W.fnOf "stirred_in" "stirred_in" (defArgs (top 24)) (defBody (top 24)) (defScope (top 24)) .none kV11 dc11 pm11 an11 cd11 ct11), sl11⟩)
    (c11 : PySem.W.codeIn K cd11 "stirred_in" = true)
    (k11 : PySem.W.keepIn K (.ref f11) = true)
    (a12 : PySem.W.nsIn K mainGlobals "next_state" = some (some (.ref f12)))
    (l12 : K.lookup f12 = some ⟨oc12, od12, .func (PySem.W.fnOf "next_state" "next_state" (defArgs (top 25)) (defBody (top 25)) (defScope (top 25)) .none kV12 dc12 pm12 an12 cd12 ct12), sl12⟩)
    (c12 : PySem.W.codeIn K cd12 "next_state" = true)
    (k12 : PySem.W.keepIn K (.ref f12) = true)
    (a13 : PySem.W.nsIn K mainGlobals "stirred" = some (some (.ref f13)))
    (l13 : K.lookup f13 = some ⟨oc13, od13, .func (PySem.W.fnOf "stirred" "stirred" (defArgs (top 26)) (defBody (top 26)) (defScope (top 26)) .none kV13 dc13 pm13 an13 cd13 ct13), sl13⟩)
    (c13 : PySem.W.codeIn K cd13 "stirred" = true)
    (k13 : PySem.W.keepIn K (.ref f13) = true)
    (a14 : PySem.W.nsIn K mainGlobals "tick" = some (some (.ref f14)))
    (l14 : K.lookup f14 = some ⟨oc14, od14, .func (PySem.W.fnOf "tick" "tick" (defArgs (top 27)) (defBody (top 27)) (defScope (top 27)) .none kV14 dc14 pm14 an14 cd14 ct14), sl14⟩)
    (c14 : PySem.W.codeIn K cd14 "tick" = true)
    (k14 : PySem.W.keepIn K (.ref f14) = true)
    (a15 : PySem.W.nsIn K mainGlobals "states_from" = some (some (.ref f15)))
    (l15 : K.lookup f15 = some ⟨oc15, od15, .func (PySem.W.fnOf "states_from" "states_from" (defArgs (top 28)) (defBody (top 28)) (defScope (top 28)) .none kV15 dc15 pm15 an15 cd15 ct15), sl15⟩)
    (c15 : PySem.W.codeIn K cd15 "states_from" = true)
    (k15 : PySem.W.keepIn K (.ref f15) = true)
    (a16 : PySem.W.nsIn K mainGlobals "run" = some (some (.ref f16)))
    (l16 : K.lookup f16 = some ⟨oc16, od16, .func (PySem.W.fnOf "run" "run" (defArgs (top 29)) (defBody (top 29)) (defScope (top 29)) .none kV16 dc16 pm16 an16 cd16 ct16), sl16⟩)
    (c16 : PySem.W.codeIn K cd16 "run" = true)
    (k16 : PySem.W.keepIn K (.ref f16) = true)
    (a17 : PySem.W.nsIn K mainGlobals "table_of" = some (some (.ref f17)))
    (l17 : K.lookup f17 = some ⟨oc17, od17, .func (PySem.W.fnOf "table_of" "table_of" (defArgs (top 32)) (defBody (top 32)) (defScope (top 32)) .none kV17 dc17 pm17 an17 cd17 ct17), sl17⟩)
    (c17 : PySem.W.codeIn K cd17 "table_of" = true)
    (k17 : PySem.W.keepIn K (.ref f17) = true)
    (a18 : PySem.W.nsIn K mainGlobals "row_behind" = some (some (.ref f18)))
    (l18 : K.lookup f18 = some ⟨oc18, od18, .func (PySem.W.fnOf "row_behind" "row_behind" (defArgs (top 33)) (defBody (top 33)) (defScope (top 33)) .none kV18 dc18 pm18 an18 cd18 ct18), sl18⟩)
    (c18 : PySem.W.codeIn K cd18 "row_behind" = true)
    (k18 : PySem.W.keepIn K (.ref f18) = true)
    (a19 : PySem.W.nsIn K mainGlobals "twice" = some (some (.ref f19)))
    (l19 : K.lookup f19 = some ⟨oc19, od19, .func (PySem.W.fnOf "twice" "twice" (defArgs (top 34)) (defBody (top 34)) (defScope (top 34)) .none kV19 dc19 pm19 an19 cd19 ct19), sl19⟩)
    (c19 : PySem.W.codeIn K cd19 "twice" = true)
    (k19 : PySem.W.keepIn K (.ref f19) = true)
    (a20 : PySem.W.nsIn K mainGlobals "first_row" = some (some (.ref f20)))
    (l20 : K.lookup f20 = some ⟨oc20, od20, .func (PySem.W.fnOf "first_row" "first_row" (defArgs (top 35)) (defBody (top 35)) (defScope (top 35)) .none kV20 dc20 pm20 an20 cd20 ct20), sl20⟩)
    (c20 : PySem.W.codeIn K cd20 "first_row" = true)
    (k20 : PySem.W.keepIn K (.ref f20) = true)
    (a21 : PySem.W.nsIn K mainGlobals "most_of" = some (some (.ref f21)))
    (l21 : K.lookup f21 = some ⟨oc21, od21, .func (PySem.W.fnOf "most_of" "most_of" (defArgs (top 36)) (defBody (top 36)) (defScope (top 36)) .none kV21 dc21 pm21 an21 cd21 ct21), sl21⟩)
    (c21 : PySem.W.codeIn K cd21 "most_of" = true)
    (k21 : PySem.W.keepIn K (.ref f21) = true)
    (a22 : PySem.W.nsIn K mainGlobals "changes_in" = some (some (.ref f22)))
    (l22 : K.lookup f22 = some ⟨oc22, od22, .func (PySem.W.fnOf "changes_in" "changes_in" (defArgs (top 37)) (defBody (top 37)) (defScope (top 37)) .none kV22 dc22 pm22 an22 cd22 ct22), sl22⟩)
    (c22 : PySem.W.codeIn K cd22 "changes_in" = true)
    (k22 : PySem.W.keepIn K (.ref f22) = true)
    (a23 : PySem.W.nsIn K mainGlobals "state_in" = some (some (.ref f23)))
    (l23 : K.lookup f23 = some ⟨oc23, od23, .func (PySem.W.fnOf "state_in" "state_in" (defArgs (top 38)) (defBody (top 38)) (defScope (top 38)) .none kV23 dc23 pm23 an23 cd23 ct23), sl23⟩)
    (c23 : PySem.W.codeIn K cd23 "state_in" = true)
    (k23 : PySem.W.keepIn K (.ref f23) = true)
    (a24 : PySem.W.nsIn K mainGlobals "changes" = some (some (.ref f24)))
    (l24 : K.lookup f24 = some ⟨oc24, od24, .func (PySem.W.fnOf "changes" "changes" (defArgs (top 39)) (defBody (top 39)) (defScope (top 39)) .none kV24 dc24 pm24 an24 cd24 ct24), sl24⟩)
    (c24 : PySem.W.codeIn K cd24 "changes" = true)
    (k24 : PySem.W.keepIn K (.ref f24) = true)
    (a25 : PySem.W.nsIn K mainGlobals "state_at" = some (some (.ref f25)))
    (l25 : K.lookup f25 = some ⟨oc25, od25, .func (PySem.W.fnOf "state_at" "state_at" (defArgs (top 40)) (defBody (top 40)) (defScope (top 40)) .none kV25 dc25 pm25 an25 cd25 ct25), sl25⟩)
    (c25 : PySem.W.codeIn K cd25 "state_at" = true)
    (k25 : PySem.W.keepIn K (.ref f25) = true)
    (a26 : PySem.W.nsIn K mainGlobals "all_states" = some (some (.ref f26)))
    (l26 : K.lookup f26 = some ⟨oc26, od26, .func (PySem.W.fnOf "all_states" "all_states" (defArgs (top 43)) (defBody (top 43)) (defScope (top 43)) .none kV26 dc26 pm26 an26 cd26 ct26), sl26⟩)
    (c26 : PySem.W.codeIn K cd26 "all_states" = true)
    (k26 : PySem.W.keepIn K (.ref f26) = true)
    (a27 : PySem.W.nsIn K mainGlobals "need_few" = some (some (.ref f27)))
    (l27 : K.lookup f27 = some ⟨oc27, od27, .func (PySem.W.fnOf "need_few" "need_few" (defArgs (top 44)) (defBody (top 44)) (defScope (top 44)) .none kV27 dc27 pm27 an27 cd27 ct27), sl27⟩)
    (c27 : PySem.W.codeIn K cd27 "need_few" = true)
    (k27 : PySem.W.keepIn K (.ref f27) = true)
    (a28 : PySem.W.nsIn K mainGlobals "row_round" = some (some (.ref f28)))
    (l28 : K.lookup f28 = some ⟨oc28, od28, .func (PySem.W.fnOf "row_round" "row_round" (defArgs (top 46)) (defBody (top 46)) (defScope (top 46)) .none kV28 dc28 pm28 an28 cd28 ct28), sl28⟩)
    (c28 : PySem.W.codeIn K cd28 "row_round" = true)
    (k28 : PySem.W.keepIn K (.ref f28) = true)
    (a29 : PySem.W.nsIn K mainGlobals "coming_round" = some (some (.ref f29)))
    (l29 : K.lookup f29 = some ⟨oc29, od29, .func (PySem.W.fnOf "coming_round" "coming_round" (defArgs (top 47)) (defBody (top 47)) (defScope (top 47)) .none kV29 dc29 pm29 an29 cd29 ct29), sl29⟩)
    (c29 : PySem.W.codeIn K cd29 "coming_round" = true)
    (k29 : PySem.W.keepIn K (.ref f29) = true)
    (a30 : PySem.W.nsIn K mainGlobals "state_of" = some (some (.ref f30)))
    (l30 : K.lookup f30 = some ⟨oc30, od30, .func (PySem.W.fnOf "state_of" "state_of" (defArgs (top 48)) (defBody (top 48)) (defScope (top 48)) .none kV30 dc30 pm30 an30 cd30 ct30), sl30⟩)
    (c30 : PySem.W.codeIn K cd30 "state_of" = true)
    (k30 : PySem.W.keepIn K (.ref f30) = true)
    (a31 : PySem.W.nsIn K mainGlobals "meet" = some (some (.ref f31)))
    (l31 : K.lookup f31 = some ⟨oc31, od31, .func (PySem.W.fnOf "meet" "meet" (defArgs (top 49)) (defBody (top 49)) (defScope (top 49)) .none kV31 dc31 pm31 an31 cd31 ct31), sl31⟩)
    (c31 : PySem.W.codeIn K cd31 "meet" = true)
    (k31 : PySem.W.keepIn K (.ref f31) = true)
    (a32 : PySem.W.nsIn K mainGlobals "becomes" = some (some (.ref f32)))
    (l32 : K.lookup f32 = some ⟨oc32, od32, .func (PySem.W.fnOf "becomes" "becomes" (defArgs (top 50)) (defBody (top 50)) (defScope (top 50)) .none kV32 dc32 pm32 an32 cd32 ct32), sl32⟩)
    (c32 : PySem.W.codeIn K cd32 "becomes" = true)
    (k32 : PySem.W.keepIn K (.ref f32) = true)
    (a33 : PySem.W.nsIn K mainGlobals "lots_of" = some (some (.ref f33)))
    (l33 : K.lookup f33 = some ⟨oc33, od33, .func (PySem.W.fnOf "lots_of" "lots_of" (defArgs (top 54)) (defBody (top 54)) (defScope (top 54)) .none kV33 dc33 pm33 an33 cd33 ct33), sl33⟩)
    (c33 : PySem.W.codeIn K cd33 "lots_of" = true)
    (k33 : PySem.W.keepIn K (.ref f33) = true)
    (a34 : PySem.W.nsIn K mainGlobals "ahead_in" = some (some (.ref f34)))
    (l34 : K.lookup f34 = some ⟨oc34, od34, .func (PySem.W.fnOf "ahead_in" "ahead_in" (defArgs (top 55)) (defBody (top 55)) (defScope (top 55)) .none kV34 dc34 pm34 an34 cd34 ct34), sl34⟩)
    (c34 : PySem.W.codeIn K cd34 "ahead_in" = true)
    (k34 : PySem.W.keepIn K (.ref f34) = true)
    (a35 : PySem.W.nsIn K mainGlobals "ahead" = some (some (.ref f35)))
    (l35 : K.lookup f35 = some ⟨oc35, od35, .func (PySem.W.fnOf "ahead" "ahead" (defArgs (top 56)) (defBody (top 56)) (defScope (top 56)) .none kV35 dc35 pm35 an35 cd35 ct35), sl35⟩)
    (c35 : PySem.W.codeIn K cd35 "ahead" = true)
    (k35 : PySem.W.keepIn K (.ref f35) = true)
    (a36 : PySem.W.nsIn K mainGlobals "leads_of" = some (some (.ref f36)))
    (l36 : K.lookup f36 = some ⟨oc36, od36, .func (PySem.W.fnOf "leads_of" "leads_of" (defArgs (top 57)) (defBody (top 57)) (defScope (top 57)) .none kV36 dc36 pm36 an36 cd36 ct36), sl36⟩)
    (c36 : PySem.W.codeIn K cd36 "leads_of" = true)
    (k36 : PySem.W.keepIn K (.ref f36) = true)
    (a37 : PySem.W.nsIn K mainGlobals "counts_behind" = some (some (.ref f37)))
    (l37 : K.lookup f37 = some ⟨oc37, od37, .func (PySem.W.fnOf "counts_behind" "counts_behind" (defArgs (top 58)) (defBody (top 58)) (defScope (top 58)) .none kV37 dc37 pm37 an37 cd37 ct37), sl37⟩)
    (c37 : PySem.W.codeIn K cd37 "counts_behind" = true)
    (k37 : PySem.W.keepIn K (.ref f37) = true)
    (a38 : PySem.W.nsIn K mainGlobals "need_few_states" = some (some (.ref f38)))
    (l38 : K.lookup f38 = some ⟨oc38, od38, .func (PySem.W.fnOf "need_few_states" "need_few_states" (defArgs (top 59)) (defBody (top 59)) (defScope (top 59)) .none kV38 dc38 pm38 an38 cd38 ct38), sl38⟩)
    (c38 : PySem.W.codeIn K cd38 "need_few_states" = true)
    (k38 : PySem.W.keepIn K (.ref f38) = true)
    (a39 : PySem.W.nsIn K mainGlobals "eldest" = some (some (.ref f39)))
    (l39 : K.lookup f39 = some ⟨oc39, od39, .func (PySem.W.fnOf "eldest" "eldest" (defArgs (top 60)) (defBody (top 60)) (defScope (top 60)) .none kV39 dc39 pm39 an39 cd39 ct39), sl39⟩)
    (c39 : PySem.W.codeIn K cd39 "eldest" = true)
    (k39 : PySem.W.keepIn K (.ref f39) = true)
    (a40 : PySem.W.nsIn K mainGlobals "kin" = some (some (.ref f40)))
    (l40 : K.lookup f40 = some ⟨oc40, od40, .func (PySem.W.fnOf "kin" "kin" (defArgs (top 61)) (defBody (top 61)) (defScope (top 61)) .none kV40 dc40 pm40 an40 cd40 ct40), sl40⟩)
    (c40 : PySem.W.codeIn K cd40 "kin" = true)
    (k40 : PySem.W.keepIn K (.ref f40) = true)
    (a41 : PySem.W.nsIn K mainGlobals "need_told" = some (some (.ref f41)))
    (l41 : K.lookup f41 = some ⟨oc41, od41, .func (PySem.W.fnOf "need_told" "need_told" (defArgs (top 65)) (defBody (top 65)) (defScope (top 65)) .none kV41 dc41 pm41 an41 cd41 ct41), sl41⟩)
    (c41 : PySem.W.codeIn K cd41 "need_told" = true)
    (k41 : PySem.W.keepIn K (.ref f41) = true)
    (a42 : PySem.W.nsIn K mainGlobals "is_told" = some (some (.ref f42)))
    (l42 : K.lookup f42 = some ⟨oc42, od42, .func (PySem.W.fnOf "is_told" "is_told" (defArgs (top 66)) (defBody (top 66)) (defScope (top 66)) .none kV42 dc42 pm42 an42 cd42 ct42), sl42⟩)
    (c42 : PySem.W.codeIn K cd42 "is_told" = true)
    (k42 : PySem.W.keepIn K (.ref f42) = true)
    (a43 : PySem.W.nsIn K mainGlobals "fits_in" = some (some (.ref f43)))
    (l43 : K.lookup f43 = some ⟨oc43, od43, .func (PySem.W.fnOf "fits_in" "fits_in" (defArgs (top 67)) (defBody (top 67)) (defScope (top 67)) .none kV43 dc43 pm43 an43 cd43 ct43), sl43⟩)
    (c43 : PySem.W.codeIn K cd43 "fits_in" = true)
    (k43 : PySem.W.keepIn K (.ref f43) = true)
    (a44 : PySem.W.nsIn K mainGlobals "fits" = some (some (.ref f44)))
    (l44 : K.lookup f44 = some ⟨oc44, od44, .func (PySem.W.fnOf "fits" "fits" (defArgs (top 68)) (defBody (top 68)) (defScope (top 68)) .none kV44 dc44 pm44 an44 cd44 ct44), sl44⟩)
    (c44 : PySem.W.codeIn K cd44 "fits" = true)
    (k44 : PySem.W.keepIn K (.ref f44) = true)
    (a45 : PySem.W.nsIn K mainGlobals "sure" = some (some (.ref f45)))
    (l45 : K.lookup f45 = some ⟨oc45, od45, .func (PySem.W.fnOf "sure" "sure" (defArgs (top 69)) (defBody (top 69)) (defScope (top 69)) .none kV45 dc45 pm45 an45 cd45 ct45), sl45⟩)
    (c45 : PySem.W.codeIn K cd45 "sure" = true)
    (k45 : PySem.W.keepIn K (.ref f45) = true)
    (a46 : PySem.W.nsIn K mainGlobals "story_in" = some (some (.ref f46)))
    (l46 : K.lookup f46 = some ⟨oc46, od46, .func (PySem.W.fnOf "story_in" "story_in" (defArgs (top 72)) (defBody (top 72)) (defScope (top 72)) .none kV46 dc46 pm46 an46 cd46 ct46), sl46⟩)
    (c46 : PySem.W.codeIn K cd46 "story_in" = true)
    (k46 : PySem.W.keepIn K (.ref f46) = true)
    (a47 : PySem.W.nsIn K mainGlobals "story" = some (some (.ref f47)))
    (l47 : K.lookup f47 = some ⟨oc47, od47, .func (PySem.W.fnOf "story" "story" (defArgs (top 73)) (defBody (top 73)) (defScope (top 73)) .none kV47 dc47 pm47 an47 cd47 ct47), sl47⟩)
    (c47 : PySem.W.codeIn K cd47 "story" = true)
    (k47 : PySem.W.keepIn K (.ref f47) = true)
    (a48 : PySem.W.nsIn K mainGlobals "_law_taken" = some (some (.ref f48)))
    (l48 : K.lookup f48 = some ⟨oc48, od48, .func (PySem.W.fnOf "_law_taken" "_law_taken" (defArgs (top 75)) (defBody (top 75)) (defScope (top 75)) .none kV48 dc48 pm48 an48 cd48 ct48), sl48⟩)
    (c48 : PySem.W.codeIn K cd48 "_law_taken" = true)
    (k48 : PySem.W.keepIn K (.ref f48) = true)
    (a49 : PySem.W.nsIn K mainGlobals "_law_web" = some (some (.ref f49)))
    (l49 : K.lookup f49 = some ⟨oc49, od49, .func (PySem.W.fnOf "_law_web" "_law_web" (defArgs (top 76)) (defBody (top 76)) (defScope (top 76)) .none kV49 dc49 pm49 an49 cd49 ct49), sl49⟩)
    (c49 : PySem.W.codeIn K cd49 "_law_web" = true)
    (k49 : PySem.W.keepIn K (.ref f49) = true)
    (a50 : PySem.W.nsIn K mainGlobals "_law_state" = some (some (.ref f50)))
    (l50 : K.lookup f50 = some ⟨oc50, od50, .func (PySem.W.fnOf "_law_state" "_law_state" (defArgs (top 77)) (defBody (top 77)) (defScope (top 77)) .none kV50 dc50 pm50 an50 cd50 ct50), sl50⟩)
    (c50 : PySem.W.codeIn K cd50 "_law_state" = true)
    (k50 : PySem.W.keepIn K (.ref f50) = true)
    (a51 : PySem.W.nsIn K mainGlobals "law" = some (some (.ref f51)))
    (l51 : K.lookup f51 = some ⟨oc51, od51, .func (PySem.W.fnOf "law" "law" (defArgs (top 78)) (defBody (top 78)) (defScope (top 78)) .none kV51 dc51 pm51 an51 cd51 ct51), sl51⟩)
    (c51 : PySem.W.codeIn K cd51 "law" = true)
    (k51 : PySem.W.keepIn K (.ref f51) = true)
    (n_BadFolk : PySem.W.nsIn K mainGlobals "BadFolk" = some (some (.ref e_BadFolk)))
    (x_BadFolk : PySem.W.excIn K e_BadFolk vbm "ValueError.__new__" = true)
    (y_BadFolk : PySem.W.keepIn K (.ref e_BadFolk) = true)
    (b_BadFolk : PySem.W.subIn K (.ref e_BadFolk) (.type "BaseException") = some true)
    (t_BadFolk : PySem.W.typeIn K (.ref e_BadFolk) = some (.type "type"))
    (n_BadNumber : PySem.W.nsIn K mainGlobals "BadNumber" = some (some (.ref e_BadNumber)))
    (x_BadNumber : PySem.W.excIn K e_BadNumber vbm "ValueError.__new__" = true)
    (y_BadNumber : PySem.W.keepIn K (.ref e_BadNumber) = true)
    (b_BadNumber : PySem.W.subIn K (.ref e_BadNumber) (.type "BaseException") = some true)
    (t_BadNumber : PySem.W.typeIn K (.ref e_BadNumber) = some (.type "type"))
    (n_BadState : PySem.W.nsIn K mainGlobals "BadState" = some (some (.ref e_BadState)))
    (x_BadState : PySem.W.excIn K e_BadState vbm "ValueError.__new__" = true)
    (y_BadState : PySem.W.keepIn K (.ref e_BadState) = true)
    (b_BadState : PySem.W.subIn K (.ref e_BadState) (.type "BaseException") = some true)
    (t_BadState : PySem.W.typeIn K (.ref e_BadState) = some (.type "type"))
    (v_MOODS : PySem.W.nsIn K mainGlobals "MOODS" = some (some (.int 3 t_MOODS)))
    (v_MOST_ALL : PySem.W.nsIn K mainGlobals "MOST_ALL" = some (some (.int 7 t_MOST_ALL)))
    (v_MOST_BACK : PySem.W.nsIn K mainGlobals "MOST_BACK" = some (some (.int 100 t_MOST_BACK)))
    (v_MOST_FOLK : PySem.W.nsIn K mainGlobals "MOST_FOLK" = some (some (.int 10 t_MOST_FOLK)))
    (v_MOST_RUN : PySem.W.nsIn K mainGlobals "MOST_RUN" = some (some (.int 500 t_MOST_RUN)))
    (v_MOST_STATES : PySem.W.nsIn K mainGlobals "MOST_STATES" = some (some (.int 20000 t_MOST_STATES)))
    (v_MOST_STORY : PySem.W.nsIn K mainGlobals "MOST_STORY" = some (some (.int 300 t_MOST_STORY)))
    (v_MOST_TICK : PySem.W.nsIn K mainGlobals "MOST_TICK" = some (some (.int 1000000000000000000000000000000 t_MOST_TICK)))
    (v_MOST_TOLD : PySem.W.nsIn K mainGlobals "MOST_TOLD" = some (some (.int 60 t_MOST_TOLD)))
    (n_NotText : PySem.W.nsIn K mainGlobals "NotText" = some (some (.ref e_NotText)))
    (x_NotText : PySem.W.excIn K e_NotText vbm "ValueError.__new__" = true)
    (y_NotText : PySem.W.keepIn K (.ref e_NotText) = true)
    (b_NotText : PySem.W.subIn K (.ref e_NotText) (.type "BaseException") = some true)
    (t_NotText : PySem.W.typeIn K (.ref e_NotText) = some (.type "type"))
    (v_SIGNS : PySem.W.nsIn K mainGlobals "SIGNS" = some (some (.str "012" t_SIGNS)))
    (z_all : PySem.W.nsIn K mainGlobals "all" = some none)
    (z_any : PySem.W.nsIn K mainGlobals "any" = some none)
    (z_bool : PySem.W.nsIn K mainGlobals "bool" = some none)
    (z_int : PySem.W.nsIn K mainGlobals "int" = some none)
    (z_isinstance : PySem.W.nsIn K mainGlobals "isinstance" = some none)
    (z_len : PySem.W.nsIn K mainGlobals "len" = some none)
    (z_list : PySem.W.nsIn K mainGlobals "list" = some none)
    (z_max : PySem.W.nsIn K mainGlobals "max" = some none)
    (z_min : PySem.W.nsIn K mainGlobals "min" = some none)
    (z_range : PySem.W.nsIn K mainGlobals "range" = some none)
    (z_sorted : PySem.W.nsIn K mainGlobals "sorted" = some none)
    (z_str : PySem.W.nsIn K mainGlobals "str" = some none)
    (z_tuple : PySem.W.nsIn K mainGlobals "tuple" = some none)
    (z_zip : PySem.W.nsIn K mainGlobals "zip" = some none)
    (n_BadWeb : PySem.W.nsIn K mainGlobals "BadWeb" = some (some (.ref e_BadWeb)))
    (hC_BadWeb : K.lookup e_BadWeb = some (excClassObj nm_BadWeb q_BadWeb e_BadWeb NN_BadWeb bs_BadWeb bm_BadWeb true sn_BadWeb sub_BadWeb ab_BadWeb col_BadWeb dd_BadWeb k0_BadWeb k1_BadWeb k2_BadWeb k3_BadWeb k5_BadWeb "ValueError.__new__"))
    (bm1_BadWeb : PySem.HandSPX.refsVE bm_BadWeb = true)
    (sa_BadWeb : PySem.W.findIn K (.ref e_BadWeb) "__setattr__" = some (some (.builtin "object.__setattr__")))
    (b_BadWeb : PySem.W.subIn K (.ref e_BadWeb) (.type "BaseException") = some true)
    (t_BadWeb : PySem.W.typeIn K (.ref e_BadWeb) = some (.type "type"))
    (y_BadWeb : PySem.W.keepIn K (.ref e_BadWeb) = true)
    (iC_BadWeb : PySem.W.findIn K (.ref e_BadWeb) "__init__" = some (some (.ref fi_BadWeb)))
    (tI_BadWeb : PySem.W.typeIn K (.ref fi_BadWeb) = some (.type "function"))
    (lf_BadWeb : K.lookup fi_BadWeb = some ⟨oc_BadWeb, od_BadWeb, .func (PySem.W.fnX "__init__" "BadWeb.__init__" (defArgs (initOf (top 2))) (defBody (initOf (top 2))) (defScope (initOf (top 2))) [("__class__", cc_BadWeb)] .none kV_BadWeb doc_BadWeb pm_BadWeb an_BadWeb (.ref ca_BadWeb) ct_BadWeb), osl_BadWeb⟩)
    (cd_BadWeb : PySem.W.codeIn K (.ref ca_BadWeb) "BadWeb.__init__" = true)
    (lc_BadWeb : K.lookup ca_BadWeb = some ⟨ccl_BadWeb, cdd_BadWeb, .fields vs_BadWeb, ccs_BadWeb⟩)
    (hv_BadWeb : vs_BadWeb[2]? = some (.str file_BadWeb tf_BadWeb))
    (hf_BadWeb : ((l.prog.main.file : Str) == file_BadWeb) = true)
    (ht_BadWeb : (l.prog.main.scope.names.lookup ("super" : Str)).isSome = false)
    (ce_BadWeb : K.lookup cc_BadWeb = some ⟨cl_BadWeb, cld_BadWeb, .cell (some (.ref e_BadWeb)), csl_BadWeb⟩)
    (su_BadWeb : PySem.W.nsIn K mainGlobals "super" = some none)
    (op_BadWeb : PySem.W.nsIn K cStatics "thirdparty.any" = some none)
    (ms_BadWeb : PySem.W.mroIn K e_BadWeb (.ref e_BadWeb) = some true)
    (mv_BadWeb : PySem.W.mroIn K e_BadWeb (.type "ValueError") = some true)
    (ki_BadWeb : PySem.W.ks_superIn K e_BadWeb e_BadWeb "__init__" = some (some (.builtin "ValueError.__init__")))
    (no_BadWeb : PySem.W.findIn K (.ref e_BadWeb) "index" = some none)
    (n_TooMany : PySem.W.nsIn K mainGlobals "TooMany" = some (some (.ref e_TooMany)))
    (hC_TooMany : K.lookup e_TooMany = some (excClassObj nm_TooMany q_TooMany e_TooMany NN_TooMany bs_TooMany bm_TooMany true sn_TooMany sub_TooMany ab_TooMany col_TooMany dd_TooMany k0_TooMany k1_TooMany k2_TooMany k3_TooMany k5_TooMany "ValueError.__new__"))
    (bm1_TooMany : PySem.HandSPX.refsVE bm_TooMany = true)
    (sa_TooMany : PySem.W.findIn K (.ref e_TooMany) "__setattr__" = some (some (.builtin "object.__setattr__")))
    (b_TooMany : PySem.W.subIn K (.ref e_TooMany) (.type "BaseException") = some true)
    (t_TooMany : PySem.W.typeIn K (.ref e_TooMany) = some (.type "type"))
    (y_TooMany : PySem.W.keepIn K (.ref e_TooMany) = true)
    (iC_TooMany : PySem.W.findIn K (.ref e_TooMany) "__init__" = some (some (.ref fi_TooMany)))
    (tI_TooMany : PySem.W.typeIn K (.ref fi_TooMany) = some (.type "function"))
    (lf_TooMany : K.lookup fi_TooMany = some ⟨oc_TooMany, od_TooMany, .func (PySem.W.fnX "__init__" "TooMany.__init__" (defArgs (initOf (top 7))) (defBody (initOf (top 7))) (defScope (initOf (top 7))) [("__class__", cc_TooMany)] .none kV_TooMany doc_TooMany pm_TooMany an_TooMany (.ref ca_TooMany) ct_TooMany), osl_TooMany⟩)
    (cd_TooMany : PySem.W.codeIn K (.ref ca_TooMany) "TooMany.__init__" = true)
    (lc_TooMany : K.lookup ca_TooMany = some ⟨ccl_TooMany, cdd_TooMany, .fields vs_TooMany, ccs_TooMany⟩)
    (hv_TooMany : vs_TooMany[2]? = some (.str file_TooMany tf_TooMany))
    (hf_TooMany : ((l.prog.main.file : Str) == file_TooMany) = true)
    (ht_TooMany : (l.prog.main.scope.names.lookup ("super" : Str)).isSome = false)
    (ce_TooMany : K.lookup cc_TooMany = some ⟨cl_TooMany, cld_TooMany, .cell (some (.ref e_TooMany)), csl_TooMany⟩)
    (su_TooMany : PySem.W.nsIn K mainGlobals "super" = some none)
    (op_TooMany : PySem.W.nsIn K cStatics "thirdparty.any" = some none)
    (ms_TooMany : PySem.W.mroIn K e_TooMany (.ref e_TooMany) = some true)
    (mv_TooMany : PySem.W.mroIn K e_TooMany (.type "ValueError") = some true)
    (ki_TooMany : PySem.W.ks_superIn K e_TooMany e_TooMany "__init__" = some (some (.builtin "ValueError.__init__")))
    (no_TooMany : PySem.W.findIn K (.ref e_TooMany) "most" = some none)
    : LawAtS l w K (L2.CX l.prog w) 9 63 "_law_script" mg fa h := by
  have e0 := hfa.symm.trans (PySem.W.mg_of KX G a51)
  cases e0
  have B : Bs l.prog w K mg := ⟨⟨e_BadFolk, PySem.W.mg_of KX G n_BadFolk, x_BadFolk, y_BadFolk, b_BadFolk, t_BadFolk⟩, ⟨e_BadNumber, PySem.W.mg_of KX G n_BadNumber, x_BadNumber, y_BadNumber, b_BadNumber, t_BadNumber⟩, ⟨e_BadState, PySem.W.mg_of KX G n_BadState, x_BadState, y_BadState, b_BadState, t_BadState⟩, ⟨_, PySem.W.mg_of KX G v_MOODS⟩, ⟨_, PySem.W.mg_of KX G v_MOST_ALL⟩, ⟨_, PySem.W.mg_of KX G v_MOST_BACK⟩, ⟨_, PySem.W.mg_of KX G v_MOST_FOLK⟩, ⟨_, PySem.W.mg_of KX G v_MOST_RUN⟩, ⟨_, PySem.W.mg_of KX G v_MOST_STATES⟩, ⟨_, PySem.W.mg_of KX G v_MOST_STORY⟩, ⟨_, PySem.W.mg_of KX G v_MOST_TICK⟩, ⟨_, PySem.W.mg_of KX G v_MOST_TOLD⟩, ⟨e_NotText, PySem.W.mg_of KX G n_NotText, x_NotText, y_NotText, b_NotText, t_NotText⟩, ⟨_, PySem.W.mg_of KX G v_SIGNS⟩, PySem.W.mg_none_of KX G z_all, PySem.W.mg_none_of KX G z_any, PySem.W.mg_none_of KX G z_bool, PySem.W.mg_none_of KX G z_int, PySem.W.mg_none_of KX G z_isinstance, PySem.W.mg_none_of KX G z_len, PySem.W.mg_none_of KX G z_list, PySem.W.mg_none_of KX G z_max, PySem.W.mg_none_of KX G z_min, PySem.W.mg_none_of KX G z_range, PySem.W.mg_none_of KX G z_sorted, PySem.W.mg_none_of KX G z_str, PySem.W.mg_none_of KX G z_tuple, PySem.W.mg_none_of KX G z_zip, erf_of (fld := "index") (x := "index") (PySem.W.mg_of KX G n_BadWeb) hC_BadWeb bm1_BadWeb sa_BadWeb b_BadWeb t_BadWeb y_BadWeb iC_BadWeb tI_BadWeb lf_BadWeb cd_BadWeb lc_BadWeb hv_BadWeb hf_BadWeb ht_BadWeb ce_BadWeb (PySem.W.mg_none_of KX G su_BadWeb) op_BadWeb ms_BadWeb mv_BadWeb ki_BadWeb no_BadWeb, erf_of (fld := "most") (x := "most") (PySem.W.mg_of KX G n_TooMany) hC_TooMany bm1_TooMany sa_TooMany b_TooMany t_TooMany y_TooMany iC_TooMany tI_TooMany lf_TooMany cd_TooMany lc_TooMany hv_TooMany hf_TooMany ht_TooMany ce_TooMany (PySem.W.mg_none_of KX G su_TooMany) op_TooMany ms_TooMany mv_TooMany ki_TooMany no_TooMany⟩
  have F0 := fun_mk (st := top 10) l0 c0 k0
  have B0 := F0.binds (ps := ["value", "low", "high"]) fun _ _ _ _ _ _ us hl => match us, hl with | [_, _, _], _ => rfl
  have F1 := fun_mk (st := top 11) l1 c1 k1
  have B1 := F1.binds (ps := ["folk", "value"]) fun _ _ _ _ _ _ us hl => match us, hl with | [_, _], _ => rfl
  have F2 := fun_mk (st := top 12) l2 c2 k2
  have B2 := F2.binds (ps := ["value"]) fun _ _ _ _ _ _ us hl => match us, hl with | [_], _ => rfl
  have F3 := fun_mk (st := top 13) l3 c3 k3
  have B3 := F3.binds (ps := ["web", "value"]) fun _ _ _ _ _ _ us hl => match us, hl with | [_, _], _ => rfl
  have F4 := fun_mk (st := top 14) l4 c4 k4
  have B4 := F4.binds (ps := ["web"]) fun _ _ _ _ _ _ us hl => match us, hl with | [_], _ => rfl
  have F5 := fun_mk (st := top 15) l5 c5 k5
  have B5 := F5.binds (ps := ["near", "one"]) fun _ _ _ _ _ _ us hl => match us, hl with | [_, _], _ => rfl
  have F6 := fun_mk (st := top 16) l6 c6 k6
  have B6 := F6.binds (ps := ["web", "one", "other"]) fun _ _ _ _ _ _ us hl => match us, hl with | [_, _, _], _ => rfl
  have F7 := fun_mk (st := top 20) l7 c7 k7
  have B7 := F7.binds (ps := ["value", "low", "high"]) fun _ _ _ _ _ _ us hl => match us, hl with | [_, _, _], _ => rfl
  have F8 := fun_mk (st := top 21) l8 c8 k8
  have B8 := F8.binds (ps := ["value", "many"]) fun _ _ _ _ _ _ us hl => match us, hl with | [_, _], _ => rfl
  have F9 := fun_mk (st := top 22) l9 c9 k9
  have B9 := F9.binds (ps := ["web", "state"]) fun _ _ _ _ _ _ us hl => match us, hl with | [_, _], _ => rfl
  have F10 := fun_mk (st := top 23) l10 c10 k10
  have B10 := F10.binds (ps := ["state", "one", "other"]) fun _ _ _ _ _ _ us hl => match us, hl with | [_, _, _], _ => rfl
  have F11 := fun_mk (st := top 24) l11 c11 k11
  have B11 := F11.binds (ps := ["near", "state"]) fun _ _ _ _ _ _ us hl => match us, hl with | [_, _], _ => rfl
  have F12 := fun_mk (st := top 25) l12 c12 k12
  have B12 := F12.binds (ps := ["near", "state"]) fun _ _ _ _ _ _ us hl => match us, hl with | [_, _], _ => rfl
  have F13 := fun_mk (st := top 26) l13 c13 k13
  have B13 := F13.binds (ps := ["web", "state"]) fun _ _ _ _ _ _ us hl => match us, hl with | [_, _], _ => rfl
  have F14 := fun_mk (st := top 27) l14 c14 k14
  have B14 := F14.binds (ps := ["web", "state"]) fun _ _ _ _ _ _ us hl => match us, hl with | [_, _], _ => rfl
  have F15 := fun_mk (st := top 28) l15 c15 k15
  have B15 := F15.binds (ps := ["near", "state", "many"]) fun _ _ _ _ _ _ us hl => match us, hl with | [_, _, _], _ => rfl
  have F16 := fun_mk (st := top 29) l16 c16 k16
  have B16 := F16.binds (ps := ["web", "state", "many"]) fun _ _ _ _ _ _ us hl => match us, hl with | [_, _, _], _ => rfl
  have F17 := fun_mk (st := top 32) l17 c17 k17
  have B17 := F17.binds (ps := ["web", "state"]) fun _ _ _ _ _ _ us hl => match us, hl with | [_, _], _ => rfl
  have F18 := fun_mk (st := top 33) l18 c18 k18
  have B18 := F18.binds (ps := ["row", "table"]) fun _ _ _ _ _ _ us hl => match us, hl with | [_, _], _ => rfl
  have F19 := fun_mk (st := top 34) l19 c19 k19
  have B19 := F19.binds (ps := ["table"]) fun _ _ _ _ _ _ us hl => match us, hl with | [_], _ => rfl
  have F20 := fun_mk (st := top 35) l20 c20 k20
  have B20 := F20.binds (ps := ["many", "one"]) fun _ _ _ _ _ _ us hl => match us, hl with | [_, _], _ => rfl
  have F21 := fun_mk (st := top 36) l21 c21 k21
  have B21 := F21.binds (ps := ["row"]) fun _ _ _ _ _ _ us hl => match us, hl with | [_], _ => rfl
  have F22 := fun_mk (st := top 37) l22 c22 k22
  have B22 := F22.binds (ps := ["web", "state", "many"]) fun _ _ _ _ _ _ us hl => match us, hl with | [_, _, _], _ => rfl
  have F23 := fun_mk (st := top 38) l23 c23 k23
  have B23 := F23.binds (ps := ["web", "state", "many"]) fun _ _ _ _ _ _ us hl => match us, hl with | [_, _, _], _ => rfl
  have F24 := fun_mk (st := top 39) l24 c24 k24
  have B24 := F24.binds (ps := ["web", "state", "many"]) fun _ _ _ _ _ _ us hl => match us, hl with | [_, _, _], _ => rfl
  have F25 := fun_mk (st := top 40) l25 c25 k25
  have B25 := F25.binds (ps := ["web", "state", "many"]) fun _ _ _ _ _ _ us hl => match us, hl with | [_, _, _], _ => rfl
  have F26 := fun_mk (st := top 43) l26 c26 k26
  have B26 := F26.binds (ps := ["many"]) fun _ _ _ _ _ _ us hl => match us, hl with | [_], _ => rfl
  have F27 := fun_mk (st := top 44) l27 c27 k27
  have B27 := F27.binds (ps := ["web"]) fun _ _ _ _ _ _ us hl => match us, hl with | [_], _ => rfl
  have F28 := fun_mk (st := top 46) l28 c28 k28
  have B28 := F28.binds (ps := ["near", "state"]) fun _ _ _ _ _ _ us hl => match us, hl with | [_, _], _ => rfl
  have F29 := fun_mk (st := top 47) l29 c29 k29
  have B29 := F29.binds (ps := ["web", "state"]) fun _ _ _ _ _ _ us hl => match us, hl with | [_, _], _ => rfl
  have F30 := fun_mk (st := top 48) l30 c30 k30
  have B30 := F30.binds (ps := ["row", "first", "many"]) fun _ _ _ _ _ _ us hl => match us, hl with | [_, _, _], _ => rfl
  have F31 := fun_mk (st := top 49) l31 c31 k31
  have B31 := F31.binds (ps := ["web", "one", "other"]) fun _ _ _ _ _ _ us hl => match us, hl with | [_, _, _], _ => rfl
  have F32 := fun_mk (st := top 50) l32 c32 k32
  have B32 := F32.binds (ps := ["web", "state", "other"]) fun _ _ _ _ _ _ us hl => match us, hl with | [_, _, _], _ => rfl
  have F33 := fun_mk (st := top 54) l33 c33 k33
  have B33 := F33.binds (ps := ["many"]) fun _ _ _ _ _ _ us hl => match us, hl with | [_], _ => rfl
  have F34 := fun_mk (st := top 55) l34 c34 k34
  have B34 := F34.binds (ps := ["near", "state", "lots"]) fun _ _ _ _ _ _ us hl => match us, hl with | [_, _, _], _ => rfl
  have F35 := fun_mk (st := top 56) l35 c35 k35
  have B35 := F35.binds (ps := ["web", "state"]) fun _ _ _ _ _ _ us hl => match us, hl with | [_, _], _ => rfl
  have F36 := fun_mk (st := top 57) l36 c36 k36
  have B36 := F36.binds (ps := ["web"]) fun _ _ _ _ _ _ us hl => match us, hl with | [_], _ => rfl
  have F37 := fun_mk (st := top 58) l37 c37 k37
  have B37 := F37.binds (ps := ["leads", "counts"]) fun _ _ _ _ _ _ us hl => match us, hl with | [_, _], _ => rfl
  have F38 := fun_mk (st := top 59) l38 c38 k38
  have B38 := F38.binds (ps := ["many"]) fun _ _ _ _ _ _ us hl => match us, hl with | [_], _ => rfl
  have F39 := fun_mk (st := top 60) l39 c39 k39
  have B39 := F39.binds (ps := ["web", "state"]) fun _ _ _ _ _ _ us hl => match us, hl with | [_, _], _ => rfl
  have F40 := fun_mk (st := top 61) l40 c40 k40
  have B40 := F40.binds (ps := ["web", "state", "many"]) fun _ _ _ _ _ _ us hl => match us, hl with | [_, _, _], _ => rfl
  have F41 := fun_mk (st := top 65) l41 c41 k41
  have B41 := F41.binds (ps := ["web", "one", "told"]) fun _ _ _ _ _ _ us hl => match us, hl with | [_, _, _], _ => rfl
  have F42 := fun_mk (st := top 66) l42 c42 k42
  have B42 := F42.binds (ps := ["near", "state", "one", "told"]) fun _ _ _ _ _ _ us hl => match us, hl with | [_, _, _, _], _ => rfl
  have F43 := fun_mk (st := top 67) l43 c43 k43
  have B43 := F43.binds (ps := ["web", "one", "told"]) fun _ _ _ _ _ _ us hl => match us, hl with | [_, _, _], _ => rfl
  have F44 := fun_mk (st := top 68) l44 c44 k44
  have B44 := F44.binds (ps := ["web", "one", "told"]) fun _ _ _ _ _ _ us hl => match us, hl with | [_, _, _], _ => rfl
  have F45 := fun_mk (st := top 69) l45 c45 k45
  have B45 := F45.binds (ps := ["web", "one", "told"]) fun _ _ _ _ _ _ us hl => match us, hl with | [_, _, _], _ => rfl
  have F46 := fun_mk (st := top 72) l46 c46 k46
  have B46 := F46.binds (ps := ["near", "state", "one", "last"]) fun _ _ _ _ _ _ us hl => match us, hl with | [_, _, _, _], _ => rfl
  have F47 := fun_mk (st := top 73) l47 c47 k47
  have B47 := F47.binds (ps := ["web", "state", "one", "last"]) fun _ _ _ _ _ _ us hl => match us, hl with | [_, _, _, _], _ => rfl
  have F48 := fun_mk (st := top 75) l48 c48 k48
  have B48 := F48.binds (ps := ["_law_row", "_law_many"]) fun _ _ _ _ _ _ us hl => match us, hl with | [_, _], _ => rfl
  have F49 := fun_mk (st := top 76) l49 c49 k49
  have B49 := F49.binds (ps := ["_law_row", "_law_most"]) fun _ _ _ _ _ _ us hl => match us, hl with | [_, _], _ => rfl
  have F50 := fun_mk (st := top 77) l50 c50 k50
  have B50 := F50.binds (ps := ["_law_row", "_law_web_here"]) fun _ _ _ _ _ _ us hl => match us, hl with | [_, _], _ => rfl
  have F51 := fun_mk (st := top 78) l51 c51 k51
  have B51 := F51.binds (ps := ["_law_script"]) fun _ _ _ _ _ _ us hl => match us, hl with | [_], _ => rfl
  refine ⟨PySem.W.fnOf "law" "law" (defArgs (top 78)) (defBody (top 78)) (defScope (top 78)) .none kV51 dc51 pm51 an51 cd51 ct51, [], spM K ([] : List (Addr × Str)) mg 1 f_law, ?_, ?_, ?_, fun s v => .of_eq rfl, fun H a ns hl hb hT hS => law_sp ?_ hS (law_true ns hl hb), fun base KB GB TB => ?_⟩
  · intro p hp; cases hp
  · intro p hp; cases hp
  · intro p hp; cases hp
  · intro p hp; cases hp
  · have C0 := ok_is_number (P := l.prog) (w := w) (base := base) (T := ([] : List (Addr × Str))) B  F0 (PySem.W.mg_of KX G a0) B0
    have C1 := ok_is_street (P := l.prog) (w := w) (base := base) (T := ([] : List (Addr × Str))) B C0 F1 (PySem.W.mg_of KX G a1) B1
    have C2 := ok_need_web (P := l.prog) (w := w) (base := base) (T := ([] : List (Addr × Str))) B C0 C1 F2 (PySem.W.mg_of KX G a2) B2
    have C3 := ok_need_one (P := l.prog) (w := w) (base := base) (T := ([] : List (Addr × Str))) B C0 F3 (PySem.W.mg_of KX G a3) B3
    have C4 := ok_near_lists (P := l.prog) (w := w) (base := base) (T := ([] : List (Addr × Str))) B  F4 (PySem.W.mg_of KX G a4) B4
    have C5 := ok_ways_from (P := l.prog) (w := w) (base := base) (T := ([] : List (Addr × Str))) B  F5 (PySem.W.mg_of KX G a5) B5
    have C6 := ok_far (P := l.prog) (w := w) (base := base) (T := ([] : List (Addr × Str))) B C2 C3 C4 C5 F6 (PySem.W.mg_of KX G a6) B6
    have C7 := ok_need_number (P := l.prog) (w := w) (base := base) (T := ([] : List (Addr × Str))) B C0 F7 (PySem.W.mg_of KX G a7) B7
    have C8 := ok_are_moods (P := l.prog) (w := w) (base := base) (T := ([] : List (Addr × Str))) B C0 F8 (PySem.W.mg_of KX G a8) B8
    have C9 := ok_need_both (P := l.prog) (w := w) (base := base) (T := ([] : List (Addr × Str))) B C2 C8 F9 (PySem.W.mg_of KX G a9) B9
    have C10 := ok_step (P := l.prog) (w := w) (base := base) (T := ([] : List (Addr × Str))) B  F10 (PySem.W.mg_of KX G a10) B10
    have C11 := ok_stirred_in (P := l.prog) (w := w) (base := base) (T := ([] : List (Addr × Str))) B C10 F11 (PySem.W.mg_of KX G a11) B11
    have C12 := ok_next_state (P := l.prog) (w := w) (base := base) (T := ([] : List (Addr × Str))) B C11 F12 (PySem.W.mg_of KX G a12) B12
    have C13 := ok_stirred (P := l.prog) (w := w) (base := base) (T := ([] : List (Addr × Str))) B C4 C9 C11 F13 (PySem.W.mg_of KX G a13) B13
    have C14 := ok_tick (P := l.prog) (w := w) (base := base) (T := ([] : List (Addr × Str))) B C4 C9 C12 F14 (PySem.W.mg_of KX G a14) B14
    have C15 := ok_states_from (P := l.prog) (w := w) (base := base) (T := ([] : List (Addr × Str))) B C12 F15 (PySem.W.mg_of KX G a15) B15
    have C16 := ok_run (P := l.prog) (w := w) (base := base) (T := ([] : List (Addr × Str))) B C4 C7 C9 C15 F16 (PySem.W.mg_of KX G a16) B16
    have C17 := ok_table_of (P := l.prog) (w := w) (base := base) (T := ([] : List (Addr × Str))) B C4 C10 F17 (PySem.W.mg_of KX G a17) B17
    have C18 := ok_row_behind (P := l.prog) (w := w) (base := base) (T := ([] : List (Addr × Str))) B  F18 (PySem.W.mg_of KX G a18) B18
    have C19 := ok_twice (P := l.prog) (w := w) (base := base) (T := ([] : List (Addr × Str))) B C18 F19 (PySem.W.mg_of KX G a19) B19
    have C20 := ok_first_row (P := l.prog) (w := w) (base := base) (T := ([] : List (Addr × Str))) B  F20 (PySem.W.mg_of KX G a20) B20
    have C21 := ok_most_of (P := l.prog) (w := w) (base := base) (T := ([] : List (Addr × Str))) B  F21 (PySem.W.mg_of KX G a21) B21
    have C22 := ok_changes_in (P := l.prog) (w := w) (base := base) (T := ([] : List (Addr × Str))) B C17 C18 C19 C20 C21 F22 (PySem.W.mg_of KX G a22) B22
    have C23 := ok_state_in (P := l.prog) (w := w) (base := base) (T := ([] : List (Addr × Str))) B C22 F23 (PySem.W.mg_of KX G a23) B23
    have C24 := ok_changes (P := l.prog) (w := w) (base := base) (T := ([] : List (Addr × Str))) B C7 C9 C22 F24 (PySem.W.mg_of KX G a24) B24
    have C25 := ok_state_at (P := l.prog) (w := w) (base := base) (T := ([] : List (Addr × Str))) B C7 C9 C23 F25 (PySem.W.mg_of KX G a25) B25
    have C26 := ok_all_states (P := l.prog) (w := w) (base := base) (T := ([] : List (Addr × Str))) B  F26 (PySem.W.mg_of KX G a26) B26
    have C27 := ok_need_few (P := l.prog) (w := w) (base := base) (T := ([] : List (Addr × Str))) B  F27 (PySem.W.mg_of KX G a27) B27
    have C28 := ok_row_round (P := l.prog) (w := w) (base := base) (T := ([] : List (Addr × Str))) B C12 F28 (PySem.W.mg_of KX G a28) B28
    have C29 := ok_coming_round (P := l.prog) (w := w) (base := base) (T := ([] : List (Addr × Str))) B C4 C9 C28 F29 (PySem.W.mg_of KX G a29) B29
    have C30 := ok_state_of (P := l.prog) (w := w) (base := base) (T := ([] : List (Addr × Str))) B  F30 (PySem.W.mg_of KX G a30) B30
    have C31 := ok_meet (P := l.prog) (w := w) (base := base) (T := ([] : List (Addr × Str))) B C4 C9 C28 C30 F31 (PySem.W.mg_of KX G a31) B31
    have C32 := ok_becomes (P := l.prog) (w := w) (base := base) (T := ([] : List (Addr × Str))) B C4 C9 C28 F32 (PySem.W.mg_of KX G a32) B32
    have C33 := ok_lots_of (P := l.prog) (w := w) (base := base) (T := ([] : List (Addr × Str))) B  F33 (PySem.W.mg_of KX G a33) B33
    have C34 := ok_ahead_in (P := l.prog) (w := w) (base := base) (T := ([] : List (Addr × Str))) B C12 F34 (PySem.W.mg_of KX G a34) B34
    have C35 := ok_ahead (P := l.prog) (w := w) (base := base) (T := ([] : List (Addr × Str))) B C4 C9 C33 C34 F35 (PySem.W.mg_of KX G a35) B35
    have C36 := ok_leads_of (P := l.prog) (w := w) (base := base) (T := ([] : List (Addr × Str))) B C4 C12 C26 F36 (PySem.W.mg_of KX G a36) B36
    have C37 := ok_counts_behind (P := l.prog) (w := w) (base := base) (T := ([] : List (Addr × Str))) B  F37 (PySem.W.mg_of KX G a37) B37
    have C38 := ok_need_few_states (P := l.prog) (w := w) (base := base) (T := ([] : List (Addr × Str))) B  F38 (PySem.W.mg_of KX G a38) B38
    have C39 := ok_eldest (P := l.prog) (w := w) (base := base) (T := ([] : List (Addr × Str))) B C4 C9 C28 C36 C37 C38 F39 (PySem.W.mg_of KX G a39) B39
    have C40 := ok_kin (P := l.prog) (w := w) (base := base) (T := ([] : List (Addr × Str))) B C7 C9 C36 C37 C38 F40 (PySem.W.mg_of KX G a40) B40
    have C41 := ok_need_told (P := l.prog) (w := w) (base := base) (T := ([] : List (Addr × Str))) B C2 C3 C27 F41 (PySem.W.mg_of KX G a41) B41
    have C42 := ok_is_told (P := l.prog) (w := w) (base := base) (T := ([] : List (Addr × Str))) B C12 F42 (PySem.W.mg_of KX G a42) B42
    have C43 := ok_fits_in (P := l.prog) (w := w) (base := base) (T := ([] : List (Addr × Str))) B C4 C26 C42 F43 (PySem.W.mg_of KX G a43) B43
    have C44 := ok_fits (P := l.prog) (w := w) (base := base) (T := ([] : List (Addr × Str))) B C41 C43 F44 (PySem.W.mg_of KX G a44) B44
    have C45 := ok_sure (P := l.prog) (w := w) (base := base) (T := ([] : List (Addr × Str))) B C41 C43 F45 (PySem.W.mg_of KX G a45) B45
    have C46 := ok_story_in (P := l.prog) (w := w) (base := base) (T := ([] : List (Addr × Str))) B C15 F46 (PySem.W.mg_of KX G a46) B46
    have C47 := ok_story (P := l.prog) (w := w) (base := base) (T := ([] : List (Addr × Str))) B C3 C4 C7 C9 C46 F47 (PySem.W.mg_of KX G a47) B47
    have C48 := ok__law_taken (P := l.prog) (w := w) (base := base) (T := ([] : List (Addr × Str))) B  F48 (PySem.W.mg_of KX G a48) B48
    have C49 := ok__law_web (P := l.prog) (w := w) (base := base) (T := ([] : List (Addr × Str))) B C48 F49 (PySem.W.mg_of KX G a49) B49
    have C50 := ok__law_state (P := l.prog) (w := w) (base := base) (T := ([] : List (Addr × Str))) B C48 F50 (PySem.W.mg_of KX G a50) B50
    exact ok_law B C6 C13 C14 C16 C24 C25 C29 C31 C32 C35 C39 C40 C44 C45 C47 C48 C49 C50 F51
end MP
open PySem PySem.W PyProof.Rows
set_option maxHeartbeats 0 in
theorem PySem.Challenge.cw_threemoods_k24_across_light_holds : PySem.Challenge.rw_threemoods_k24_across_light.Holds := by
  w_on; o_law; k_head; (case hw => w_witness2)
  k_fill
  refine LamX.walk_ofTs (l := PySem.Challenge.rw_threemoods_k24_across_light) (n := 63) (k := 9) (x := "_law_script") (CX := fun w => L2.CX PySem.Challenge.rw_threemoods_k24_across_light.prog w) rfl (by decide) rfl ⟨rfl, by decide, by decide⟩ (fun w h Y => PySem.W.kIn_of Y) ?F (fun _ _ _ _ _ h => MP.cx_no h)
  case F =>
    intro w mg fa h Y KX G hmg
    refine' MP.law_mk KX G hmg ?a0 ?l0 ?c0 ?k0 ?a1 ?l1 ?c1 ?k1 ?a2 ?l2 ?c2 ?k2 ?a3 ?l3 ?c3 ?k3 ?a4 ?l4 ?c4 ?k4 ?a5 ?l5 ?c5 ?k5 ?a6 ?l6 ?c6 ?k6 ?a7 ?l7 ?c7 ?k7 ?a8 ?l8 ?c8 ?k8 ?a9 ?l9 ?c9 ?k9 ?a10 ?l10 ?c10 ?k10 ?a11 ?l11 ?c11 ?k11 ?a12 ?l12 ?c12 ?k12 ?a13 ?l13 ?c13 ?k13 ?a14 ?l14 ?c14 ?k14 ?a15 ?l15 ?c15 ?k15 ?a16 ?l16 ?c16 ?k16 ?a17 ?l17 ?c17 ?k17 ?a18 ?l18 ?c18 ?k18 ?a19 ?l19 ?c19 ?k19 ?a20 ?l20 ?c20 ?k20 ?a21 ?l21 ?c21 ?k21 ?a22 ?l22 ?c22 ?k22 ?a23 ?l23 ?c23 ?k23 ?a24 ?l24 ?c24 ?k24 ?a25 ?l25 ?c25 ?k25 ?a26 ?l26 ?c26 ?k26 ?a27 ?l27 ?c27 ?k27 ?a28 ?l28 ?c28 ?k28 ?a29 ?l29 ?c29 ?k29 ?a30 ?l30 ?c30 ?k30 ?a31 ?l31 ?c31 ?k31 ?a32 ?l32 ?c32 ?k32 ?a33 ?l33 ?c33 ?k33 ?a34 ?l34 ?c34 ?k34 ?a35 ?l35 ?c35 ?k35 ?a36 ?l36 ?c36 ?k36 ?a37 ?l37 ?c37 ?k37 ?a38 ?l38 ?c38 ?k38 ?a39 ?l39 ?c39 ?k39 ?a40 ?l40 ?c40 ?k40 ?a41 ?l41 ?c41 ?k41 ?a42 ?l42 ?c42 ?k42 ?a43 ?l43 ?c43 ?k43 ?a44 ?l44 ?c44 ?k44 ?a45 ?l45 ?c45 ?k45 ?a46 ?l46 ?c46 ?k46 ?a47 ?l47 ?c47 ?k47 ?a48 ?l48 ?c48 ?k48 ?a49 ?l49 ?c49 ?k49 ?a50 ?l50 ?c50 ?k50 ?a51 ?l51 ?c51 ?k51 ?n_BadFolk ?x_BadFolk ?y_BadFolk ?b_BadFolk ?t_BadFolk ?n_BadNumber ?x_BadNumber ?y_BadNumber ?b_BadNumber ?t_BadNumber ?n_BadState ?x_BadState ?y_BadState ?b_BadState ?t_BadState ?v_MOODS ?v_MOST_ALL ?v_MOST_BACK ?v_MOST_FOLK ?v_MOST_RUN ?v_MOST_STATES ?v_MOST_STORY ?v_MOST_TICK ?v_MOST_TOLD ?n_NotText ?x_NotText ?y_NotText ?b_NotText ?t_NotText ?v_SIGNS ?z_all ?z_any ?z_bool ?z_int ?z_isinstance ?z_len ?z_list ?z_max ?z_min ?z_range ?z_sorted ?z_str ?z_tuple ?z_zip ?n_BadWeb ?hC_BadWeb ?bm1_BadWeb ?sa_BadWeb ?b_BadWeb ?t_BadWeb ?y_BadWeb ?iC_BadWeb ?tI_BadWeb ?lf_BadWeb ?cd_BadWeb ?lc_BadWeb ?hv_BadWeb ?hf_BadWeb ?ht_BadWeb ?ce_BadWeb ?su_BadWeb ?op_BadWeb ?ms_BadWeb ?mv_BadWeb ?ki_BadWeb ?no_BadWeb ?n_TooMany ?hC_TooMany ?bm1_TooMany ?sa_TooMany ?b_TooMany ?t_TooMany ?y_TooMany ?iC_TooMany ?tI_TooMany ?lf_TooMany ?cd_TooMany ?lc_TooMany ?hv_TooMany ?hf_TooMany ?ht_TooMany ?ce_TooMany ?su_TooMany ?op_TooMany ?ms_TooMany ?mv_TooMany ?ki_TooMany ?no_TooMany
    (case a0 => k_is)
    (case l0 => k_is)
    (case c0 => k_is)
    (case k0 => k_is)
    (case a1 => k_is)
    (case l1 => k_is)
    (case c1 => k_is)
    (case k1 => k_is)
    (case a2 => k_is)
    (case l2 => k_is)
    (case c2 => k_is)
    (case k2 => k_is)
    (case a3 => k_is)
    (case l3 => k_is)
    (case c3 => k_is)
    (case k3 => k_is)
    (case a4 => k_is)
    (case l4 => k_is)
    (case c4 => k_is)
    (case k4 => k_is)
    (case a5 => k_is)
    (case l5 => k_is)
    (case c5 => k_is)
    (case k5 => k_is)
    (case a6 => k_is)
    (case l6 => k_is)
    (case c6 => k_is)
    (case k6 => k_is)
    (case a7 => k_is)
    (case l7 => k_is)
    (case c7 => k_is)
    (case k7 => k_is)
    (case a8 => k_is)
    (case l8 => k_is)
    (case c8 => k_is)
    (case k8 => k_is)
    (case a9 => k_is)
    (case l9 => k_is)
    (case c9 => k_is)
    (case k9 => k_is)
    (case a10 => k_is)
    (case l10 => k_is)
    (case c10 => k_is)
    (case k10 => k_is)
    (case a11 => k_is)
    (case l11 => k_is)
    (case c11 => k_is)
    (case k11 => k_is)
    (case a12 => k_is)
    (case l12 => k_is)
    (case c12 => k_is)
    (case k12 => k_is)
    (case a13 => k_is)
    (case l13 => k_is)
    (case c13 => k_is)
    (case k13 => k_is)
    (case a14 => k_is)
    (case l14 => k_is)
    (case c14 => k_is)
    (case k14 => k_is)
    (case a15 => k_is)
    (case l15 => k_is)
    (case c15 => k_is)
    (case k15 => k_is)
    (case a16 => k_is)
    (case l16 => k_is)
    (case c16 => k_is)
    (case k16 => k_is)
    (case a17 => k_is)
    (case l17 => k_is)
    (case c17 => k_is)
    (case k17 => k_is)
    (case a18 => k_is)
    (case l18 => k_is)
    (case c18 => k_is)
    (case k18 => k_is)
    (case a19 => k_is)
    (case l19 => k_is)
    (case c19 => k_is)
    (case k19 => k_is)
    (case a20 => k_is)
    (case l20 => k_is)
    (case c20 => k_is)
    (case k20 => k_is)
    (case a21 => k_is)
    (case l21 => k_is)
    (case c21 => k_is)
    (case k21 => k_is)
    (case a22 => k_is)
    (case l22 => k_is)
    (case c22 => k_is)
    (case k22 => k_is)
    (case a23 => k_is)
    (case l23 => k_is)
    (case c23 => k_is)
    (case k23 => k_is)
    (case a24 => k_is)
    (case l24 => k_is)
    (case c24 => k_is)
    (case k24 => k_is)
    (case a25 => k_is)
    (case l25 => k_is)
    (case c25 => k_is)
    (case k25 => k_is)
    (case a26 => k_is)
    (case l26 => k_is)
    (case c26 => k_is)
    (case k26 => k_is)
    (case a27 => k_is)
    (case l27 => k_is)
    (case c27 => k_is)
    (case k27 => k_is)
    (case a28 => k_is)
    (case l28 => k_is)
    (case c28 => k_is)
    (case k28 => k_is)
    (case a29 => k_is)
    (case l29 => k_is)
    (case c29 => k_is)
    (case k29 => k_is)
    (case a30 => k_is)
    (case l30 => k_is)
    (case c30 => k_is)
    (case k30 => k_is)
    (case a31 => k_is)
    (case l31 => k_is)
    (case c31 => k_is)
    (case k31 => k_is)
    (case a32 => k_is)
    (case l32 => k_is)
    (case c32 => k_is)
    (case k32 => k_is)
    (case a33 => k_is)
    (case l33 => k_is)
    (case c33 => k_is)
    (case k33 => k_is)
    (case a34 => k_is)
    (case l34 => k_is)
    (case c34 => k_is)
    (case k34 => k_is)
    (case a35 => k_is)
    (case l35 => k_is)
    (case c35 => k_is)
    (case k35 => k_is)
    (case a36 => k_is)
    (case l36 => k_is)
    (case c36 => k_is)
    (case k36 => k_is)
    (case a37 => k_is)
    (case l37 => k_is)
    (case c37 => k_is)
    (case k37 => k_is)
    (case a38 => k_is)
    (case l38 => k_is)
    (case c38 => k_is)
    (case k38 => k_is)
    (case a39 => k_is)
    (case l39 => k_is)
    (case c39 => k_is)
    (case k39 => k_is)
    (case a40 => k_is)
    (case l40 => k_is)
    (case c40 => k_is)
    (case k40 => k_is)
    (case a41 => k_is)
    (case l41 => k_is)
    (case c41 => k_is)
    (case k41 => k_is)
    (case a42 => k_is)
    (case l42 => k_is)
    (case c42 => k_is)
    (case k42 => k_is)
    (case a43 => k_is)
    (case l43 => k_is)
    (case c43 => k_is)
    (case k43 => k_is)
    (case a44 => k_is)
    (case l44 => k_is)
    (case c44 => k_is)
    (case k44 => k_is)
    (case a45 => k_is)
    (case l45 => k_is)
    (case c45 => k_is)
    (case k45 => k_is)
    (case a46 => k_is)
    (case l46 => k_is)
    (case c46 => k_is)
    (case k46 => k_is)
    (case a47 => k_is)
    (case l47 => k_is)
    (case c47 => k_is)
    (case k47 => k_is)
    (case a48 => k_is)
    (case l48 => k_is)
    (case c48 => k_is)
    (case k48 => k_is)
    (case a49 => k_is)
    (case l49 => k_is)
    (case c49 => k_is)
    (case k49 => k_is)
    (case a50 => k_is)
    (case l50 => k_is)
    (case c50 => k_is)
    (case k50 => k_is)
    (case a51 => k_is)
    (case l51 => k_is)
    (case c51 => k_is)
    (case k51 => k_is)
    (case n_BadFolk => k_is)
    (case x_BadFolk => k_exc)
    (case y_BadFolk => k_is)
    (case b_BadFolk => k_is)
    (case t_BadFolk => k_is)
    (case n_BadNumber => k_is)
    (case x_BadNumber => k_exc)
    (case y_BadNumber => k_is)
    (case b_BadNumber => k_is)
    (case t_BadNumber => k_is)
    (case n_BadState => k_is)
    (case x_BadState => k_exc)
    (case y_BadState => k_is)
    (case b_BadState => k_is)
    (case t_BadState => k_is)
    (case v_MOODS => k_is)
    (case v_MOST_ALL => k_is)
    (case v_MOST_BACK => k_is)
    (case v_MOST_FOLK => k_is)
    (case v_MOST_RUN => k_is)
    (case v_MOST_STATES => k_is)
    (case v_MOST_STORY => k_is)
    (case v_MOST_TICK => k_is)
    (case v_MOST_TOLD => k_is)
    (case n_NotText => k_is)
    (case x_NotText => k_exc)
    (case y_NotText => k_is)
    (case b_NotText => k_is)
    (case t_NotText => k_is)
    (case v_SIGNS => k_is)
    (case z_all => k_is)
    (case z_any => k_is)
    (case z_bool => k_is)
    (case z_int => k_is)
    (case z_isinstance => k_is)
    (case z_len => k_is)
    (case z_list => k_is)
    (case z_max => k_is)
    (case z_min => k_is)
    (case z_range => k_is)
    (case z_sorted => k_is)
    (case z_str => k_is)
    (case z_tuple => k_is)
    (case z_zip => k_is)
    (case n_BadWeb => k_is)
    (case hC_BadWeb => k_is)
    (case bm1_BadWeb => kernel_rfl)
    (case sa_BadWeb => k_is)
    (case b_BadWeb => k_is)
    (case t_BadWeb => k_is)
    (case y_BadWeb => k_is)
    (case iC_BadWeb => k_is)
    (case tI_BadWeb => k_is)
    (case lf_BadWeb => k_is)
    (case cd_BadWeb => k_is)
    (case lc_BadWeb => k_is)
    (case hv_BadWeb => rfl)
    (case hf_BadWeb => kernel_rfl)
    (case ht_BadWeb => kernel_rfl)
    (case ce_BadWeb => k_is)
    (case su_BadWeb => k_is)
    (case op_BadWeb => k_is)
    (case ms_BadWeb => k_is)
    (case mv_BadWeb => k_is)
    (case ki_BadWeb => kernel_rfl)
    (case no_BadWeb => k_is)
    (case n_TooMany => k_is)
    (case hC_TooMany => k_is)
    (case bm1_TooMany => kernel_rfl)
    (case sa_TooMany => k_is)
    (case b_TooMany => k_is)
    (case t_TooMany => k_is)
    (case y_TooMany => k_is)
    (case iC_TooMany => k_is)
    (case tI_TooMany => k_is)
    (case lf_TooMany => k_is)
    (case cd_TooMany => k_is)
    (case lc_TooMany => k_is)
    (case hv_TooMany => rfl)
    (case hf_TooMany => kernel_rfl)
    (case ht_TooMany => kernel_rfl)
    (case ce_TooMany => k_is)
    (case su_TooMany => k_is)
    (case op_TooMany => k_is)
    (case ms_TooMany => k_is)
    (case mv_TooMany => k_is)
    (case ki_TooMany => kernel_rfl)
    (case no_TooMany => k_is)
#print axioms PySem.Challenge.cw_threemoods_k24_across_light_holds
