import PyProof.Rows.All
import Wide.All
import OpenK.AllK
import Wide.FinOn
import HandS.ForMost
import HandS.IsInst
import HandS.Deep
import HandS.Wide
import HandS.Walk
import HandS.TupLe
import KE.GoesMore
import HandS.Style
import PyProof.StrLawsTight
import PyProof.Rows.StrItems
import HandS.TupSets
import PyProof.ReprRoads
import PyProof.ReprBulk
import HandS.Ends
import HandS.Iter
import HandS.DictTup
import HandS.Conv
import KE.KDictDisplayH
import HandS.Sort
import HandS.SortOrd
import HandS.SortRule
import PySem.Challenge.RW_tablemanners_k10_whole_exchanged
set_option Elab.async false
set_option linter.all false
set_option maxRecDepth 100000
set_option maxHeartbeats 4000000
/-! Values as plain data, over the hand layer: what an expression is worth as a function of the names' data; a block as a function from names to an outcome. -/
namespace PL
open PySem PySem.Spec PyProof.Rows L2

/-! ### data -/
inductive Dt where
  | non
  | bl (b : Bool)
  | int (i : Int)
  | str (x : List Nat)
  | lst (l : List Dt)
  | tup (l : List Dt)
  | scr (l : List Int)
  | obj (c : Nat) (l : List Dt)
  | dic (ks : List (Int × Int)) (l : List Dt)
  | adr (a : Addr)
  | ty (n : String)
  | cls (k : Nat)
  deriving Inhabited

/-- the keys of a dict: pairs of numbers -/
def kPair (k : Int × Int) : List L2.Key := [.inl k.1, .inl k.2]
/-- the classes by number: where each stands, its fields' names in order -/
abbrev CT := Nat → Addr × List Str

mutual
inductive Rp (K : PySem.W.Frag) (T : CT) (H : Hp) : V → Dt → Prop
  | non : Rp K T H .non .non
  | bl (b : Bool) : Rp K T H (.bl b) (.bl b)
  | int (i : Int) : Rp K T H (.int i) (.int i)
  | str (l : List Nat) : Rp K T H (.str ⟨l.toArray⟩) (.str l)
  | lst {a : Addr} {xs : List V} {ds : List Dt} : H a = some (.lst xs) → RpA K T H xs ds → Rp K T H (.ref a) (.lst ds)
  | tup {a : Addr} {xs : List V} {ds : List Dt} : SqT K H a xs → RpA K T H xs ds → (∀ (n : Int) (ns : List Int), xs = V.int n :: ns.map V.int → H a = some (.tup xs)) → Rp K T H (.ref a) (.tup ds)
  | scr {a : Addr} {ns : List Int} : SqL K H a (ns.map V.int) → Rp K T H (.ref a) (.scr ns)
  | obj {c : Nat} {a dx : Addr} {fs : List (Str × V)} {ds : List Dt} : H a = some (.ins (T c).1 dx fs) → fs.map Prod.fst = (T c).2 → RpA K T H (fs.map Prod.snd) ds → Rp K T H (.ref a) (.obj c ds)
  | dic {a : Addr} {kvs : List (List L2.Key × V)} {ks : List (Int × Int)} {ds : List Dt} : (H a = some (.dT kvs) ∨ ∃ o, H a = some (.frz o (.dT kvs))) → kvs.map Prod.fst = ks.map kPair → RpA K T H (kvs.map Prod.snd) ds → Rp K T H (.ref a) (.dic ks ds)
  | adr (a : Addr) : Rp K T H (.ref a) (.adr a)
  | ty (n : String) : Rp K T H (.ty n) (.ty n)
  | cls (k : Nat) : Rp K T H (.ref (T k).1) (.cls k)
inductive RpA (K : PySem.W.Frag) (T : CT) (H : Hp) : List V → List Dt → Prop
  | nil : RpA K T H [] []
  | cons {v : V} {vs : List V} {d : Dt} {ds : List Dt} : Rp K T H v d → RpA K T H vs ds → RpA K T H (v :: vs) (d :: ds)
end

theorem SqT.mono {K : PySem.W.Frag} {H H' : Hp} {a : Addr} {xs : List V} (e : Same H H') (h : SqT K H a xs) : SqT K H' a xs := by
  rcases h with (h | ⟨o, h⟩) | h
  · exact .inl (.inl (e _ _ h))
  · exact .inl (.inr ⟨o, e _ _ h⟩)
  · exact .inr h

section
variable {K : PySem.W.Frag} {T : CT} {H H' : Hp}
mutual
theorem Rp.mono (e : Same H H') : ∀ (d : Dt) {v : V}, Rp K T H v d → Rp K T H' v d
  | .non, _, h => by cases h; exact .non
  | .bl b, _, h => by cases h; exact .bl b
  | .int i, _, h => by cases h; exact .int i
  | .str l, _, h => by cases h; exact .str l
  | .lst ds, _, h => by cases h with | lst h1 h2 => exact .lst (e _ _ h1) (RpA.mono e ds h2)
  | .tup ds, _, h => by cases h with | tup h1 h2 => exact .tup (SqT.mono e h1) (RpA.mono e ds h2) (fun n ns z => e _ _ (by rename_i h3; exact h3 n ns z))
  | .scr ns, _, h => by cases h with | scr h1 => exact .scr (e.seq h1)
  | .obj c ds, _, h => by cases h with | obj h1 h2 h3 => exact .obj (e _ _ h1) h2 (RpA.mono e ds h3)
  | .dic ks ds, _, h => by cases h with | dic h1 h2 h3 => exact .dic (h1.imp (e _ _) fun ⟨o, z⟩ => ⟨o, e _ _ z⟩) h2 (RpA.mono e ds h3)
  | .adr a, _, h => by cases h; exact .adr a
  | .ty n, _, h => by cases h; exact .ty n
  | .cls k, _, h => by cases h; exact .cls k
theorem RpA.mono (e : Same H H') : ∀ (ds : List Dt) {vs : List V}, RpA K T H vs ds → RpA K T H' vs ds
  | [], _, h => by cases h; exact .nil
  | d :: ds, _, h => by cases h with | cons h1 h2 => exact .cons (Rp.mono e d h1) (RpA.mono e ds h2)
end
theorem RpA.length : ∀ {vs : List V} {ds : List Dt}, RpA K T H vs ds → vs.length = ds.length
  | _, _, .nil => rfl
  | _, _, .cons _ t => by rw [List.length_cons, List.length_cons, RpA.length t]
theorem RpA.get : ∀ {vs : List V} {ds : List Dt} {i : Nat} {d : Dt}, RpA K T H vs ds → ds[i]? = some d → ∃ v, vs[i]? = some v ∧ Rp K T H v d
  | _, _, _, _, .nil, e => by simp at e
  | _, _, 0, _, .cons r _, e => by simp at e; subst e; exact ⟨_, rfl, r⟩
  | _, _, i + 1, d, .cons _ t, e => by
    obtain ⟨v, h1, h2⟩ := RpA.get (i := i) (d := d) t (by simpa using e)
    exact ⟨v, by simpa using h1, h2⟩
theorem RpA.getV : ∀ {vs : List V} {ds : List Dt} {i : Nat} {v : V}, RpA K T H vs ds → vs[i]? = some v → ∃ d, ds[i]? = some d ∧ Rp K T H v d
  | _, _, _, _, .nil, e => by simp at e
  | _, _, 0, _, .cons r _, e => by simp at e; subst e; exact ⟨_, rfl, r⟩
  | _, _, i + 1, d, .cons _ t, e => by
    obtain ⟨v, h1, h2⟩ := RpA.getV (i := i) (v := d) t (by simpa using e)
    exact ⟨v, by simpa using h1, h2⟩
theorem RpA.append : ∀ {vs ws : List V} {ds es : List Dt}, RpA K T H vs ds → RpA K T H ws es → RpA K T H (vs ++ ws) (ds ++ es)
  | _, _, _, _, .nil, s => s
  | _, _, _, _, .cons r t, s => .cons r (RpA.append t s)
theorem RpA.take : ∀ {vs : List V} {ds : List Dt} (n : Nat), RpA K T H vs ds → RpA K T H (vs.take n) (ds.take n)
  | _, _, 0, _ => .nil
  | _, _, _ + 1, .nil => .nil
  | _, _, n + 1, .cons r t => .cons r (RpA.take n t)
theorem RpA.drop : ∀ {vs : List V} {ds : List Dt} (n : Nat), RpA K T H vs ds → RpA K T H (vs.drop n) (ds.drop n)
  | _, _, 0, r => r
  | _, _, _ + 1, .nil => .nil
  | _, _, n + 1, .cons _ t => RpA.drop n t
theorem RpA.set {v : V} {d : Dt} (r : Rp K T H v d) : ∀ {vs : List V} {ds : List Dt} (i : Nat), RpA K T H vs ds → RpA K T H (vs.set i v) (ds.set i d)
  | _, _, _, .nil => .nil
  | _, _, 0, .cons _ t => .cons r t
  | _, _, i + 1, .cons q t => .cons q (RpA.set r i t)
theorem RpA.reverse {vs : List V} {ds : List Dt} (h : RpA K T H vs ds) : RpA K T H vs.reverse ds.reverse := by
  induction ds generalizing vs with
  | nil => cases h; exact .nil
  | cons d ds ih =>
    cases h with
    | cons h1 h2 =>
      rw [List.reverse_cons, List.reverse_cons]
      exact RpA.append (ih h2) (.cons h1 .nil)
theorem RpA.eraseIdx : ∀ {vs : List V} {ds : List Dt} (i : Nat), RpA K T H vs ds → RpA K T H (vs.eraseIdx i) (ds.eraseIdx i)
  | _, _, _, .nil => .nil
  | _, _, 0, .cons _ t => t
  | _, _, i + 1, .cons q t => .cons q (RpA.eraseIdx i t)
theorem RpA.dropLast {vs : List V} {ds : List Dt} (h : RpA K T H vs ds) : RpA K T H vs.dropLast ds.dropLast := by
  rw [List.dropLast_eq_take, List.dropLast_eq_take, h.length]
  exact h.take _
end

/-! ### how heaps grow: G what is fixed (no list that is still changed), H all -/
def Nw (H : Hp) (a : Addr) : Prop := H a = none ∨ ∃ xs, H a = some (.tup xs)
theorem Nw.back {H H' : Hp} {a : Addr} (e : Same H H') (h : Nw H' a) : Nw H a := by
  rcases h with h | ⟨xs, h⟩
  · exact .inl (e.free h)
  · cases q : H a with
    | none => exact .inl q
    | some o =>
      have := e _ _ q
      rw [h] at this
      cases this
      exact .inr ⟨xs, q⟩
theorem Nw.upd {H : Hp} {a p : Addr} {o : HO} (h : Nw (upd H p o) a) (ho : ∀ xs, o ≠ .tup xs) : a ≠ p ∧ Nw H a := by
  by_cases e : a = p
  · subst e
    rcases h with h | ⟨xs, h⟩
    · rw [upd_same] at h; cases h
    · rw [upd_same] at h; cases h; exact absurd rfl (ho xs)
  · refine ⟨e, ?_⟩
    unfold Nw at h
    rw [upd_ne e] at h
    exact h
structure Nx (G H G' H' : Hp) : Prop where
  gg : Same G G'
  hh : Same H H'
  gh : Same G' H'
  fr : ∀ a, G' a = none ∨ G a ≠ none ∨ Nw H a
theorem Nx.refl {G H : Hp} (e : Same G H) : Nx G H G H := ⟨Same.refl G, Same.refl H, e, fun a => by cases h : G a with | none => exact .inl rfl | some o => exact .inr (.inl (fun z => by cases z))⟩
theorem Nx.trans {G H G1 H1 G2 H2 : Hp} (a : Nx G H G1 H1) (b : Nx G1 H1 G2 H2) : Nx G H G2 H2 := by
  refine ⟨a.gg.trans b.gg, a.hh.trans b.hh, b.gh, fun x => ?_⟩
  rcases b.fr x with h | h | h
  · exact .inl h
  · rcases a.fr x with q | q | q
    · exact absurd q h
    · exact .inr (.inl q)
    · exact .inr (.inr q)
  · exact .inr (.inr (h.back a.hh))
theorem same_new {H : Hp} {p : Addr} {o : HO} (h : H p = none) : Same H (upd H p o) := fun b x e => by
  rw [upd_ne (ne_of_none e h)]
  exact e
theorem same_upd2 {G H : Hp} {p : Addr} {o : HO} (e : Same G H) : Same (upd G p o) (upd H p o) := fun b x q => by
  by_cases hb : b = p
  · subst hb
    rw [upd_same] at q ⊢
    exact q
  · rw [upd_ne hb] at q ⊢
    exact e _ _ q
theorem same_updR {G H : Hp} {p : Addr} {o : HO} (e : Same G H) (h : G p = none) : Same G (upd H p o) := fun b x q => by
  rw [upd_ne (ne_of_none q h)]
  exact e _ _ q
theorem same_updL {G H : Hp} {p : Addr} {o : HO} (e : Same G H) (h : H p = some o) : Same (upd G p o) H := fun b x q => by
  by_cases hb : b = p
  · subst hb
    rw [upd_same] at q
    rw [← q]
    exact h
  · rw [upd_ne hb] at q
    exact e _ _ q
/-- a new object, fixed from now on -/
theorem Nx.new {G H : Hp} {p : Addr} {o : HO} (e : Same G H) (h : H p = none) : Nx G H (upd G p o) (upd H p o) := by
  refine ⟨same_new (e.free h), same_new h, same_upd2 e, fun a => ?_⟩
  by_cases ha : a = p
  · exact .inr (.inr (.inl (by rw [ha]; exact h)))
  · rw [upd_ne ha]
    cases q : G a with
    | none => exact .inl rfl
    | some o => exact .inr (.inl (fun z => by cases z))
/-- a new object that is not fixed -/
theorem Nx.newH {G H : Hp} {p : Addr} {o : HO} (e : Same G H) (h : H p = none) : Nx G H G (upd H p o) :=
  ⟨Same.refl G, same_new h, same_updR e (e.free h), (Nx.refl e).fr⟩
theorem Nx.growH {G H G1 H1 H2 : Hp} (a : Nx G H G1 H1) (e : Same H1 H2) : Nx G H G1 H2 := ⟨a.gg, a.hh.trans e, a.gh.trans e, a.fr⟩
/-- what neither is fixed nor new stays out of what is fixed -/
theorem Nx.out {G H G1 H1 : Hp} (a : Nx G H G1 H1) {p : Addr} {o : HO} (hg : G p = none) (hh : H p = some o) (ho : ∀ xs, o ≠ .tup xs := by intro _ z; cases z) : G1 p = none := by
  rcases a.fr p with h | h | h | ⟨xs, h⟩
  · exact h
  · exact absurd hg h
  · rw [hh] at h; cases h
  · rw [hh] at h; cases h; exact absurd rfl (ho xs)

/-! ### own trees: lists and objects that nobody else holds, within each other -/
inductive OT where
  | leaf (d : Dt)
  | node (l : List OT)
  | ob (c : Nat) (l : List OT)
  | dic (ks : List (Int × Int)) (l : List Dt)
  deriving Inhabited
mutual
def OT.toD : OT → Dt
  | .leaf d => d
  | .node l => .lst (OT.toDs l)
  | .ob c l => .obj c (OT.toDs l)
  | .dic ks l => .dic ks l
def OT.toDs : List OT → List Dt
  | [] => []
  | t :: l => t.toD :: OT.toDs l
end
mutual
inductive Ow (K : PySem.W.Frag) (T : CT) (G H : Hp) : V → OT → List Addr → Prop
  | leaf {v : V} {d : Dt} : Rp K T G v d → Ow K T G H v (.leaf d) []
  | node {a : Addr} {vs : List V} {ts : List OT} {as : List Addr} : H a = some (.lst vs) → G a = none → OwA K T G H vs ts as → Ow K T G H (.ref a) (.node ts) (a :: as)
  | ob {c : Nat} {a dx : Addr} {fs : List (Str × V)} {ts : List OT} {as : List Addr} : H a = some (.ins (T c).1 dx fs) → fs.map Prod.fst = (T c).2 → G a = none → OwA K T G H (fs.map Prod.snd) ts as → Ow K T G H (.ref a) (.ob c ts) (a :: as)
  | dic {a : Addr} {kvs : List (List L2.Key × V)} {ks : List (Int × Int)} {ds : List Dt} : H a = some (.dT kvs) → G a = none → kvs.map Prod.fst = ks.map kPair → RpA K T G (kvs.map Prod.snd) ds → Ow K T G H (.ref a) (.dic ks ds) [a]
inductive OwA (K : PySem.W.Frag) (T : CT) (G H : Hp) : List V → List OT → List Addr → Prop
  | nil : OwA K T G H [] [] []
  | cons {v : V} {vs : List V} {t : OT} {ts : List OT} {as bs : List Addr} : Ow K T G H v t as → OwA K T G H vs ts bs → OwA K T G H (v :: vs) (t :: ts) (as ++ bs)
end
section
variable {K : PySem.W.Frag} {T : CT} {G H G' H' : Hp}
mutual
theorem Ow.rp (e : Same G H) : ∀ (t : OT) {v : V} {as : List Addr}, Ow K T G H v t as → Rp K T H v t.toD
  | .leaf d, _, _, h => by cases h with | leaf q => rw [OT.toD]; exact Rp.mono e d q
  | .node l, _, _, h => by cases h with | node h1 h2 h3 => rw [OT.toD]; exact .lst h1 (OwA.rp e l h3)
  | .ob c l, _, _, h => by cases h with | ob h1 h2 h3 h4 => rw [OT.toD]; exact .obj h1 h2 (OwA.rp e l h4)
  | .dic ks l, _, _, h => by cases h with | dic h1 h2 h3 h4 => rw [OT.toD]; exact .dic (.inl h1) h3 (RpA.mono e l h4)
theorem OwA.rp (e : Same G H) : ∀ (ts : List OT) {vs : List V} {as : List Addr}, OwA K T G H vs ts as → RpA K T H vs (OT.toDs ts)
  | [], _, _, h => by cases h; rw [OT.toDs]; exact .nil
  | t :: ts, _, _, h => by cases h with | cons h1 h2 => rw [OT.toDs]; exact .cons (Ow.rp e t h1) (OwA.rp e ts h2)
end
mutual
theorem Ow.mv (e : Same G G') : ∀ (t : OT) {v : V} {as : List Addr}, Ow K T G H v t as → (∀ a ∈ as, G' a = none) → (∀ a ∈ as, H' a = H a) → Ow K T G' H' v t as
  | .leaf d, _, _, h, _, _ => by cases h with | leaf q => exact .leaf (Rp.mono e d q)
  | .node l, _, _, h, g, k => by
    cases h with
    | node h1 h2 h3 => exact .node ((k _ List.mem_cons_self).trans h1) (g _ List.mem_cons_self) (OwA.mv e l h3 (fun a m => g a (List.mem_cons_of_mem _ m)) (fun a m => k a (List.mem_cons_of_mem _ m)))
  | .ob c l, _, _, h, g, k => by
    cases h with
    | ob h1 h2 h3 h4 => exact .ob ((k _ List.mem_cons_self).trans h1) h2 (g _ List.mem_cons_self) (OwA.mv e l h4 (fun a m => g a (List.mem_cons_of_mem _ m)) (fun a m => k a (List.mem_cons_of_mem _ m)))
  | .dic ks l, _, _, h, g, k => by
    cases h with
    | dic h1 h2 h3 h4 => exact .dic ((k _ List.mem_cons_self).trans h1) (g _ List.mem_cons_self) h3 (RpA.mono e l h4)
theorem OwA.mv (e : Same G G') : ∀ (ts : List OT) {vs : List V} {as : List Addr}, OwA K T G H vs ts as → (∀ a ∈ as, G' a = none) → (∀ a ∈ as, H' a = H a) → OwA K T G' H' vs ts as
  | [], _, _, h, _, _ => by cases h; exact .nil
  | t :: ts, _, _, h, g, k => by
    cases h with
    | cons h1 h2 => exact .cons (Ow.mv e t h1 (fun a m => g a (List.mem_append_left _ m)) (fun a m => k a (List.mem_append_left _ m))) (OwA.mv e ts h2 (fun a m => g a (List.mem_append_right _ m)) (fun a m => k a (List.mem_append_right _ m)))
end
mutual
theorem Ow.inn : ∀ (t : OT) {v : V} {as : List Addr}, Ow K T G H v t as → ∀ a ∈ as, G a = none ∧ ∃ o, H a = some o
  | .leaf d, _, _, h, a, m => by cases h; cases m
  | .node l, _, _, h, a, m => by
    cases h with
    | node h1 h2 h3 =>
      rcases List.mem_cons.mp m with rfl | m
      · exact ⟨h2, _, h1⟩
      · exact OwA.inn l h3 a m
  | .ob c l, _, _, h, a, m => by
    cases h with
    | ob h1 h2 h3 h4 =>
      rcases List.mem_cons.mp m with rfl | m
      · exact ⟨h3, _, h1⟩
      · exact OwA.inn l h4 a m
  | .dic ks l, _, _, h, a, m => by
    cases h with
    | dic h1 h2 h3 h4 => rw [List.mem_singleton.mp m]; exact ⟨h2, _, h1⟩
theorem OwA.inn : ∀ (ts : List OT) {vs : List V} {as : List Addr}, OwA K T G H vs ts as → ∀ a ∈ as, G a = none ∧ ∃ o, H a = some o
  | [], _, _, h, a, m => by cases h; cases m
  | t :: ts, _, _, h, a, m => by
    cases h with
    | cons h1 h2 =>
      rcases List.mem_append.mp m with m | m
      · exact Ow.inn t h1 a m
      · exact OwA.inn ts h2 a m
end
def isMut : HO → Prop
  | .lst _ => True
  | .ins _ _ _ => True
  | .dT _ => True
  | _ => False
mutual
theorem Ow.muts : ∀ (t : OT) {v : V} {as : List Addr}, Ow K T G H v t as → ∀ a ∈ as, ∃ o, H a = some o ∧ isMut o
  | .leaf d, _, _, h, a, m => by cases h; cases m
  | .node l, _, _, h, a, m => by
    cases h with
    | node h1 h2 h3 =>
      rcases List.mem_cons.mp m with rfl | m
      · exact ⟨_, h1, trivial⟩
      · exact OwA.muts l h3 a m
  | .ob c l, _, _, h, a, m => by
    cases h with
    | ob h1 h2 h3 h4 =>
      rcases List.mem_cons.mp m with rfl | m
      · exact ⟨_, h1, trivial⟩
      · exact OwA.muts l h4 a m
  | .dic ks l, _, _, h, a, m => by
    cases h with
    | dic h1 h2 h3 h4 => rw [List.mem_singleton.mp m]; exact ⟨_, h1, trivial⟩
theorem OwA.muts : ∀ (ts : List OT) {vs : List V} {as : List Addr}, OwA K T G H vs ts as → ∀ a ∈ as, ∃ o, H a = some o ∧ isMut o
  | [], _, _, h, a, m => by cases h; cases m
  | t :: ts, _, _, h, a, m => by
    cases h with
    | cons h1 h2 =>
      rcases List.mem_append.mp m with m | m
      · exact Ow.muts t h1 a m
      · exact OwA.muts ts h2 a m
end
theorem mut_not {o : HO} (h : isMut o) : ∀ xs, o ≠ .tup xs := fun xs e => by subst e; exact h
theorem Ow.nx {t : OT} {v : V} {as : List Addr} (h : Ow K T G H v t as) (n : Nx G H G' H') : Ow K T G' H' v t as :=
  Ow.mv n.gg t h (fun a m => by obtain ⟨h1, _⟩ := Ow.inn t h a m; obtain ⟨o, h2, h3⟩ := Ow.muts t h a m; exact n.out h1 h2 (mut_not h3)) (fun a m => by obtain ⟨h1, o, h2⟩ := Ow.inn t h a m; rw [h2]; exact n.hh _ _ h2)
theorem OwA.nx {ts : List OT} {vs : List V} {as : List Addr} (h : OwA K T G H vs ts as) (n : Nx G H G' H') : OwA K T G' H' vs ts as :=
  OwA.mv n.gg ts h (fun a m => by obtain ⟨h1, _⟩ := OwA.inn ts h a m; obtain ⟨o, h2, h3⟩ := OwA.muts ts h a m; exact n.out h1 h2 (mut_not h3)) (fun a m => by obtain ⟨h1, o, h2⟩ := OwA.inn ts h a m; rw [h2]; exact n.hh _ _ h2)
theorem OwA.length : ∀ {ts : List OT} {vs : List V} {as : List Addr}, OwA K T G H vs ts as → vs.length = ts.length
  | [], _, _, h => by cases h; rfl
  | t :: ts, _, _, h => by cases h with | cons h1 h2 => rw [List.length_cons, List.length_cons, OwA.length h2]
end

/-! ### names -/
inductive Sl where
  | no
  | val (d : Dt)
  | own (l : List Dt)
  | tre (t : OT)
  deriving Inhabited
abbrev Env := List Sl
def frz1 : Sl → Sl
  | .own l => .val (.lst l)
  | .tre t => .val t.toD
  | s => s
def frzE (r : Env) : Env := r.map frz1
def gV (r : Env) (i : Nat) : Option Dt := match r[i]? with | some (.val d) => some d | _ => none
def gO (r : Env) (i : Nat) : Option (List Dt) := match r[i]? with | some (.own d) => some d | _ => none
theorem gV_iff {r : Env} {i : Nat} {d : Dt} : gV r i = some d ↔ r[i]? = some (.val d) := by
  unfold gV
  split
  · rename_i x h; rw [h]; constructor
    · intro q; cases q; rfl
    · intro q; cases q; rfl
  · rename_i h; constructor
    · intro q; cases q
    · intro q; exact absurd q (h _)
theorem gO_iff {r : Env} {i : Nat} {d : List Dt} : gO r i = some d ↔ r[i]? = some (.own d) := by
  unfold gO
  split
  · rename_i x h; rw [h]; constructor
    · intro q; cases q; rfl
    · intro q; cases q; rfl
  · rename_i h; constructor
    · intro q; cases q
    · intro q; exact absurd q (h _)

/-- the names that hold own trees: apart from each other and from the own lists -/
def Tr (K : PySem.W.Frag) (T : CT) (G H : Hp) (P : Addr → Prop) (σ : L2.St) (r : Env) : Prop :=
  ∃ m : Nat → List Addr, (∀ (i : Nat) (t : OT), r[i]? = some (Sl.tre t) → (∃ v, σ[i]? = some (some v) ∧ Ow K T G H v t (m i)) ∧ (m i).Nodup ∧ ∀ a ∈ m i, P a) ∧ (∀ (i j : Nat) (t u : OT), i ≠ j → r[i]? = some (Sl.tre t) → r[j]? = some (Sl.tre u) → ∀ a ∈ m i, a ∉ m j) ∧
    ∀ (i j : Nat) (t : OT) (ds : List Dt) (p : Addr), r[i]? = some (Sl.tre t) → r[j]? = some (Sl.own ds) → σ[j]? = some (some (V.ref p)) → p ∉ m i
section
variable {K : PySem.W.Frag} {T : CT} {G H G' H' : Hp} {P : Addr → Prop} {σ : L2.St} {r : Env}
theorem Tr.nil (h : ∀ (i : Nat) (t : OT), r[i]? ≠ some (Sl.tre t)) : Tr K T G H P σ r := ⟨fun _ => [], fun i t e => absurd e (h i t), fun i j t u _ e => absurd e (h i t), fun i j t ds p e => absurd e (h i t)⟩
theorem Tr.imp {P' : Addr → Prop} (h : Tr K T G H P σ r) (k : ∀ a, P a → P' a) : Tr K T G H P' σ r := by
  obtain ⟨m, h1, h2, h3⟩ := h
  exact ⟨m, fun i t e => ⟨(h1 i t e).1, (h1 i t e).2.1, fun a ha => k a ((h1 i t e).2.2 a ha)⟩, h2, h3⟩
theorem Tr.inH (h : Tr K T G H P σ r) : Tr K T G H (fun a => P a ∧ H a ≠ none) σ r := by
  obtain ⟨m, h1, h2, h3⟩ := h
  refine ⟨m, fun i t e => ⟨(h1 i t e).1, (h1 i t e).2.1, fun a ha => ⟨(h1 i t e).2.2 a ha, ?_⟩⟩, h2, h3⟩
  obtain ⟨v, _, q⟩ := (h1 i t e).1
  obtain ⟨_, o, ho⟩ := Ow.inn t q a ha
  rw [ho]
  exact fun z => by cases z
theorem Tr.nx (h : Tr K T G H P σ r) (n : Nx G H G' H') : Tr K T G' H' P σ r := by
  obtain ⟨m, h1, h2, h3⟩ := h
  refine ⟨m, fun i t e => ?_, h2, h3⟩
  obtain ⟨⟨v, hv, q⟩, nd, p⟩ := h1 i t e
  exact ⟨⟨v, hv, q.nx n⟩, nd, p⟩
/-- a name that holds neither -/
theorem Tr.set {i : Nat} {x : Option V} {s : Sl} (h : Tr K T G H P σ r) (h1 : ∀ t, s ≠ .tre t) (h2 : ∀ l, s ≠ .own l) : Tr K T G H P (σ.set i x) (r.set i s) := by
  obtain ⟨m, k1, k2, k3⟩ := h
  have back : ∀ (j : Nat) (z : Sl), (∃ t, z = .tre t) ∨ (∃ l, z = .own l) → (r.set i s)[j]? = some z → j ≠ i ∧ r[j]? = some z := fun j z hz e => by
    by_cases hj : j = i
    · subst hj
      by_cases hl : j < r.length
      · rw [List.getElem?_set_self hl] at e
        cases e
        rcases hz with ⟨t, rfl⟩ | ⟨l, rfl⟩
        · exact absurd rfl (h1 t)
        · exact absurd rfl (h2 l)
      · rw [List.getElem?_eq_none (by simpa using hl)] at e; cases e
    · rw [List.getElem?_set_ne (Ne.symm hj)] at e
      exact ⟨hj, e⟩
  refine ⟨m, fun j t e => ?_, fun j k t u hjk e1 e2 => ?_, fun j k t ds p e1 e2 e3 => ?_⟩
  · obtain ⟨hj, e⟩ := back j _ (.inl ⟨t, rfl⟩) e
    rw [List.getElem?_set_ne (Ne.symm hj)]
    exact k1 j t e
  · exact k2 j k t u hjk (back j _ (.inl ⟨t, rfl⟩) e1).2 (back k _ (.inl ⟨u, rfl⟩) e2).2
  · obtain ⟨hk, e2⟩ := back k _ (.inr ⟨ds, rfl⟩) e2
    rw [List.getElem?_set_ne (Ne.symm hk)] at e3
    exact k3 j k t ds p (back j _ (.inl ⟨t, rfl⟩) e1).2 e2 e3
theorem Tr.setOwn {i : Nat} {p : Addr} {ds : List Dt} (h : Tr K T G H P σ r) (hp : ¬ P p) (hl : σ.length = r.length) : Tr K T G H P (σ.set i (some (.ref p))) (r.set i (.own ds)) := by
  obtain ⟨m, k1, k2, k3⟩ := h
  have back : ∀ (j : Nat) (t : OT), (r.set i (.own ds))[j]? = some (.tre t) → j ≠ i ∧ r[j]? = some (.tre t) := fun j t e => by
    by_cases hj : j = i
    · subst hj
      by_cases hl : j < r.length
      · rw [List.getElem?_set_self hl] at e; cases e
      · rw [List.getElem?_eq_none (by simpa using hl)] at e; cases e
    · rw [List.getElem?_set_ne (Ne.symm hj)] at e
      exact ⟨hj, e⟩
  refine ⟨m, fun j t e => ?_, fun j k t u hjk e1 e2 => k2 j k t u hjk (back j t e1).2 (back k u e2).2, fun j k t es q e1 e2 e3 => ?_⟩
  · obtain ⟨hj, e⟩ := back j t e
    rw [List.getElem?_set_ne (Ne.symm hj)]
    exact k1 j t e
  · obtain ⟨hj, e1'⟩ := back j t e1
    by_cases hk : k = i
    · subst hk
      by_cases hb : k < r.length
      · rw [List.getElem?_set_self (by omega)] at e3
        cases e3
        exact fun hm => hp ((k1 j t e1').2.2 p hm)
      · rw [List.getElem?_eq_none (by simpa using hb)] at e2; cases e2
    · rw [List.getElem?_set_ne (Ne.symm hk)] at e2 e3
      exact k3 j k t es q e1' e2 e3
/-- an own list changes -/
theorem Tr.upd {i : Nat} {p : Addr} {ds es : List Dt} {o : HO} (h : Tr K T G H P σ r) (hr : r[i]? = some (.own ds)) (hs : σ[i]? = some (some (.ref p))) : Tr K T G (upd H p o) P σ (r.set i (.own es)) := by
  obtain ⟨m, k1, k2, k3⟩ := h
  have hi : i < r.length := (List.getElem?_eq_some_iff.mp hr).1
  have back : ∀ (j : Nat) (t : OT), (r.set i (.own es))[j]? = some (.tre t) → j ≠ i ∧ r[j]? = some (.tre t) := fun j t e => by
    by_cases hj : j = i
    · subst hj
      rw [List.getElem?_set_self hi] at e; cases e
    · rw [List.getElem?_set_ne (Ne.symm hj)] at e
      exact ⟨hj, e⟩
  refine ⟨m, fun j t e => ?_, fun j k t u hjk e1 e2 => k2 j k t u hjk (back j t e1).2 (back k u e2).2, fun j k t fs q e1 e2 e3 => ?_⟩
  · obtain ⟨hj, e⟩ := back j t e
    obtain ⟨⟨v, hv, q⟩, nd, hP⟩ := k1 j t e
    have hne : ∀ a ∈ m j, a ≠ p := fun a ha z => k3 j i t ds p e hr hs (z ▸ ha)
    exact ⟨⟨v, hv, Ow.mv (Same.refl G) t q (fun a ha => (Ow.inn t q a ha).1) (fun a ha => upd_ne (hne a ha))⟩, nd, hP⟩
  · obtain ⟨hj, e1'⟩ := back j t e1
    by_cases hk : k = i
    · subst hk
      rw [hs] at e3
      cases e3
      exact k3 j k t ds p e1' hr hs
    · rw [List.getElem?_set_ne (Ne.symm hk)] at e2
      exact k3 j k t fs q e1' e2 e3
/-- an own list is fixed -/
theorem Tr.fix {i : Nat} {p : Addr} {ds : List Dt} {o : HO} {d : Dt} (h : Tr K T G H P σ r) (hr : r[i]? = some (.own ds)) (hs : σ[i]? = some (some (.ref p))) (hg : G p = Option.none) : Tr K T (L2.upd G p o) H P σ (r.set i (.val d)) := by
  obtain ⟨m, k1, k2, k3⟩ := h
  have hi : i < r.length := (List.getElem?_eq_some_iff.mp hr).1
  have back : ∀ (j : Nat) (z : Sl), (∃ t, z = .tre t) ∨ (∃ l, z = .own l) → (r.set i (.val d))[j]? = some z → j ≠ i ∧ r[j]? = some z := fun j z hz e => by
    by_cases hj : j = i
    · subst hj
      rw [List.getElem?_set_self hi] at e
      cases e
      rcases hz with ⟨t, h⟩ | ⟨l, h⟩ <;> cases h
    · rw [List.getElem?_set_ne (Ne.symm hj)] at e
      exact ⟨hj, e⟩
  refine ⟨m, fun j t e => ?_, fun j k t u hjk e1 e2 => k2 j k t u hjk (back j _ (.inl ⟨t, rfl⟩) e1).2 (back k _ (.inl ⟨u, rfl⟩) e2).2, fun j k t fs q e1 e2 e3 => k3 j k t fs q (back j _ (.inl ⟨t, rfl⟩) e1).2 (back k _ (.inr ⟨fs, rfl⟩) e2).2 e3⟩
  obtain ⟨hj, e⟩ := back j _ (.inl ⟨t, rfl⟩) e
  obtain ⟨⟨v, hv, q⟩, nd, hP⟩ := k1 j t e
  have hne : ∀ a ∈ m j, a ≠ p := fun a ha z => k3 j i t ds p e hr hs (z ▸ ha)
  exact ⟨⟨v, hv, Ow.mv (same_new hg) t q (fun a ha => by rw [upd_ne (hne a ha)]; exact (Ow.inn t q a ha).1) (fun a ha => rfl)⟩, nd, hP⟩
end

structure Fits (K : PySem.W.Frag) (T : CT) (G H : Hp) (σ : L2.St) (r : Env) : Prop where
  gh : Same G H
  len : σ.length = r.length
  val : ∀ (i : Nat) (d : Dt), r[i]? = some (.val d) → ∃ v, σ[i]? = some (some v) ∧ Rp K T G v d
  own : ∀ (i : Nat) (ds : List Dt), r[i]? = some (.own ds) → ∃ p vs, σ[i]? = some (some (.ref p)) ∧ G p = none ∧ H p = some (.lst vs) ∧ RpA K T G vs ds
  sep : ∀ (i j : Nat) (ds es : List Dt) (p : Addr), r[i]? = some (.own ds) → r[j]? = some (.own es) → σ[i]? = some (some (.ref p)) → σ[j]? = some (some (.ref p)) → i = j
  tr : Tr K T G H (fun _ => True) σ r

section
variable {K : PySem.W.Frag} {T : CT} {G H G' H' : Hp} {σ : L2.St} {r : Env}
theorem Fits.nx (F : Fits K T G H σ r) (N : Nx G H G' H') : Fits K T G' H' σ r := by
  refine ⟨N.gh, F.len, fun i d h => ?_, fun i ds h => ?_, F.sep, F.tr.nx N⟩
  · obtain ⟨v, e, q⟩ := F.val i d h
    exact ⟨v, e, Rp.mono N.gg d q⟩
  · obtain ⟨p, vs, e, hg, hh, q⟩ := F.own i ds h
    exact ⟨p, vs, e, N.out hg hh, N.hh _ _ hh, RpA.mono N.gg ds q⟩
theorem frzE_get (i : Nat) : (frzE r)[i]? = (r[i]?).map frz1 := by
  unfold frzE
  rw [List.getElem?_map]
theorem Fits.frz (F : Fits K T G H σ r) : Fits K T H H σ (frzE r) := by
  refine ⟨Same.refl H, by rw [frzE, List.length_map]; exact F.len, fun i d h => ?_, fun i ds h => ?_, fun i j ds es p h _ _ _ => ?_, Tr.nil fun i t h => ?_⟩
  · rw [frzE_get] at h
    cases e : r[i]? with
    | none => rw [e] at h; cases h
    | some s =>
      rw [e] at h
      cases s with
      | no => cases h
      | tre t =>
        cases h
        obtain ⟨m, k1, _⟩ := F.tr
        obtain ⟨⟨v, hv, q⟩, _⟩ := k1 i t e
        exact ⟨v, hv, Ow.rp F.gh t q⟩
      | val d' =>
        cases h
        obtain ⟨v, e1, q⟩ := F.val i d e
        exact ⟨v, e1, Rp.mono F.gh d q⟩
      | own ds =>
        cases h
        obtain ⟨p, vs, e1, hg, hh, q⟩ := F.own i ds e
        exact ⟨.ref p, e1, .lst hh (RpA.mono F.gh ds q)⟩
  · rw [frzE_get] at h
    cases e : r[i]? with
    | none => rw [e] at h; cases h
    | some s => rw [e] at h; cases s <;> cases h
  · rw [frzE_get] at h
    cases e : r[i]? with
    | none => rw [e] at h; cases h
    | some s => rw [e] at h; cases s <;> cases h
  · rw [frzE_get] at h
    cases e : r[i]? with
    | none => rw [e] at h; cases h
    | some s => rw [e] at h; cases s <;> cases h
theorem Fits.set {i : Nat} {v : V} {d : Dt} (F : Fits K T G H σ r) (q : Rp K T G v d) : Fits K T G H (σ.set i (some v)) (r.set i (.val d)) := by
  have own' : ∀ (j : Nat) (ds : List Dt), (r.set i (.val d))[j]? = some (.own ds) → j ≠ i ∧ r[j]? = some (.own ds) := fun j ds h => by
    by_cases hj : j = i
    · subst hj
      by_cases hl : j < r.length
      · rw [List.getElem?_set_self hl] at h; cases h
      · rw [List.getElem?_eq_none (by simpa using hl)] at h; cases h
    · rw [List.getElem?_set_ne (Ne.symm hj)] at h
      exact ⟨hj, h⟩
  refine ⟨F.gh, by rw [List.length_set, List.length_set]; exact F.len, fun j d' h => ?_, fun j ds h => ?_, fun j k ds es p h1 h2 h3 h4 => ?_, F.tr.set (fun t h => by cases h) (fun l h => by cases h)⟩
  · by_cases hj : j = i
    · subst hj
      by_cases hl : j < r.length
      · rw [List.getElem?_set_self hl] at h
        cases h
        exact ⟨v, List.getElem?_set_self (by rw [F.len]; exact hl), q⟩
      · rw [List.getElem?_eq_none (by simpa using hl)] at h; cases h
    · rw [List.getElem?_set_ne (Ne.symm hj)] at h ⊢
      exact F.val j d' h
  · obtain ⟨hj, h⟩ := own' j ds h
    rw [List.getElem?_set_ne (Ne.symm hj)]
    exact F.own j ds h
  · obtain ⟨hj, h1⟩ := own' j ds h1
    obtain ⟨hk, h2⟩ := own' k es h2
    rw [List.getElem?_set_ne (Ne.symm hj)] at h3
    rw [List.getElem?_set_ne (Ne.symm hk)] at h4
    exact F.sep j k ds es p h1 h2 h3 h4
/-- a new list of the frame's own -/
theorem Fits.setOwn {i : Nat} {p : Addr} {vs : List V} {ds : List Dt} (F : Fits K T G H σ r) (hp : ∀ (j : Nat) (es : List Dt), j ≠ i → r[j]? = some (.own es) → σ[j]? ≠ some (some (.ref p))) (hg : G p = none) (hh : H p = some (.lst vs)) (q : RpA K T G vs ds) (ht : Tr K T G H (fun _ => True) (σ.set i (some (.ref p))) (r.set i (.own ds))) :
    Fits K T G H (σ.set i (some (.ref p))) (r.set i (.own ds)) := by
  refine ⟨F.gh, by rw [List.length_set, List.length_set]; exact F.len, fun j d' h => ?_, fun j es h => ?_, fun j k es fs p' h1 h2 h3 h4 => ?_, ht⟩
  · by_cases hj : j = i
    · subst hj
      by_cases hl : j < r.length
      · rw [List.getElem?_set_self hl] at h; cases h
      · rw [List.getElem?_eq_none (by simpa using hl)] at h; cases h
    · rw [List.getElem?_set_ne (Ne.symm hj)] at h ⊢
      exact F.val j d' h
  · by_cases hj : j = i
    · subst hj
      by_cases hl : j < r.length
      · rw [List.getElem?_set_self hl] at h
        cases h
        exact ⟨p, vs, List.getElem?_set_self (by rw [F.len]; exact hl), hg, hh, q⟩
      · rw [List.getElem?_eq_none (by simpa using hl)] at h; cases h
    · rw [List.getElem?_set_ne (Ne.symm hj)] at h ⊢
      exact F.own j es h
  · have at_i : ∀ (j : Nat) (es : List Dt), (r.set i (.own ds))[j]? = some (.own es) → (σ.set i (some (.ref p)))[j]? = some (some (.ref p')) → j ≠ i → r[j]? = some (.own es) ∧ σ[j]? = some (some (.ref p')) := fun j es e1 e2 hj => by
      rw [List.getElem?_set_ne (Ne.symm hj)] at e1 e2
      exact ⟨e1, e2⟩
    have self : ∀ (j : Nat) (es : List Dt), j = i → (r.set i (.own ds))[j]? = some (.own es) → (σ.set i (some (.ref p)))[j]? = some (some (.ref p')) → p' = p := fun j es hj e1 e2 => by
      subst hj
      by_cases hl : j < r.length
      · rw [List.getElem?_set_self (by rw [F.len]; exact hl)] at e2
        cases e2; rfl
      · rw [List.getElem?_eq_none (by simpa using hl)] at e1; cases e1
    by_cases hj : j = i
    · by_cases hk : k = i
      · rw [hj, hk]
      · obtain ⟨e1, e2⟩ := at_i k fs h2 h4 hk
        have := self j es hj h1 h3
        subst this
        exact absurd e2 (hp k fs hk e1)
    · obtain ⟨e1, e2⟩ := at_i j es h1 h3 hj
      by_cases hk : k = i
      · have := self k fs hk h2 h4
        subst this
        exact absurd e2 (hp j es hj e1)
      · obtain ⟨e3, e4⟩ := at_i k fs h2 h4 hk
        exact F.sep j k es fs p' e1 e3 e2 e4
/-- a list of the frame's own becomes fixed -/
def frzAt (i : Nat) (r : Env) : Env := match r[i]? with | some (.own l) => r.set i (.val (.lst l)) | _ => r
end
end PL

/-! Expressions as functions from names to data. -/
namespace PL
open PySem PySem.Spec PyProof.Rows L2

section
variable {K : PySem.W.Frag} {T : CT}

/-! ### readings that give data -/
def GE (K : PySem.W.Frag) (T : CT) (te : TE) (f : Env → Option Dt) : Prop :=
  ∀ (G H : Hp) (σ : L2.St) (r : Env) (d : Dt), Fits K T G H σ r → f r = some d → ∀ Q : VK, (∀ v G' H', Nx G H G' H' → Rp K T G' v d → Q v H') → te σ H Q
def GT (K : PySem.W.Frag) (T : CT) (tt : TT) (f : Env → Option Bool) : Prop :=
  ∀ (G H : Hp) (σ : L2.St) (r : Env) (b : Bool), Fits K T G H σ r → f r = some b → ∀ Q : Bool → Hp → Prop, (∀ G' H', Nx G H G' H' → Q b H') → tt σ H Q
def GA (K : PySem.W.Frag) (T : CT) (ta : TA) (f : Env → Option (List Dt)) : Prop :=
  ∀ (G H : Hp) (σ : L2.St) (r : Env) (ds : List Dt), Fits K T G H σ r → f r = some ds → ∀ Q : List V → Hp → Prop, (∀ vs G' H', Nx G H G' H' → RpA K T G' vs ds → Q vs H') → ta σ H Q
/-- a new list that nothing else holds -/
def GL (K : PySem.W.Frag) (T : CT) (te : TE) (f : Env → Option (List Dt)) : Prop :=
  ∀ (G H : Hp) (σ : L2.St) (r : Env) (ds : List Dt), Fits K T G H σ r → f r = some ds → ∀ Q : VK,
    (∀ p vs G' H', Nx G H G' H' → H p = none → G' p = none → H' p = some (.lst vs) → RpA K T G' vs ds → Q (.ref p) H') → te σ H Q
/-- an operation of two values -/
def OpD (K : PySem.W.Frag) (T : CT) (rr : R2) (f : Dt → Dt → Option Dt) : Prop :=
  ∀ (G H : Hp) (x y : V) (d e z : Dt), Same G H → Rp K T G x d → Rp K T G y e → f d e = some z → ∀ Q : VK, (∀ v G' H', Nx G H G' H' → Rp K T G' v z → Q v H') → rr x y H Q
def UnD (K : PySem.W.Frag) (T : CT) (rr : V → Hp → VK → Prop) (f : Dt → Option Dt) : Prop :=
  ∀ (G H : Hp) (x : V) (d z : Dt), Same G H → Rp K T G x d → f d = some z → ∀ Q : VK, (∀ v G' H', Nx G H G' H' → Rp K T G' v z → Q v H') → rr x H Q
/-- a call of known values -/
def CaD (K : PySem.W.Frag) (T : CT) (rr : List V → Hp → VK → Prop) (f : List Dt → Option Dt) : Prop :=
  ∀ (G H : Hp) (xs : List V) (ds : List Dt) (z : Dt), Same G H → RpA K T G xs ds → f ds = some z → ∀ Q : VK, (∀ v G' H', Nx G H G' H' → Rp K T G' v z → Q v H') → rr xs H Q
end

structure DE (X : Cx) (T : CT) (e : Expr) (f : Env → Option Dt) : Prop where
  ex : ∃ te, PE X e te ∧ GE X.K T te f
structure DT (X : Cx) (T : CT) (e : Expr) (f : Env → Option Bool) : Prop where
  ex : ∃ te, PT X e te ∧ GT X.K T te f
/-- a chain of and, or -/
structure DW (X : Cx) (T : CT) (e : Expr) (f : Env → Option Bool) : Prop where
  ex : ∃ te, PW X e te ∧ GT X.K T te f
structure DA (X : Cx) (T : CT) (es : List Expr) (f : Env → Option (List Dt)) : Prop where
  ex : ∃ te, PA X es te ∧ GA X.K T te f
structure DL (X : Cx) (T : CT) (e : Expr) (f : Env → Option (List Dt)) : Prop where
  ex : ∃ te, PE X e te ∧ GL X.K T te f

/-! ### names, constants -/
section
variable {X : Cx} {T : CT} {K : PySem.W.Frag}
def fV (i : Nat) : Env → Option Dt := fun r => gV r i
def fC (d : Dt) : Env → Option Dt := fun _ => some d
theorem ge_var {i : Nat} : GE K T (tVar i) (fV i) := fun G H σ r d F h Q q => by
  obtain ⟨v, e, p⟩ := F.val i d (gV_iff.mp h)
  exact ⟨v, e, q v G H (Nx.refl F.gh) p⟩
theorem ge_c {v : V} {d : Dt} (h : ∀ G, Rp K T G v d) : GE K T (tC v) (fC d) := fun G H σ r d' F e Q q => by
  cases e
  exact q v G H (Nx.refl F.gh) (h G)
theorem de_var (i : Nat) {x : Str} {pos : Pos} (hN : X.N[i]? = some x := by rfl) (hv : Vis X.env.scope x := by first | exact Or.inl rfl | exact Or.inr (Or.inl rfl) | exact Or.inr (Or.inr rfl)) (hd : (x == ("__debug__" : Str)) = false := by decide +kernel)
    (hcd : (x == ("__classdict__" : Str)) = false := by decide +kernel) : DE X T (.Name x pos) (fV i) := ⟨_, pe_var hN hv hd hcd, ge_var⟩
theorem de_int {i : Int} {j pos} : DE X T (.Constant (.int i) j pos) (fC (.int i)) := ⟨_, pe_int, ge_c fun _ => .int i⟩
theorem de_bl {b : Bool} {j pos} : DE X T (.Constant (.bool b) j pos) (fC (.bl b)) := ⟨_, pe_bl, ge_c fun _ => .bl b⟩
theorem de_non {j pos} : DE X T (.Constant .none j pos) (fC .non) := ⟨_, pe_non, ge_c fun _ => .non⟩
theorem de_str {x : Str} (l : List Nat) {j pos} (h : x = ⟨l.toArray⟩ := by decide +kernel) : DE X T (.Constant (.str x) j pos) (fC (.str l)) := by
  subst h
  exact ⟨_, pe_str, ge_c fun _ => .str l⟩
theorem de_glob {x : Str} {v : V} {u : Value} {d : Dt} {pos : Pos} (hm : X.mg x = some u) (r : RelV v u) (hd : ∀ G, Rp X.K T G v d) (hg : Gl X x := by rfl) (hdb : (x == ("__debug__" : Str)) = false := by decide +kernel) : DE X T (.Name x pos) (fC d) :=
  ⟨_, pe_glob hg hm r hdb, ge_c hd⟩

/-! ### operators -/
def fOp (f : Dt → Dt → Option Dt) (a b : Env → Option Dt) : Env → Option Dt := fun r => (a r).bind fun x => (b r).bind fun y => f x y
def fUn (f : Dt → Option Dt) (a : Env → Option Dt) : Env → Option Dt := fun r => (a r).bind f
theorem fOp_some {f : Dt → Dt → Option Dt} {a b : Env → Option Dt} {r : Env} {z : Dt} (h : fOp f a b r = some z) : ∃ x y, a r = some x ∧ b r = some y ∧ f x y = some z := by
  unfold fOp at h
  cases ha : a r with
  | none => rw [ha] at h; cases h
  | some x =>
    cases hb : b r with
    | none => rw [ha, hb] at h; cases h
    | some y => rw [ha, hb] at h; exact ⟨x, y, rfl, rfl, h⟩
theorem ge_op {rr : R2} {f : Dt → Dt → Option Dt} {ta tb : TE} {a b : Env → Option Dt} (hr : OpD K T rr f) (ha : GE K T ta a) (hb : GE K T tb b) : GE K T (tOp rr ta tb) (fOp f a b) := fun G H σ r d F h Q q => by
  obtain ⟨x, y, h1, h2, h3⟩ := fOp_some h
  refine ha G H σ r x F h1 _ fun v G1 H1 n1 p1 => ?_
  refine hb G1 H1 σ r y (F.nx n1) h2 _ fun w G2 H2 n2 p2 => ?_
  exact hr G2 H2 v w x y d n2.gh (Rp.mono n2.gg x p1) p2 h3 Q fun z G3 H3 n3 p3 => q z G3 H3 ((n1.trans n2).trans n3) p3
theorem ge_un {rr : V → Hp → VK → Prop} {f : Dt → Option Dt} {ta : TE} {a : Env → Option Dt} (hr : UnD K T rr f) (ha : GE K T ta a) : GE K T (tUn rr ta) (fUn f a) := fun G H σ r d F h Q q => by
  unfold fUn at h
  cases h1 : a r with
  | none => rw [h1] at h; cases h
  | some x =>
    rw [h1] at h
    refine ha G H σ r x F h1 _ fun v G1 H1 n1 p1 => ?_
    exact hr G1 H1 v x d n1.gh p1 h Q fun z G3 H3 n3 p3 => q z G3 H3 (n1.trans n3) p3
/-- an operator, told by data -/
structure BinD (X : Cx) (T : CT) (fn : Value → Value → Sem Value) (f : Dt → Dt → Option Dt) : Prop where
  ex : ∃ rr, OpR X fn rr ∧ OpD X.K T rr f
structure IxD (X : Cx) (T : CT) (f : Dt → Dt → Option Dt) : Prop where
  ex : ∃ rr, IxR X rr ∧ OpD X.K T rr f
def fAlt (f g : Dt → Dt → Option Dt) : Dt → Dt → Option Dt := fun d e => (f d e).or (g d e)
theorem fAlt_some {f g : Dt → Dt → Option Dt} {d e z : Dt} (h : fAlt f g d e = some z) : f d e = some z ∨ g d e = some z := by
  unfold fAlt at h
  cases h1 : f d e with
  | none => rw [h1] at h; exact .inr h
  | some w => rw [h1] at h; exact .inl h
theorem OpD.or {r1 r2 : R2} {f g : Dt → Dt → Option Dt} (h1 : OpD K T r1 f) (h2 : OpD K T r2 g) : OpD K T (fun x y H Q => r1 x y H Q ∨ r2 x y H Q) (fAlt f g) := fun G H x y d e z gh p q h Q k => by
  rcases fAlt_some h with h | h
  · exact .inl (h1 G H x y d e z gh p q h Q k)
  · exact .inr (h2 G H x y d e z gh p q h Q k)
theorem BinD.or {fn : Value → Value → Sem Value} {f g : Dt → Dt → Option Dt} (h1 : BinD X T fn f) (h2 : BinD X T fn g) : BinD X T fn (fAlt f g) := by
  obtain ⟨r1, a1, b1⟩ := h1.ex
  obtain ⟨r2, a2, b2⟩ := h2.ex
  exact ⟨_, a1.or a2, b1.or b2⟩
theorem IxD.or {f g : Dt → Dt → Option Dt} (h1 : IxD X T f) (h2 : IxD X T g) : IxD X T (fAlt f g) := by
  obtain ⟨r1, a1, b1⟩ := h1.ex
  obtain ⟨r2, a2, b2⟩ := h2.ex
  exact ⟨_, a1.or a2, b1.or b2⟩
theorem BinD.le {fn : Value → Value → Sem Value} {f g : Dt → Dt → Option Dt} (h1 : BinD X T fn f) (h : ∀ d e z, g d e = some z → f d e = some z) : BinD X T fn g := by
  obtain ⟨r1, a1, b1⟩ := h1.ex
  exact ⟨_, a1, fun G H x y d e z gh p q k => b1 G H x y d e z gh p q (h d e z k)⟩
theorem IxD.le {f g : Dt → Dt → Option Dt} (h1 : IxD X T f) (h : ∀ d e z, g d e = some z → f d e = some z) : IxD X T g := by
  obtain ⟨r1, a1, b1⟩ := h1.ex
  exact ⟨_, a1, fun G H x y d e z gh p q k => b1 G H x y d e z gh p q (h d e z k)⟩
theorem de_bin {op : Operator} {f : Dt → Dt → Option Dt} {a b : Expr} {fa fb : Env → Option Dt} {pos : Pos} (ho : BinD X T (binaryOp op) f) (ha : DE X T a fa) (hb : DE X T b fb) : DE X T (.BinOp a op b pos) (fOp f fa fb) := by
  obtain ⟨r1, a1, b1⟩ := ho.ex
  obtain ⟨ta, pa, ga⟩ := ha.ex
  obtain ⟨tb, pb, gb⟩ := hb.ex
  exact ⟨_, pe_op a1 pa pb, ge_op b1 ga gb⟩
theorem de_cmp {op : CmpOp} {f : Dt → Dt → Option Dt} {a b : Expr} {fa fb : Env → Option Dt} {pos : Pos} (ho : BinD X T (compareOp op) f) (ha : DE X T a fa) (hb : DE X T b fb) (hm : behindInMarks op b = false := by first | exact nomark _ | rfl) : DE X T (.Compare a [op] [b] pos) (fOp f fa fb) := by
  obtain ⟨r1, a1, b1⟩ := ho.ex
  obtain ⟨ta, pa, ga⟩ := ha.ex
  obtain ⟨tb, pb, gb⟩ := hb.ex
  exact ⟨_, pe_cmpR a1 pa pb hm, ge_op b1 ga gb⟩
theorem de_ix {f : Dt → Dt → Option Dt} {a b : Expr} {fa fb : Env → Option Dt} {pos : Pos} (ho : IxD X T f) (ha : DE X T a fa) (hb : DE X T b fb) (hs : PlainIx b := by exact fun _ _ => rfl) : DE X T (.Subscript a b pos) (fOp f fa fb) := by
  obtain ⟨r1, a1, b1⟩ := ho.ex
  obtain ⟨ta, pa, ga⟩ := ha.ex
  obtain ⟨tb, pb, gb⟩ := hb.ex
  exact ⟨_, pe_ix a1 pa pb hs, ge_op b1 ga gb⟩
def fNeg : Dt → Option Dt
  | .int i => some (.int (-i))
  | _ => none
theorem de_neg {a : Expr} {fa : Env → Option Dt} {pos : Pos} (ha : DE X T a fa) : DE X T (.UnaryOp .USub a pos) (fUn fNeg fa) := by
  obtain ⟨ta, pa, ga⟩ := ha.ex
  refine ⟨_, pe_un un_neg pa, ge_un (fun G H x d z gh p h Q q => ?_) ga⟩
  cases p <;> cases h
  exact ⟨_, rfl, q _ G H (Nx.refl gh) (.int _)⟩
/-- a chained comparison -/
def fChain (f g : Dt → Dt → Option Dt) (a b c : Env → Option Dt) : Env → Option Dt := fun r => (a r).bind fun x => (b r).bind fun y => match f x y with
  | some (.bl true) => (c r).bind fun z => g y z
  | some (.bl false) => some (.bl false)
  | _ => none
theorem ge_chain {r1 r2 : R2} {f g : Dt → Dt → Option Dt} {ta tb tc : TE} {a b c : Env → Option Dt} (h1 : OpD K T r1 f) (h2 : OpD K T r2 g) (ha : GE K T ta a) (hb : GE K T tb b) (hc : GE K T tc c) : GE K T (tChain r1 r2 ta tb tc) (fChain f g a b c) := fun G H σ r d F h Q q => by
  unfold fChain at h
  cases e1 : a r with
  | none => rw [e1] at h; cases h
  | some x =>
    cases e2 : b r with
    | none => rw [e1, e2] at h; cases h
    | some y =>
      rw [e1, e2] at h
      replace h : (match f x y with | some (.bl true) => (c r).bind fun z => g y z | some (.bl false) => some (.bl false) | _ => none) = some d := h
      refine ha G H σ r x F e1 _ fun v G1 H1 n1 p1 => ?_
      refine hb G1 H1 σ r y (F.nx n1) e2 _ fun w G2 H2 n2 p2 => ?_
      split at h
      · rename_i e3
        cases e4 : c r with
        | none => rw [e4] at h; cases h
        | some z =>
          rw [e4] at h
          refine h1 G2 H2 v w x y _ n2.gh (Rp.mono n2.gg x p1) p2 e3 _ fun k G3 H3 n3 p3 => ?_
          cases p3
          refine ⟨true, rfl, ?_⟩
          rw [if_pos rfl]
          refine hc G3 H3 σ r z (F.nx ((n1.trans n2).trans n3)) e4 _ fun u G4 H4 n4 p4 => ?_
          exact h2 G4 H4 w u y z d n4.gh (Rp.mono (n3.gg.trans n4.gg) y p2) p4 h Q fun k G5 H5 n5 p5 => q k G5 H5 ((((n1.trans n2).trans n3).trans n4).trans n5) p5
      · rename_i e3
        cases h
        refine h1 G2 H2 v w x y _ n2.gh (Rp.mono n2.gg x p1) p2 e3 _ fun k G3 H3 n3 p3 => ?_
        cases p3
        refine ⟨false, rfl, ?_⟩
        rw [if_neg Bool.false_ne_true]
        exact q _ G3 H3 ((n1.trans n2).trans n3) (.bl false)
      · cases h
theorem de_chain {op op' : CmpOp} {f g : Dt → Dt → Option Dt} {a b c : Expr} {fa fb fc : Env → Option Dt} {pos : Pos} (ho : BinD X T (compareOp op) f) (ho' : BinD X T (compareOp op') g) (ha : DE X T a fa) (hb : DE X T b fb) (hc : DE X T c fc)
    (hx : ∀ {r r' : R2} {ta tb tc : TE}, OpR X (compareOp op) r → OpR X (compareOp op') r' → PE X a ta → PE X b tb → PE X c tc → PE X (.Compare a [op, op'] [b, c] pos) (tChain r r' ta tb tc) := by intro r r' ta tb tc h1 h2 h3 h4 h5; exact pe_chain h1 h2 h3 h4 h5) :
    DE X T (.Compare a [op, op'] [b, c] pos) (fChain f g fa fb fc) := by
  obtain ⟨r1, a1, b1⟩ := ho.ex
  obtain ⟨r2, a2, b2⟩ := ho'.ex
  obtain ⟨ta, pa, ga⟩ := ha.ex
  obtain ⟨tb, pb, gb⟩ := hb.ex
  obtain ⟨tc, pc, gc⟩ := hc.ex
  exact ⟨_, hx a1 a2 pa pb pc, ge_chain b1 b2 ga gb gc⟩
/-! ### tests -/
def asB (f : Env → Option Dt) : Env → Option Bool := fun r => match f r with
  | some (.bl b) => some b
  | _ => none
theorem gt_val {te : TE} {f : Env → Option Dt} (h : GE K T te f) : GT K T (tB te) (asB f) := fun G H σ r b F e Q q => by
  unfold asB at e
  split at e
  · rename_i e1
    cases e
    refine h G H σ r _ F e1 _ fun v G1 H1 n1 p1 => ?_
    cases p1
    exact ⟨b, rfl, q G1 H1 n1⟩
  · cases e
theorem dt_val {e : Expr} {f : Env → Option Dt} (h : DE X T e f) (he : ∀ whole, isTrue e X.env whole = (do let v ← whole; standAt e.pos; holding [v] (truthy v)) := by intro _; rfl) : DT X T e (asB f) := by
  obtain ⟨te, pe, ge⟩ := h.ex
  exact ⟨_, pt_val pe he, gt_val ge⟩
theorem dt_cmp {op : CmpOp} {f : Dt → Dt → Option Dt} {a b : Expr} {fa fb : Env → Option Dt} {pos : Pos} (ho : BinD X T (compareOp op) f) (ha : DE X T a fa) (hb : DE X T b fb) (hm : behindInMarks op b = false := by first | exact nomark _ | rfl) : DT X T (.Compare a [op] [b] pos) (asB (fOp f fa fb)) := by
  obtain ⟨r1, a1, b1⟩ := ho.ex
  obtain ⟨ta, pa, ga⟩ := ha.ex
  obtain ⟨tb, pb, gb⟩ := hb.ex
  exact ⟨_, pt_cmpR a1 pa pb hm, gt_val (ge_op b1 ga gb)⟩
theorem dt_chain {op op' : CmpOp} {f g : Dt → Dt → Option Dt} {a b c : Expr} {fa fb fc : Env → Option Dt} {pos : Pos} (ho : BinD X T (compareOp op) f) (ho' : BinD X T (compareOp op') g) (ha : DE X T a fa) (hb : DE X T b fb) (hc : DE X T c fc)
    (hx : ∀ {r r' : R2} {ta tb tc : TE}, OpR X (compareOp op) r → OpR X (compareOp op') r' → PE X a ta → PE X b tb → PE X c tc → PT X (.Compare a [op, op'] [b, c] pos) (tTest (tChain r r' ta tb tc)) := by intro r r' ta tb tc h1 h2 h3 h4 h5; exact pt_chain h1 h2 h3 h4 h5) :
    DT X T (.Compare a [op, op'] [b, c] pos) (asB (fChain f g fa fb fc)) := by
  obtain ⟨r1, a1, b1⟩ := ho.ex
  obtain ⟨r2, a2, b2⟩ := ho'.ex
  obtain ⟨ta, pa, ga⟩ := ha.ex
  obtain ⟨tb, pb, gb⟩ := hb.ex
  obtain ⟨tc, pc, gc⟩ := hc.ex
  exact ⟨_, hx a1 a2 pa pb pc, gt_val (ge_chain b1 b2 ga gb gc)⟩
def fAnd (a b : Env → Option Bool) : Env → Option Bool := fun r => match a r with
  | some true => b r
  | some false => some false
  | none => none
def fOr (a b : Env → Option Bool) : Env → Option Bool := fun r => match a r with
  | some true => some true
  | some false => b r
  | none => none
def fNot (a : Env → Option Bool) : Env → Option Bool := fun r => (a r).map (!·)
theorem gt_and {t u : TT} {a b : Env → Option Bool} (h1 : GT K T t a) (h2 : GT K T u b) : GT K T (tAnd t u) (fAnd a b) := fun G H σ r d F e Q q => by
  unfold fAnd at e
  split at e
  · rename_i e1
    refine h1 G H σ r _ F e1 _ fun G1 H1 n1 => ?_
    show (if true = true then u σ H1 Q else Q false H1)
    rw [if_pos rfl]
    exact h2 G1 H1 σ r d (F.nx n1) e Q fun G2 H2 n2 => q G2 H2 (n1.trans n2)
  · rename_i e1
    cases e
    refine h1 G H σ r _ F e1 _ fun G1 H1 n1 => ?_
    show (if false = true then u σ H1 Q else Q false H1)
    rw [if_neg Bool.false_ne_true]
    exact q G1 H1 n1
  · cases e
theorem gt_or {t u : TT} {a b : Env → Option Bool} (h1 : GT K T t a) (h2 : GT K T u b) : GT K T (tOr t u) (fOr a b) := fun G H σ r d F e Q q => by
  unfold fOr at e
  split at e
  · rename_i e1
    cases e
    refine h1 G H σ r _ F e1 _ fun G1 H1 n1 => ?_
    show (if true = true then Q true H1 else u σ H1 Q)
    rw [if_pos rfl]
    exact q G1 H1 n1
  · rename_i e1
    refine h1 G H σ r _ F e1 _ fun G1 H1 n1 => ?_
    show (if false = true then Q true H1 else u σ H1 Q)
    rw [if_neg Bool.false_ne_true]
    exact h2 G1 H1 σ r d (F.nx n1) e Q fun G2 H2 n2 => q G2 H2 (n1.trans n2)
  · cases e
theorem gt_not {t : TT} {a : Env → Option Bool} (h1 : GT K T t a) : GT K T (tNot t) (fNot a) := fun G H σ r d F e Q q => by
  unfold fNot at e
  cases e1 : a r with
  | none => rw [e1] at e; cases e
  | some b =>
    rw [e1] at e
    cases e
    exact h1 G H σ r _ F e1 _ fun G1 H1 n1 => q G1 H1 n1
theorem dw_and1 {a : Expr} {fa : Env → Option Bool} {pos : Pos} (ha : DT X T a fa) : DW X T (.BoolOp .And [a] pos) fa := by
  obtain ⟨ta, pa, ga⟩ := ha.ex
  exact ⟨_, pw_and1 pa, ga⟩
theorem dw_or1 {a : Expr} {fa : Env → Option Bool} {pos : Pos} (ha : DT X T a fa) : DW X T (.BoolOp .Or [a] pos) fa := by
  obtain ⟨ta, pa, ga⟩ := ha.ex
  exact ⟨_, pw_or1 pa, ga⟩
theorem dw_and {a b : Expr} {rest : List Expr} {fa fb : Env → Option Bool} {pos : Pos} (ha : DT X T a fa) (hb : DW X T (.BoolOp .And (b :: rest) pos) fb) : DW X T (.BoolOp .And (a :: b :: rest) pos) (fAnd fa fb) := by
  obtain ⟨ta, pa, ga⟩ := ha.ex
  obtain ⟨tb, pb, gb⟩ := hb.ex
  exact ⟨_, pw_and pa pb, gt_and ga gb⟩
theorem dw_or {a b : Expr} {rest : List Expr} {fa fb : Env → Option Bool} {pos : Pos} (ha : DT X T a fa) (hb : DW X T (.BoolOp .Or (b :: rest) pos) fb) : DW X T (.BoolOp .Or (a :: b :: rest) pos) (fOr fa fb) := by
  obtain ⟨ta, pa, ga⟩ := ha.ex
  obtain ⟨tb, pb, gb⟩ := hb.ex
  exact ⟨_, pw_or pa pb, gt_or ga gb⟩
theorem dt_w {e : Expr} {f : Env → Option Bool} (h : DW X T e f) : DT X T e f := by
  obtain ⟨te, pe, ge⟩ := h.ex
  exact ⟨_, pe.pt, ge⟩
theorem dt_not {a : Expr} {fa : Env → Option Bool} {pos : Pos} (ha : DT X T a fa) : DT X T (.UnaryOp .Not a pos) (fNot fa) := by
  obtain ⟨ta, pa, ga⟩ := ha.ex
  exact ⟨_, pt_not pa, gt_not ga⟩
/-! ### and, or, not as values; a if t else b -/
def fAndV (a b : Env → Option Dt) : Env → Option Dt := fun r => match a r with
  | some (.bl true) => b r
  | some (.bl false) => some (.bl false)
  | _ => none
def fOrV (a b : Env → Option Dt) : Env → Option Dt := fun r => match a r with
  | some (.bl true) => some (.bl true)
  | some (.bl false) => b r
  | _ => none
def fNotV : Dt → Option Dt
  | .bl b => some (.bl (!b))
  | _ => none
def fIf (t : Env → Option Bool) (a b : Env → Option Dt) : Env → Option Dt := fun r => match t r with
  | some true => a r
  | some false => b r
  | none => none
theorem ge_andV {ta tb : TE} {a b : Env → Option Dt} (h1 : GE K T ta a) (h2 : GE K T tb b) : GE K T (tAndV ta tb) (fAndV a b) := fun G H σ r d F e Q q => by
  unfold fAndV at e
  split at e
  · rename_i e1
    refine h1 G H σ r _ F e1 _ fun v G1 H1 n1 p1 => ?_
    cases p1
    refine ⟨true, rfl, ?_⟩
    rw [if_pos rfl]
    exact h2 G1 H1 σ r d (F.nx n1) e Q fun w G2 H2 n2 => q w G2 H2 (n1.trans n2)
  · rename_i e1
    cases e
    refine h1 G H σ r _ F e1 _ fun v G1 H1 n1 p1 => ?_
    cases p1
    refine ⟨false, rfl, ?_⟩
    rw [if_neg Bool.false_ne_true]
    exact q _ G1 H1 n1 (.bl false)
  · cases e
theorem ge_orV {ta tb : TE} {a b : Env → Option Dt} (h1 : GE K T ta a) (h2 : GE K T tb b) : GE K T (tOrV ta tb) (fOrV a b) := fun G H σ r d F e Q q => by
  unfold fOrV at e
  split at e
  · rename_i e1
    cases e
    refine h1 G H σ r _ F e1 _ fun v G1 H1 n1 p1 => ?_
    cases p1
    refine ⟨true, rfl, ?_⟩
    rw [if_pos rfl]
    exact q _ G1 H1 n1 (.bl true)
  · rename_i e1
    refine h1 G H σ r _ F e1 _ fun v G1 H1 n1 p1 => ?_
    cases p1
    refine ⟨false, rfl, ?_⟩
    rw [if_neg Bool.false_ne_true]
    exact h2 G1 H1 σ r d (F.nx n1) e Q fun w G2 H2 n2 => q w G2 H2 (n1.trans n2)
  · cases e
theorem ge_notV {ta : TE} {a : Env → Option Dt} (h1 : GE K T ta a) : GE K T (tNotV ta) (fUn fNotV a) := fun G H σ r d F e Q q => by
  unfold fUn at e
  cases e1 : a r with
  | none => rw [e1] at e; cases e
  | some x =>
    rw [e1] at e
    cases x <;> cases e
    refine h1 G H σ r _ F e1 _ fun v G1 H1 n1 p1 => ?_
    cases p1
    exact ⟨_, rfl, q _ G1 H1 n1 (.bl _)⟩
theorem de_one {op : BoolOp} {a : Expr} {fa : Env → Option Dt} {pos : Pos} (ha : DE X T a fa) : DE X T (.BoolOp op [a] pos) fa := by
  obtain ⟨ta, pa, ga⟩ := ha.ex
  exact ⟨_, pe_one pa, ga⟩
theorem de_and {a b : Expr} {rest : List Expr} {fa fb : Env → Option Dt} {pos : Pos} (ha : DE X T a fa) (hb : DE X T (.BoolOp .And (b :: rest) pos) fb) : DE X T (.BoolOp .And (a :: b :: rest) pos) (fAndV fa fb) := by
  obtain ⟨ta, pa, ga⟩ := ha.ex
  obtain ⟨tb, pb, gb⟩ := hb.ex
  exact ⟨_, pe_and pa pb, ge_andV ga gb⟩
theorem de_or {a b : Expr} {rest : List Expr} {fa fb : Env → Option Dt} {pos : Pos} (ha : DE X T a fa) (hb : DE X T (.BoolOp .Or (b :: rest) pos) fb) : DE X T (.BoolOp .Or (a :: b :: rest) pos) (fOrV fa fb) := by
  obtain ⟨ta, pa, ga⟩ := ha.ex
  obtain ⟨tb, pb, gb⟩ := hb.ex
  exact ⟨_, pe_or pa pb, ge_orV ga gb⟩
theorem de_not {a : Expr} {fa : Env → Option Dt} {pos : Pos} (ha : DE X T a fa) : DE X T (.UnaryOp .Not a pos) (fUn fNotV fa) := by
  obtain ⟨ta, pa, ga⟩ := ha.ex
  exact ⟨_, pe_not pa, ge_notV ga⟩
theorem ge_if {t : TT} {ta tb : TE} {c : Env → Option Bool} {a b : Env → Option Dt} (hc : GT K T t c) (h1 : GE K T ta a) (h2 : GE K T tb b) : GE K T (tIf t ta tb) (fIf c a b) := fun G H σ r d F e Q q => by
  unfold fIf at e
  split at e
  · rename_i e1
    refine hc G H σ r _ F e1 _ fun G1 H1 n1 => ?_
    show (if true = true then ta σ H1 Q else tb σ H1 Q)
    rw [if_pos rfl]
    exact h1 G1 H1 σ r d (F.nx n1) e Q fun w G2 H2 n2 => q w G2 H2 (n1.trans n2)
  · rename_i e1
    refine hc G H σ r _ F e1 _ fun G1 H1 n1 => ?_
    show (if false = true then ta σ H1 Q else tb σ H1 Q)
    rw [if_neg Bool.false_ne_true]
    exact h2 G1 H1 σ r d (F.nx n1) e Q fun w G2 H2 n2 => q w G2 H2 (n1.trans n2)
  · cases e
theorem de_if {c a b : Expr} {fc : Env → Option Bool} {fa fb : Env → Option Dt} {pos : Pos} (hc : DT X T c fc) (ha : DE X T a fa) (hb : DE X T b fb) : DE X T (.IfExp c a b pos) (fIf fc fa fb) := by
  obtain ⟨tc, pc, gc⟩ := hc.ex
  obtain ⟨ta, pa, ga⟩ := ha.ex
  obtain ⟨tb, pb, gb⟩ := hb.ex
  exact ⟨_, pe_ifExp pc pa pb, ge_if gc ga gb⟩
/-! ### argument lists, displays -/
def fNil : Env → Option (List Dt) := fun _ => some []
def fCons (a : Env → Option Dt) (b : Env → Option (List Dt)) : Env → Option (List Dt) := fun r => (a r).bind fun x => (b r).map fun xs => x :: xs
theorem da_nil : DA X T [] fNil := ⟨_, pa_nil, fun G H σ r d F e Q q => by cases e; exact q [] G H (Nx.refl F.gh) .nil⟩
theorem ga_cons {ta : TE} {tr : TA} {a : Env → Option Dt} {b : Env → Option (List Dt)} (h1 : GE K T ta a) (h2 : GA K T tr b) : GA K T (tCons ta tr) (fCons a b) := fun G H σ r d F e Q q => by
  unfold fCons at e
  cases e1 : a r with
  | none => rw [e1] at e; cases e
  | some x =>
    cases e2 : b r with
    | none => rw [e1, e2] at e; cases e
    | some xs =>
      rw [e1, e2] at e
      cases e
      refine h1 G H σ r _ F e1 _ fun v G1 H1 n1 p1 => ?_
      exact h2 G1 H1 σ r xs (F.nx n1) e2 _ fun vs G2 H2 n2 p2 => q (v :: vs) G2 H2 (n1.trans n2) (.cons (Rp.mono n2.gg x p1) p2)
theorem da_cons {e : Expr} {es : List Expr} {a : Env → Option Dt} {b : Env → Option (List Dt)} (ha : DE X T e a) (hb : DA X T es b) (hs : starEach (e :: es) X.env = (false, eval e X.env) :: starEach es X.env := by rfl) : DA X T (e :: es) (fCons a b) := by
  obtain ⟨ta, pa, ga⟩ := ha.ex
  obtain ⟨tb, pb, gb⟩ := hb.ex
  exact ⟨_, pa_cons pa pb hs, ga_cons ga gb⟩
def fTup (a : Env → Option (List Dt)) : Env → Option Dt := fun r => match a r with
  | some l => if l.length ≤ 100000 then some (.tup l) else none
  | none => none
theorem sz5 {n : Nat} (h : n ≤ 100000) : n ≤ sizeLine := Nat.le_trans h (by decide)
theorem de_tup {es : List Expr} {x1} {a : Env → Option (List Dt)} {pos : Pos} (ha : DA X T es a) : DE X T (.Tuple es x1 pos) (fTup a) := by
  obtain ⟨ta, pa, ga⟩ := ha.ex
  refine ⟨_, pe_tup pa, fun G H σ r d F e Q q => ?_⟩
  unfold fTup at e
  split at e
  · rename_i l e1
    split at e
    · rename_i hl
      cases e
      refine ga G H σ r _ F e1 _ fun vs G1 H1 n1 p1 => ⟨sz5 (by rw [p1.length]; exact hl), fun p hp => ?_⟩
      have n2 := Nx.new (o := .tup vs) n1.gh hp
      exact q _ _ _ (n1.trans n2) (.tup (SqT.of upd_same) (RpA.mono n2.gg _ p1) (fun _ _ _ => upd_same))
    · cases e
  · cases e
def fLst (a : Env → Option (List Dt)) : Env → Option (List Dt) := fun r => match a r with
  | some l => if l.length ≤ 100000 then some l else none
  | none => none
theorem dl_lst {es : List Expr} {a : Env → Option (List Dt)} {pos : Pos} (ha : DA X T es a) : DL X T (.List es pos) (fLst a) := by
  obtain ⟨ta, pa, ga⟩ := ha.ex
  refine ⟨_, pe_lst pa, fun G H σ r d F e Q q => ?_⟩
  unfold fLst at e
  split at e
  · rename_i l e1
    split at e
    · rename_i hl
      cases e
      refine ga G H σ r _ F e1 _ fun vs G1 H1 n1 p1 => ⟨sz5 (by rw [p1.length]; exact hl), fun p hp => ?_⟩
      have n2 := Nx.newH (o := .lst vs) n1.gh hp
      exact q p vs G1 _ (n1.trans n2) (n1.hh.free hp) (n1.gh.free hp) upd_same p1
    · cases e
  · cases e
/-- a new list, fixed -/
def fL (a : Env → Option (List Dt)) : Env → Option Dt := fun r => (a r).map Dt.lst
theorem ge_l {te : TE} {f : Env → Option (List Dt)} (h : GL K T te f) : GE K T te (fL f) := fun G H σ r d F e Q q => by
  unfold fL at e
  cases e1 : f r with
  | none => rw [e1] at e; cases e
  | some l =>
    rw [e1] at e
    cases e
    refine h G H σ r l F e1 Q fun p vs G1 H1 n hp hg hh rp => ?_
    refine q (.ref p) (upd G1 p (.lst vs)) H1 ⟨n.gg.trans (same_new hg), n.hh, same_updL n.gh hh, fun a => ?_⟩ (.lst upd_same (RpA.mono (same_new hg) l rp))
    by_cases ha : a = p
    · exact .inr (.inr (by rw [ha]; exact .inl hp))
    · rw [upd_ne ha]
      exact n.fr a
theorem de_l {e : Expr} {f : Env → Option (List Dt)} (h : DL X T e f) : DE X T e (fL f) := by
  obtain ⟨te, pe, ge⟩ := h.ex
  exact ⟨_, pe, ge_l ge⟩
/-- a value that is no object: read with all lists fixed -/
def scB : Dt → Bool
  | .non => true
  | .bl _ => true
  | .int _ => true
  | .str _ => true
  | _ => false
theorem Rp.sc {G H : Hp} {v : V} {d : Dt} (h : Rp K T H v d) (s : scB d = true) : Rp K T G v d := by
  cases h <;> first | exact .non | exact .bl _ | exact .int _ | exact .str _ | cases s
def fSc (f : Env → Option Dt) : Env → Option Dt := fun r => match f (frzE r) with
  | some d => if scB d = true then some d else none
  | none => none
theorem ge_sc {te : TE} {f : Env → Option Dt} (h : GE K T te f) : GE K T te (fSc f) := fun G H σ r d F e Q q => by
  unfold fSc at e
  split at e
  · rename_i d' e1
    split at e
    · rename_i hs
      cases e
      exact h H H σ (frzE r) d F.frz e1 Q fun v G1 H1 n p => q v G H1 ((Nx.refl F.gh).growH n.hh) (p.sc hs)
    · cases e
  · cases e
theorem de_sc {e : Expr} {f : Env → Option Dt} (h : DE X T e f) : DE X T e (fSc f) := by
  obtain ⟨te, pe, ge⟩ := h.ex
  exact ⟨_, pe, ge_sc ge⟩
end
end PL

/-! Operators on data. -/
namespace PL
open PySem PySem.Spec PyProof.Rows L2

section
variable {X : Cx} {T : CT} {K : PySem.W.Frag}

/-! ### whole numbers -/
theorem ite_some {c : Prop} [Decidable c] {a z : Dt} (h : (if c then some a else none) = some z) : c ∧ a = z := by
  by_cases hc : c
  · rw [if_pos hc] at h
    exact ⟨hc, Option.some.inj h⟩
  · rw [if_neg hc] at h
    cases h
def intD (g : Int → Int → Option Dt) : Dt → Dt → Option Dt
  | .int i, .int j => g i j
  | _, _ => none
theorem intD_some {g : Int → Int → Option Dt} {d e z : Dt} (h : intD g d e = some z) : ∃ i j, d = .int i ∧ e = .int j ∧ g i j = some z := by
  cases d <;> first | (cases e <;> first | exact ⟨_, _, rfl, rfl, h⟩ | cases h) | cases h
theorem opd_I0 {g : Int → Int → V} {g' : Int → Int → Dt} (h : ∀ i j G, Rp K T G (g i j) (g' i j)) : OpD K T (rI0 g) (intD fun i j => some (g' i j)) := fun G H x y d e z gh p q hz Q k => by
  obtain ⟨i, j, rfl, rfl, hz⟩ := intD_some hz
  cases hz
  cases p
  cases q
  exact ⟨i, j, rfl, rfl, k _ G H (Nx.refl gh) (h i j G)⟩
theorem opd_I {C : Int → Int → Prop} {g : Int → Int → V} {f : Int → Int → Option Dt} (h : ∀ i j z, f i j = some z → C i j ∧ ∀ G, Rp K T G (g i j) z) : OpD K T (rI C g) (intD f) := fun G H x y d e z gh p q hz Q k => by
  obtain ⟨i, j, rfl, rfl, hz⟩ := intD_some hz
  cases p
  cases q
  obtain ⟨h1, h2⟩ := h i j z hz
  exact ⟨i, j, rfl, rfl, h1, k _ G H (Nx.refl gh) (h2 G)⟩
def addI : Dt → Dt → Option Dt := intD fun i j => some (.int (i + j))
def subD : Dt → Dt → Option Dt := intD fun i j => some (.int (i - j))
def mulI : Dt → Dt → Option Dt := intD fun i j => if (-(2 ^ 64) < i ∧ i < 2 ^ 64) ∨ (-(2 ^ 64) < j ∧ j < 2 ^ 64) ∨ i.natAbs.log2 + j.natAbs.log2 < 1000000 then some (.int (i * j)) else none
def modD : Dt → Dt → Option Dt := intD fun i j => if 0 < j then some (.int (i % j)) else none
def fdvD : Dt → Dt → Option Dt := intD fun i j => if 0 < j ∧ j < 1073741824 then some (.int (i / j)) else none
def powD : Dt → Dt → Option Dt := intD fun i j => if 0 ≤ j ∧ j ≤ 1000 ∧ i.natAbs < 18446744073709551616 then some (.int (i ^ j.toNat)) else none
theorem bd_addI : BinD X T (binaryOp .Add) addI := ⟨_, op_add, opd_I0 fun i j _ => .int _⟩
theorem bd_sub : BinD X T (binaryOp .Sub) subD := ⟨_, op_sub, opd_I0 fun i j _ => .int _⟩
theorem bd_mulI : BinD X T (binaryOp .Mult) mulI := by
  refine ⟨_, op_mul.or op_mulW, fun G H x y d e z gh p q hz Q k => ?_⟩
  obtain ⟨i, j, rfl, rfl, hz'⟩ := intD_some hz
  obtain ⟨hc, rfl⟩ := ite_some hz'
  cases p
  cases q
  rcases hc with hc | hc | hc
  · exact .inl ⟨i, j, rfl, rfl, .inl hc, k _ G H (Nx.refl gh) (.int _)⟩
  · exact .inl ⟨i, j, rfl, rfl, .inr hc, k _ G H (Nx.refl gh) (.int _)⟩
  · exact .inr ⟨i, j, rfl, rfl, hc, k _ G H (Nx.refl gh) (.int _)⟩
theorem bd_mod : BinD X T (binaryOp .Mod) modD := ⟨_, op_mod, opd_I fun i j z h => by
  split at h
  · rename_i hc; cases h; exact ⟨hc, fun _ => .int _⟩
  · cases h⟩
theorem bd_fdv : BinD X T (binaryOp .FloorDiv) fdvD := ⟨_, op_fdiv, opd_I fun i j z h => by
  split at h
  · rename_i hc; cases h; exact ⟨hc, fun _ => .int _⟩
  · cases h⟩
theorem bd_pow : BinD X T (binaryOp .Pow) powD := ⟨_, op_pow, opd_I fun i j z h => by
  split at h
  · rename_i hc
    cases h
    exact ⟨⟨hc.1, by omega, by have := hc.2.2; rw [show (2 : Nat) ^ 64 = 18446744073709551616 by decide +kernel]; exact this⟩, fun _ => .int _⟩
  · cases h⟩
def ltD : Dt → Dt → Option Dt := intD fun i j => some (.bl (decide (i < j)))
def leD : Dt → Dt → Option Dt := intD fun i j => some (.bl (decide (i ≤ j)))
def gtD : Dt → Dt → Option Dt := intD fun i j => some (.bl (decide (j < i)))
def geD : Dt → Dt → Option Dt := intD fun i j => some (.bl (decide (j ≤ i)))
theorem bd_lt : BinD X T (compareOp .Lt) ltD := ⟨_, op_lt, opd_I0 fun i j _ => .bl _⟩
theorem bd_le : BinD X T (compareOp .LtE) leD := ⟨_, op_le, opd_I0 fun i j _ => .bl _⟩
theorem bd_gt : BinD X T (compareOp .Gt) gtD := ⟨_, op_gt, opd_I0 fun i j _ => .bl _⟩
theorem bd_ge : BinD X T (compareOp .GtE) geD := ⟨_, op_ge, opd_I0 fun i j _ => .bl _⟩

/-! ### texts and lists joined -/
theorem str_app (a b : List Nat) : ((⟨a.toArray⟩ : Str) ++ (⟨b.toArray⟩ : Str)) = ⟨(a ++ b).toArray⟩ := by
  show (⟨a.toArray ++ b.toArray⟩ : Str) = _
  rw [List.append_toArray]
theorem str_len (a : List Nat) : (⟨a.toArray⟩ : Str).length = a.length := by
  show a.toArray.size = a.length
  rw [List.size_toArray]
theorem sz6 {n : Nat} (h : n ≤ 1000000) : n ≤ sizeLine := Nat.le_trans h (by decide)
def strD (g : List Nat → List Nat → Option Dt) : Dt → Dt → Option Dt
  | .str a, .str b => g a b
  | _, _ => none
theorem strD_some {g : List Nat → List Nat → Option Dt} {d e z : Dt} (h : strD g d e = some z) : ∃ i j, d = .str i ∧ e = .str j ∧ g i j = some z := by
  unfold strD at h
  split at h
  · exact ⟨_, _, rfl, rfl, h⟩
  · cases h
def lstD (g : List Dt → List Dt → Option Dt) : Dt → Dt → Option Dt
  | .lst a, .lst b => g a b
  | _, _ => none
theorem lstD_some {g : List Dt → List Dt → Option Dt} {d e z : Dt} (h : lstD g d e = some z) : ∃ i j, d = .lst i ∧ e = .lst j ∧ g i j = some z := by
  unfold lstD at h
  split at h
  · exact ⟨_, _, rfl, rfl, h⟩
  · cases h
def addS : Dt → Dt → Option Dt := strD fun a b => if a.length + b.length ≤ 1000000 then some (.str (a ++ b)) else none
theorem bd_addS : BinD X T (binaryOp .Add) addS := by
  refine ⟨_, op_add_str, fun G H x y d e z gh p q hz Q k => ?_⟩
  obtain ⟨a, b, rfl, rfl, hz'⟩ := strD_some hz
  obtain ⟨hc, rfl⟩ := ite_some hz'
  cases p
  cases q
  refine ⟨_, _, rfl, rfl, by rw [str_len, str_len]; exact sz6 hc, k _ G H (Nx.refl gh) ?_⟩
  rw [str_app]
  exact .str _
def addL : Dt → Dt → Option Dt := lstD fun a b => if a.length + b.length ≤ 100000 then some (.lst (a ++ b)) else none
theorem bd_addL : BinD X T (binaryOp .Add) addL := by
  refine ⟨_, op_cat, fun G H x y d e z gh p q hz Q k => ?_⟩
  obtain ⟨a, b, rfl, rfl, hz'⟩ := lstD_some hz
  obtain ⟨hc, rfl⟩ := ite_some hz'
  cases p with
  | @lst _ xs _ p1 p2 =>
    cases q with
    | @lst _ ys _ q1 q2 =>
      refine ⟨_, _, _, _, rfl, rfl, gh _ _ p1, gh _ _ q1, by rw [p2.length, q2.length]; exact sz5 hc, fun p hp => ?_⟩
      have n := Nx.new (o := .lst (xs ++ ys)) gh hp
      exact k _ _ _ n (.lst upd_same (RpA.mono n.gg _ (p2.append q2)))
def addD (d e : Dt) : Option Dt := match d, e with
  | .int i, .int j => some (.int (i + j))
  | .str a, .str b => if a.length + b.length ≤ 1000000 then some (.str (a ++ b)) else none
  | .lst a, .lst b => if a.length + b.length ≤ 100000 then some (.lst (a ++ b)) else none
  | _, _ => none
theorem bd_add : BinD X T (binaryOp .Add) addD := by
  refine (bd_addI.or (bd_addS.or bd_addL)).le fun d e z h => ?_
  unfold addD at h
  split at h
  · exact h
  · simpa [fAlt, addI, intD, addS, strD, addL, lstD] using h
  · simpa [fAlt, addI, intD, addS, strD, addL, lstD] using h
  · cases h
/-- a new list: a + b of two lists -/
def catO (x y : Dt) : Option (List Dt) := match x, y with
  | .lst l, .lst m => if l.length + m.length ≤ 100000 then some (l ++ m) else none
  | _, _ => none
def fCatO (a b : Env → Option Dt) : Env → Option (List Dt) := fun r => (a r).bind fun x => (b r).bind fun y => catO x y
theorem dl_cat {a b : Expr} {fa fb : Env → Option Dt} {pos : Pos} (ha : DE X T a fa) (hb : DE X T b fb) : DL X T (.BinOp a .Add b pos) (fCatO fa fb) := by
  obtain ⟨ta, pa, ga⟩ := ha.ex
  obtain ⟨tb, pb, gb⟩ := hb.ex
  refine ⟨_, pe_op op_cat pa pb, fun G H σ r ds F h Q q => ?_⟩
  unfold fCatO at h
  cases e1 : fa r with
  | none => rw [e1] at h; cases h
  | some x =>
    cases e2 : fb r with
    | none => rw [e1, e2] at h; cases h
    | some y =>
      rw [e1, e2] at h
      replace h : catO x y = some ds := h
      unfold catO at h
      split at h
      · split at h
        · rename_i hc
          cases h
          refine ga G H σ r _ F e1 _ fun v G1 H1 n1 p1 => ?_
          refine gb G1 H1 σ r _ (F.nx n1) e2 _ fun w G2 H2 n2 p2 => ?_
          have p1' := Rp.mono n2.gg _ p1
          cases p1' with
          | @lst _ xs _ a1 a2 =>
            cases p2 with
            | @lst _ ys _ b1 b2 =>
              refine ⟨_, _, _, _, rfl, rfl, n2.gh _ _ a1, n2.gh _ _ b1, by rw [a2.length, b2.length]; exact sz5 hc, fun p hp => ?_⟩
              have n3 := Nx.newH (o := .lst (xs ++ ys)) n2.gh hp
              exact q p _ G2 _ ((n1.trans n2).trans n3) (n1.hh.free (n2.hh.free hp)) (n2.gh.free hp) upd_same (a2.append b2)
        · cases h
      · cases h

/-! ### data as PyData; == -/
def allEq (f : Dt → Dt → Bool) : List Dt → List Dt → Bool
  | [], [] => true
  | x :: xs, y :: ys => f x y && allEq f xs ys
  | _, _ => false
def eqF : Nat → Dt → Dt → Bool
  | _, .non, .non => true
  | _, .bl a, .bl b => a == b
  | _, .bl a, .int j => (if a then 1 else 0) == j
  | _, .int i, .bl b => i == (if b then 1 else 0)
  | _, .int i, .int j => i == j
  | _, .str x, .str y => x == y
  | n + 1, .lst a, .lst b => allEq (eqF n) a b
  | n + 1, .tup a, .tup b => allEq (eqF n) a b
  | _, _, _ => false
def okD : Nat → Dt → Bool
  | _, .non => true
  | _, .bl _ => true
  | _, .int _ => true
  | _, .str x => x.all fun c => decide (c < 1114112)
  | n + 1, .lst l => l.all (okD n)
  | n + 1, .tup l => l.all (okD n)
  | _, _ => false
def toPy : Nat → Dt → PyData
  | _, .non => .none
  | _, .bl b => .bool b
  | _, .int i => .int i
  | _, .str x => .str ⟨x.toArray⟩
  | n + 1, .lst l => .list (l.map (toPy n))
  | n + 1, .tup l => .tuple (l.map (toPy n))
  | _, _ => .none
theorem dpAll_of {f : Dt → PyData} {H : Hp} : ∀ {vs : List V} {ds : List Dt}, RpA K T H vs ds → (∀ d ∈ ds, ∀ v, Rp K T H v d → Dp K H v (f d)) → DpAll K H vs (ds.map f)
  | _, _, .nil, _ => .nil
  | _, _, .cons r t, h => .cons (h _ List.mem_cons_self _ r) (dpAll_of t fun d hd v q => h d (List.mem_cons_of_mem _ hd) v q)
theorem dp_of : ∀ (n : Nat) (d : Dt) {H : Hp} {v : V}, okD n d = true → Rp K T H v d → Dp K H v (toPy n d)
  | 0, d, H, v, h, r => by
    cases r <;> first | exact .non | exact .bl _ | exact .int _ | exact .str _ | (unfold okD at h; cases h)
  | n + 1, d, H, v, h, r => by
    cases r with
    | non => exact .non
    | bl b => exact .bl b
    | int i => exact .int i
    | str l => exact .str _
    | lst h1 h2 => exact .lst (.inl (.inl h1)) (dpAll_of h2 fun d hd v q => dp_of n d (List.all_eq_true.mp h d hd) q)
    | tup h1 h2 => exact .tup h1 (dpAll_of h2 fun d hd v q => dp_of n d (List.all_eq_true.mp h d hd) q)
    | scr _ => unfold okD at h; cases h
    | obj _ _ _ => unfold okD at h; cases h
    | dic _ _ _ => unfold okD at h; cases h
    | adr _ => unfold okD at h; cases h
    | ty _ => unfold okD at h; cases h
    | cls _ => unfold okD at h; cases h
theorem layAll_of {f : Dt → PyData} : ∀ (ds : List Dt), (∀ d ∈ ds, PyData.canLay0 (f d) = true) → PyData.canLayAll0 (ds.map f) = true
  | [], _ => by simp [PyData.canLayAll0]
  | d :: ds, h => by simp [PyData.canLayAll0, h d List.mem_cons_self, layAll_of ds fun e he => h e (List.mem_cons_of_mem _ he)]
theorem strOk_of {x : List Nat} (h : (x.all fun c => decide (c < 1114112)) = true) : PyData.strOk ⟨x.toArray⟩ = true := by
  show (x.toArray.all (· < 0x110000)) = true
  rw [List.all_toArray]
  exact h
theorem lay_of : ∀ (n : Nat) (d : Dt), okD n d = true → PyData.canLay0 (toPy n d) = true
  | 0, d, h => by
    cases d <;> first | (simp [toPy, PyData.canLay0]; done) | (unfold okD at h; cases h; done) | (show PyData.canLay0 (.str _) = true; unfold PyData.canLay0; exact strOk_of h)
  | n + 1, d, h => by
    cases d with
    | non => simp [toPy, PyData.canLay0]
    | bl b => simp [toPy, PyData.canLay0]
    | int i => simp [toPy, PyData.canLay0]
    | str x => show PyData.canLay0 (.str _) = true; unfold PyData.canLay0; exact strOk_of h
    | lst l => show PyData.canLay0 (.list _) = true; unfold PyData.canLay0; exact layAll_of l fun d hd => lay_of n d (List.all_eq_true.mp h d hd)
    | tup l => show PyData.canLay0 (.tuple _) = true; unfold PyData.canLay0; exact layAll_of l fun d hd => lay_of n d (List.all_eq_true.mp h d hd)
    | scr _ => unfold okD at h; cases h
    | obj _ _ => unfold okD at h; cases h
    | dic _ _ => unfold okD at h; cases h
    | adr _ => unfold okD at h; cases h
    | ty _ => unfold okD at h; cases h
    | cls _ => unfold okD at h; cases h
theorem depthAll_of {f : Dt → PyData} {n : Nat} : ∀ (ds : List Dt), (∀ d ∈ ds, (f d).depth ≤ n) → PyData.depthAll (ds.map f) ≤ n
  | [], _ => by simp [PyData.depthAll]
  | d :: ds, h => by
    have h1 := h d List.mem_cons_self
    have h2 := depthAll_of ds fun e he => h e (List.mem_cons_of_mem _ he)
    simp only [List.map_cons, PyData.depthAll]
    omega
theorem depth_of : ∀ (n : Nat) (d : Dt), (toPy n d).depth ≤ n
  | 0, d => by cases d <;> simp [toPy, PyData.depth]
  | n + 1, d => by
    cases d with
    | lst l =>
      have := depthAll_of (f := toPy n) l fun d _ => depth_of n d
      show PyData.depth (.list _) ≤ n + 1
      unfold PyData.depth
      omega
    | tup l =>
      have := depthAll_of (f := toPy n) l fun d _ => depth_of n d
      show PyData.depth (.tuple _) ≤ n + 1
      unfold PyData.depth
      omega
    | _ => simp [toPy, PyData.depth]
theorem shaped_of {n : Nat} {d : Dt} (hn : n ≤ 64) (h : okD n d = true) : SeqAt.shaped (toPy n d) = true := by
  show ((toPy n d).canLay0 && decide ((toPy n d).depth ≤ 64)) = true
  rw [Bool.and_eq_true]
  exact ⟨lay_of n d h, decide_eq_true (Nat.le_trans (depth_of n d) hn)⟩
theorem eqvAll_of {f : Dt → PyData} {g : Dt → Dt → Bool} : ∀ (as bs : List Dt), (∀ a ∈ as, ∀ b ∈ bs, PyData.eqv (f a) (f b) = g a b) → PyData.eqvAll (as.map f) (bs.map f) = allEq g as bs
  | [], [], _ => by simp [PyData.eqvAll, allEq]
  | [], _ :: _, _ => by simp [PyData.eqvAll, allEq]
  | _ :: _, [], _ => by simp [PyData.eqvAll, allEq]
  | a :: as, b :: bs, h => by
    simp only [List.map_cons, PyData.eqvAll, allEq]
    rw [h a List.mem_cons_self b List.mem_cons_self, eqvAll_of as bs fun x hx y hy => h x (List.mem_cons_of_mem _ hx) y (List.mem_cons_of_mem _ hy)]
theorem str_beq (x y : List Nat) : ((⟨x.toArray⟩ : Str) == ⟨y.toArray⟩) = (x == y) := by
  rw [Bool.eq_iff_iff, beq_iff_eq, beq_iff_eq]
  constructor
  · intro h
    have h2 : x.toArray = y.toArray := congrArg Str.cps h
    have h3 := congrArg Array.toList h2
    simpa using h3
  · intro h; rw [h]
theorem eqv_of : ∀ (n : Nat) (d e : Dt), okD n d = true → okD n e = true → PyData.eqv (toPy n d) (toPy n e) = eqF n d e
  | 0, d, e, h1, h2 => by
    cases d <;> first | (unfold okD at h1; cases h1; done) | (cases e <;> first | (unfold okD at h2; cases h2; done) | (simp only [toPy, PyData.eqv, eqF, str_beq]; done))
  | n + 1, d, e, h1, h2 => by
    have hl : ∀ as bs : List Dt, as.all (okD n) = true → bs.all (okD n) = true → PyData.eqvAll (as.map (toPy n)) (bs.map (toPy n)) = allEq (eqF n) as bs := fun as bs ha hb =>
      eqvAll_of as bs fun x hx y hy => eqv_of n x y (List.all_eq_true.mp ha x hx) (List.all_eq_true.mp hb y hy)
    cases d <;> first
      | (simp only [okD] at h1; cases h1; done)
      | (cases e <;> first
          | (simp only [okD] at h2; cases h2; done)
          | (simp only [toPy, PyData.eqv, eqF, str_beq]; done)
          | (simp only [toPy, PyData.eqv, eqF]; exact hl _ _ h1 h2))
def eqD (d e : Dt) : Option Dt := match d, e with
  | .int i, .int j => some (.bl (decide (i = j)))
  | .str a, .str b => some (.bl (decide (a = b)))
  | _, _ => if okD 9 d = true ∧ okD 9 e = true then some (.bl (eqF 9 d e)) else none
def neD (d e : Dt) : Option Dt := match d, e with
  | .int i, .int j => some (.bl (!decide (i = j)))
  | .str a, .str b => some (.bl (!decide (a = b)))
  | _, _ => if okD 9 d = true ∧ okD 9 e = true then some (.bl (!eqF 9 d e)) else none
theorem dec_vint (i j : Int) : decide (V.int i = V.int j) = decide (i = j) := by
  by_cases h : i = j
  · rw [h, decide_eq_true rfl, decide_eq_true rfl]
  · rw [decide_eq_false h, decide_eq_false fun z => h (V.int.inj z)]
theorem dec_vstr (a b : List Nat) : decide (V.str ⟨a.toArray⟩ = V.str ⟨b.toArray⟩) = decide (a = b) := by
  by_cases h : a = b
  · rw [h, decide_eq_true rfl, decide_eq_true rfl]
  · rw [decide_eq_false h, decide_eq_false fun z => h (by
      have h2 : a.toArray = b.toArray := congrArg Str.cps (V.str.inj z)
      simpa using congrArg Array.toList h2)]
theorem bd_eqDD {n : Nat} (hu : X.A.units + 64 < cLine) : BinD X T (compareOp .Eq) (fun d e => if okD 9 d = true ∧ okD 9 e = true then some (.bl (eqF 9 d e)) else none) := by
  refine ⟨_, op_eqD hu, fun G H x y d e z gh p q hz Q k => ?_⟩
  · obtain ⟨hc, rfl⟩ := ite_some hz
    refine ⟨toPy 9 d, toPy 9 e, dp_of 9 d hc.1 (Rp.mono gh d p), dp_of 9 e hc.2 (Rp.mono gh e q), shaped_of (by decide) hc.1, shaped_of (by decide) hc.2, ?_⟩
    rw [eqv_of 9 d e hc.1 hc.2]
    exact k _ G H (Nx.refl gh) (.bl _)
theorem bd_neDD {n : Nat} (hu : X.A.units + 64 < cLine) : BinD X T (compareOp .NotEq) (fun d e => if okD 9 d = true ∧ okD 9 e = true then some (.bl (!eqF 9 d e)) else none) := by
  refine ⟨_, op_neD hu, fun G H x y d e z gh p q hz Q k => ?_⟩
  · obtain ⟨hc, rfl⟩ := ite_some hz
    refine ⟨toPy 9 d, toPy 9 e, dp_of 9 d hc.1 (Rp.mono gh d p), dp_of 9 e hc.2 (Rp.mono gh e q), shaped_of (by decide) hc.1, shaped_of (by decide) hc.2, ?_⟩
    rw [eqv_of 9 d e hc.1 hc.2]
    exact k _ G H (Nx.refl gh) (.bl _)
def eqSc : Dt → Dt → Option Dt
  | .int i, .int j => some (.bl (decide (i = j)))
  | .str a, .str b => some (.bl (decide (a = b)))
  | _, _ => none
def neSc : Dt → Dt → Option Dt
  | .int i, .int j => some (.bl (!decide (i = j)))
  | .str a, .str b => some (.bl (!decide (a = b)))
  | _, _ => none
theorem bd_eqSc : BinD X T (compareOp .Eq) eqSc := by
  refine ⟨_, op_eq, fun G H x y d e z gh p q hz Q k => ?_⟩
  cases d <;> first
    | (cases e <;> first
        | (cases hz; cases p; cases q; refine ⟨rfl, ?_⟩; first | rw [dec_vint] | rw [dec_vstr]
           exact k _ G H (Nx.refl gh) (.bl _))
        | cases hz)
    | cases hz
theorem bd_neSc : BinD X T (compareOp .NotEq) neSc := by
  refine ⟨_, op_ne, fun G H x y d e z gh p q hz Q k => ?_⟩
  cases d <;> first
    | (cases e <;> first
        | (cases hz; cases p; cases q; refine ⟨rfl, ?_⟩; first | rw [dec_vint] | rw [dec_vstr]
           exact k _ G H (Nx.refl gh) (.bl _))
        | cases hz)
    | cases hz
theorem bd_eq (hu : X.A.units + 64 < cLine) : BinD X T (compareOp .Eq) eqD := by
  refine (bd_eqSc.or (bd_eqDD (n := 0) hu)).le fun d e z h => ?_
  cases d <;> first | exact h | (cases e <;> exact h)
theorem bd_ne (hu : X.A.units + 64 < cLine) : BinD X T (compareOp .NotEq) neD := by
  refine (bd_neSc.or (bd_neDD (n := 0) hu)).le fun d e z h => ?_
  cases d <;> first | exact h | (cases e <;> exact h)

/-! ### in, not in -/
def toV : Dt → V
  | .bl b => .bl b
  | .int i => .int i
  | .str x => .str ⟨x.toArray⟩
  | _ => .non
theorem rp_toV {H : Hp} {v : V} {d : Dt} (h : scB d = true) (r : Rp K T H v d) : v = toV d := by
  cases r <;> first | rfl | cases h
theorem rpA_toV {H : Hp} : ∀ {vs : List V} {ds : List Dt}, ds.all scB = true → RpA K T H vs ds → vs = ds.map toV
  | _, _, _, .nil => rfl
  | _, d :: ds, h, .cons r t => by
    rw [List.all_cons, Bool.and_eq_true] at h
    rw [List.map_cons, rp_toV h.1 r, rpA_toV h.2 t]
theorem flat_toV (d : Dt) : flatV (toV d) = true := by cases d <;> rfl
theorem all_flat : ∀ ds : List Dt, (ds.map toV).all flatV = true
  | [] => rfl
  | d :: ds => by rw [List.map_cons, List.all_cons, flat_toV, all_flat ds]; rfl
theorem eqV_toV {d e : Dt} (h1 : scB d = true) (h2 : scB e = true) : eqV (toV d) (toV e) = eqF 0 d e := by
  cases d <;> first | (cases h1; done) | (cases e <;> first | (cases h2; done) | (simp only [toV, eqV, eqF, str_beq]; done))
theorem inV_toV {d : Dt} (h1 : scB d = true) : ∀ ds : List Dt, ds.all scB = true → inV (toV d) (ds.map toV) = ds.any fun y => eqF 0 y d
  | [], _ => rfl
  | e :: ds, h => by
    rw [List.all_cons, Bool.and_eq_true] at h
    have := inV_toV h1 ds h.2
    unfold inV at this ⊢
    rw [List.map_cons, List.any_cons, List.any_cons, this, eqV_toV h.1 h1]
/-- the items of a list or a tuple -/
def seqOf : Dt → Option (List Dt)
  | .lst l => some l
  | .tup l => some l
  | _ => none
theorem seq_rp {H : Hp} {v : V} {d : Dt} {l : List Dt} (h : seqOf d = some l) (r : Rp K T H v d) : ∃ p xs, v = .ref p ∧ (SqL K H p xs ∨ SqT K H p xs) ∧ RpA K T H xs l := by
  cases r with
  | lst h1 h2 => cases h; exact ⟨_, _, rfl, .inl (SqL.of h1), h2⟩
  | tup h1 h2 => cases h; exact ⟨_, _, rfl, .inr h1, h2⟩
  | _ => cases h
def inFlat (d e : Dt) : Option Bool := match seqOf e with
  | some l => if scB d = true ∧ l.all scB = true then some (l.any fun y => eqF 0 y d) else none
  | none => none
def inDeep (d e : Dt) : Option Bool := match e with
  | .lst l => if okD 9 d = true ∧ okD 9 (.lst l) = true then some (l.any fun y => eqF 9 y d) else none
  | _ => none
def inText (d e : Dt) : Option Bool := match d, e with
  | .str [c], .str z => some (z.contains c)
  | _, _ => none
def inB (d e : Dt) : Option Bool := (inFlat d e).or ((inText d e).or (inDeep d e))
def inD (d e : Dt) : Option Dt := (inB d e).map Dt.bl
def niD (d e : Dt) : Option Dt := (inB d e).map fun b => .bl (!b)
theorem bd_in (hu : X.A.units + 65 < cLine) : BinD X T (compareOp .In) inD := by
  have h1 : BinD X T (compareOp .In) (fun d e => (inFlat d e).map Dt.bl) := by
    refine ⟨_, op_in_seq, fun G H x y d e z gh p q hz Q k => ?_⟩
    dsimp only at hz
    unfold inFlat at hz
    split at hz
    · rename_i l hl
      split at hz
      · rename_i hc
        cases hz
        obtain ⟨a, xs, rfl, hs, hr⟩ := seq_rp hl (Rp.mono gh e q)
        have e1 := rp_toV hc.1 p
        have e2 := rpA_toV hc.2 hr
        subst e1 e2
        refine ⟨a, _, rfl, hs, flat_toV d, all_flat l, ?_⟩
        rw [if_neg Bool.false_ne_true, inV_toV hc.1 l hc.2]
        exact k _ G H (Nx.refl gh) (.bl _)
      · cases hz
    · cases hz
  have h2 : BinD X T (compareOp .In) (fun d e => (inText d e).map Dt.bl) := by
    refine ⟨_, op_in_sign, fun G H x y d e z gh p q hz Q k => ?_⟩
    dsimp only at hz
    unfold inText at hz
    split at hz
    · rename_i c w
      cases hz
      cases p
      cases q
      refine ⟨c, _, rfl, rfl, ?_⟩
      have : decide (c ∈ (⟨w.toArray⟩ : Str).cps.toList) = w.contains c := by
        rw [Bool.eq_iff_iff, decide_eq_true_iff, List.contains_iff_mem]
      rw [this]
      exact k _ G H (Nx.refl gh) (.bl _)
    · cases hz
  have h3 : BinD X T (compareOp .In) (fun d e => (inDeep d e).map Dt.bl) := by
    refine ⟨_, op_inD hu, fun G H x y d e z gh p q hz Q k => ?_⟩
    dsimp only at hz
    unfold inDeep at hz
    split at hz
    · rename_i l
      split at hz
      · rename_i hc
        cases hz
        have q' := dp_of 9 (.lst l) hc.2 (Rp.mono gh _ q)
        have hl : l.all (okD 8) = true := hc.2
        refine ⟨toPy 9 d, l.map (toPy 8), dp_of 9 d hc.1 (Rp.mono gh d p), q', shaped_of (by decide) hc.1, shaped_of (n := 9) (by decide) hc.2, ?_⟩
        have : ((l.map (toPy 8)).any fun z => PyData.eqv z (toPy 9 d)) = l.any fun y => eqF 9 y d := by
          rw [List.any_map]
          have up : ∀ (n : Nat) (y : Dt), okD n y = true → okD (n + 1) y = true ∧ toPy n y = toPy (n + 1) y := by
            intro n
            induction n with
            | zero => intro y hy; cases y <;> first | exact ⟨rfl, rfl⟩ | exact ⟨hy, rfl⟩ | (simp only [okD] at hy; cases hy)
            | succ n ih =>
              intro y hy
              cases y <;> first
                | exact ⟨rfl, rfl⟩
                | exact ⟨hy, rfl⟩
                | (simp only [okD] at hy; cases hy; done)
                | (rename_i l
                   have hy' : l.all (okD n) = true := hy
                   refine ⟨List.all_eq_true.mpr fun x hx => (ih x (List.all_eq_true.mp hy' x hx)).1, ?_⟩
                   simp only [toPy]
                   congr 1
                   exact List.map_congr_left fun x hx => (ih x (List.all_eq_true.mp hy' x hx)).2)
          have go : ∀ ys : List Dt, (∀ y ∈ ys, okD 8 y = true) → (ys.any ((fun z => PyData.eqv z (toPy 9 d)) ∘ toPy 8)) = ys.any fun y => eqF 9 y d := by
            intro ys
            induction ys with
            | nil => intro _; rfl
            | cons y ys ih =>
              intro hy
              obtain ⟨u1, u2⟩ := up 8 y (hy y List.mem_cons_self)
              rw [List.any_cons, List.any_cons, ih fun z hz => hy z (List.mem_cons_of_mem _ hz)]
              show (PyData.eqv (toPy 8 y) (toPy 9 d) || _) = _
              rw [u2, eqv_of 9 y d u1 hc.1]
          exact go l fun y hy => List.all_eq_true.mp hl y hy
        rw [this]
        exact k _ G H (Nx.refl gh) (.bl _)
      · cases hz
    · cases hz
  refine (h1.or (h2.or h3)).le fun d e z h => ?_
  have e : fAlt (fun d e => (inFlat d e).map Dt.bl) (fAlt (fun d e => (inText d e).map Dt.bl) (fun d e => (inDeep d e).map Dt.bl)) d e = inD d e := by
    unfold inD inB fAlt
    dsimp only
    cases inFlat d e <;> cases inText d e <;> rfl
  rw [e]
  exact h
/-- a rule for not in from the two rules' own texts -/
theorem bd_ni (hu : X.A.units + 65 < cLine) : BinD X T (compareOp .NotIn) niD := by
  have h1 : BinD X T (compareOp .NotIn) (fun d e => (inFlat d e).map fun b => Dt.bl (!b)) := by
    refine ⟨_, op_notIn_seq, fun G H x y d e z gh p q hz Q k => ?_⟩
    dsimp only at hz
    unfold inFlat at hz
    split at hz
    · rename_i l hl
      split at hz
      · rename_i hc
        cases hz
        obtain ⟨a, xs, rfl, hs, hr⟩ := seq_rp hl (Rp.mono gh e q)
        have e1 := rp_toV hc.1 p
        have e2 := rpA_toV hc.2 hr
        subst e1 e2
        refine ⟨a, _, rfl, hs, flat_toV d, all_flat l, ?_⟩
        rw [if_pos rfl, inV_toV hc.1 l hc.2]
        exact k _ G H (Nx.refl gh) (.bl _)
      · cases hz
    · cases hz
  have h2 : BinD X T (compareOp .NotIn) (fun d e => (inText d e).map fun b => Dt.bl (!b)) := by
    refine ⟨_, op_notIn_sign, fun G H x y d e z gh p q hz Q k => ?_⟩
    dsimp only at hz
    unfold inText at hz
    split at hz
    · rename_i c w
      cases hz
      cases p
      cases q
      refine ⟨c, _, rfl, rfl, ?_⟩
      have : decide (c ∈ (⟨w.toArray⟩ : Str).cps.toList) = w.contains c := by
        rw [Bool.eq_iff_iff, decide_eq_true_iff, List.contains_iff_mem]
      rw [this]
      exact k _ G H (Nx.refl gh) (.bl _)
    · cases hz
  have h3 : BinD X T (compareOp .NotIn) (fun d e => (inDeep d e).map fun b => Dt.bl (!b)) := by
    obtain ⟨rr, ho, hr⟩ := (bd_in (T := T) hu).ex
    refine ⟨_, op_notInD hu, fun G H x y d e z gh p q hz Q k => ?_⟩
    dsimp only at hz
    unfold inDeep at hz
    split at hz
    · rename_i l
      split at hz
      · rename_i hc
        cases hz
        have q' := dp_of 9 (.lst l) hc.2 (Rp.mono gh _ q)
        have hl : l.all (okD 8) = true := hc.2
        refine ⟨toPy 9 d, l.map (toPy 8), dp_of 9 d hc.1 (Rp.mono gh d p), q', shaped_of (by decide) hc.1, shaped_of (n := 9) (by decide) hc.2, ?_⟩
        have : ((l.map (toPy 8)).any fun z => PyData.eqv z (toPy 9 d)) = l.any fun y => eqF 9 y d := by
          rw [List.any_map]
          have up : ∀ (n : Nat) (y : Dt), okD n y = true → okD (n + 1) y = true ∧ toPy n y = toPy (n + 1) y := by
            intro n
            induction n with
            | zero => intro y hy; cases y <;> first | exact ⟨rfl, rfl⟩ | exact ⟨hy, rfl⟩ | (simp only [okD] at hy; cases hy)
            | succ n ih =>
              intro y hy
              cases y <;> first
                | exact ⟨rfl, rfl⟩
                | exact ⟨hy, rfl⟩
                | (simp only [okD] at hy; cases hy; done)
                | (rename_i l
                   have hy' : l.all (okD n) = true := hy
                   refine ⟨List.all_eq_true.mpr fun x hx => (ih x (List.all_eq_true.mp hy' x hx)).1, ?_⟩
                   simp only [toPy]
                   congr 1
                   exact List.map_congr_left fun x hx => (ih x (List.all_eq_true.mp hy' x hx)).2)
          have go : ∀ ys : List Dt, (∀ y ∈ ys, okD 8 y = true) → (ys.any ((fun z => PyData.eqv z (toPy 9 d)) ∘ toPy 8)) = ys.any fun y => eqF 9 y d := by
            intro ys
            induction ys with
            | nil => intro _; rfl
            | cons y ys ih =>
              intro hy
              obtain ⟨u1, u2⟩ := up 8 y (hy y List.mem_cons_self)
              rw [List.any_cons, List.any_cons, ih fun z hz => hy z (List.mem_cons_of_mem _ hz)]
              show (PyData.eqv (toPy 8 y) (toPy 9 d) || _) = _
              rw [u2, eqv_of 9 y d u1 hc.1]
          exact go l fun y hy => List.all_eq_true.mp hl y hy
        rw [this]
        exact k _ G H (Nx.refl gh) (.bl _)
      · cases hz
    · cases hz
  refine (h1.or (h2.or h3)).le fun d e z h => ?_
  have e : fAlt (fun d e => (inFlat d e).map fun b => Dt.bl (!b)) (fAlt (fun d e => (inText d e).map fun b => Dt.bl (!b)) (fun d e => (inDeep d e).map fun b => Dt.bl (!b))) d e = niD d e := by
    unfold niD inB fAlt
    dsimp only
    cases inFlat d e <;> cases inText d e <;> rfl
  rw [e]
  exact h
end
end PL

/-! Subscripts, slices, calls of built-ins, methods of texts. -/
namespace PL
open PySem PySem.Spec PyProof.Rows L2

section
variable {X : Cx} {T : CT} {K : PySem.W.Frag}

/-! ### is None, is True -/
def isD (d e : Dt) : Option Dt := match e with
  | .non => (match d with | .non => some (.bl true) | _ => some (.bl false))
  | .bl b => (match d with | .bl a => some (.bl (decide (a = b))) | _ => none)
  | _ => none
def isnD (d e : Dt) : Option Dt := match e with
  | .non => (match d with | .non => some (.bl false) | _ => some (.bl true))
  | .bl b => (match d with | .bl a => some (.bl (!decide (a = b))) | _ => none)
  | _ => none
theorem bd_is : BinD X T (compareOp .Is) isD := by
  refine ⟨_, op_isN.or op_is_bl, fun G H x y d e z gh p q hz Q k => ?_⟩
  unfold isD at hz
  split at hz
  · cases q
    refine .inl ⟨rfl, ?_⟩
    split at hz
    · cases hz; cases p; exact k _ G H (Nx.refl gh) (.bl _)
    · rename_i hn
      cases hz
      have : decide (x = V.non) = false := decide_eq_false fun e => by
        subst e
        cases p
        exact hn rfl
      rw [this]
      exact k _ G H (Nx.refl gh) (.bl _)
  · cases q
    split at hz
    · cases hz; cases p; exact .inr ⟨_, _, rfl, rfl, k _ G H (Nx.refl gh) (.bl _)⟩
    · cases hz
  · cases hz
theorem bd_isn : BinD X T (compareOp .IsNot) isnD := by
  refine ⟨_, op_notN.or op_isnot_bl, fun G H x y d e z gh p q hz Q k => ?_⟩
  unfold isnD at hz
  split at hz
  · cases q
    refine .inl ⟨rfl, ?_⟩
    split at hz
    · cases hz; cases p; exact k _ G H (Nx.refl gh) (.bl _)
    · rename_i hn
      cases hz
      have : decide (x = V.non) = false := decide_eq_false fun e => by
        subst e
        cases p
        exact hn rfl
      rw [this]
      exact k _ G H (Nx.refl gh) (.bl _)
  · cases q
    split at hz
    · cases hz; cases p; exact .inr ⟨_, _, rfl, rfl, k _ G H (Nx.refl gh) (.bl _)⟩
    · cases hz
  · cases hz

/-! ### subscripts -/
theorem ite_opt {α : Type} {c : Prop} [Decidable c] {o : Option α} {z : α} (h : (if c then o else none) = some z) : c ∧ o = some z := by
  by_cases hc : c
  · rw [if_pos hc] at h
    exact ⟨hc, h⟩
  · rw [if_neg hc] at h
    cases h
theorem RpA.atI {H : Hp} {vs : List V} {ds : List Dt} {i : Int} {d : Dt} (h : RpA K T H vs ds) (e : atI ds i = some d) : ∃ v, L2.atI vs i = some v ∧ Rp K T H v d := by
  unfold L2.atI at e ⊢
  rw [h.length]
  cases q : ixN ds.length i with
  | none => rw [q] at e; cases e
  | some j =>
    rw [q] at e
    exact h.get e
def ixD (d e : Dt) : Option Dt := match e with
  | .int i => (match d with
    | .lst l => atI l i
    | .tup l => atI l i
    | .scr l => (atI l i).map Dt.int
    | .str z => if z.length ≤ 1000000 then (atI z i).map fun c => .str [c] else none
    | _ => none)
  | _ => none
theorem ixd : IxD X T ixD := by
  refine ⟨_, ix_seq, fun G H x y d e z gh p q hz Q k => ?_⟩
  unfold ixD at hz
  split at hz
  · rename_i i
    cases q
    split at hz
    · rename_i l
      cases p with
      | lst p1 p2 =>
        obtain ⟨v, e1, r⟩ := p2.atI hz
        exact .inl ⟨_, _, i, v, rfl, rfl, SqL.of (gh _ _ p1), e1, k v G H (Nx.refl gh) r⟩
    · rename_i l
      cases p with
      | tup p1 p2 =>
        obtain ⟨v, e1, r⟩ := p2.atI hz
        exact .inr (.inl ⟨_, _, i, v, rfl, rfl, SqT.mono gh p1, e1, k v G H (Nx.refl gh) r⟩)
    · rename_i l
      cases p with
      | scr p1 =>
        cases e1 : atI l i with
        | none => rw [e1] at hz; cases hz
        | some n =>
          rw [e1] at hz
          cases hz
          refine .inl ⟨_, _, i, .int n, rfl, rfl, gh.seq p1, ?_, k _ G H (Nx.refl gh) (.int n)⟩
          unfold L2.atI at e1 ⊢
          rw [List.length_map]
          cases q : ixN l.length i with
          | none => rw [q] at e1; cases e1
          | some j =>
            rw [q] at e1
            show (l.map V.int)[j]? = some (.int n)
            rw [List.getElem?_map, show l[j]? = some n from e1]
            rfl
    · rename_i l
      cases p
      obtain ⟨hc, hz⟩ := ite_opt hz
      cases e1 : atI l i with
      | none => rw [e1] at hz; cases hz
      | some c =>
        rw [e1] at hz
        cases hz
        exact .inr (.inr ⟨_, i, c, rfl, rfl, by rw [str_len]; exact sz6 hc, by simpa using e1, k _ G H (Nx.refl gh) (.str [c])⟩)
    · cases hz
  · cases hz

/-! ### slices -/
def cutL {α : Type} (l : List α) (lo hi : Option Int) : List α := (l.drop (HT.sIx l.length 0 lo)).take (HT.sIx l.length l.length hi - HT.sIx l.length 0 lo)
/-- a slice's bound -/
structure DO (X : Cx) (T : CT) (e : Option Expr) (f : Env → Option (Option Int)) : Prop where
  ex : ∃ to, PO X e to ∧ ∀ (G H : Hp) (σ : L2.St) (r : Env) (o : Option Int), Fits X.K T G H σ r → f r = some o → ∀ Q : Option Int → Hp → Prop, (∀ G' H', Nx G H G' H' → Q o H') → to σ H Q
def oNo : Env → Option (Option Int) := fun _ => some none
def oSo (f : Env → Option Dt) : Env → Option (Option Int) := fun r => match f r with
  | some (.int i) => some (some i)
  | _ => none
theorem do_none : DO X T none oNo := ⟨_, po_none, fun G H σ r o F e Q q => by
  cases e
  exact q G H (Nx.refl F.gh)⟩
theorem do_some {e : Expr} {f : Env → Option Dt} (h : DE X T e f) : DO X T (some e) (oSo f) := by
  obtain ⟨te, pe, ge⟩ := h.ex
  refine ⟨_, po_some pe, fun G H σ r o F e Q q => ?_⟩
  unfold oSo at e
  split at e
  · rename_i i e1
    cases e
    refine ge G H σ r _ F e1 _ fun v G1 H1 n1 p1 => ?_
    cases p1
    exact ⟨i, rfl, q G1 H1 n1⟩
  · cases e
def sliceD (d : Dt) (lo hi : Option Int) : Option Dt := match d with
  | .str z => if z.length ≤ 1000000 then some (.str (cutL z lo hi)) else none
  | .lst l => some (.lst (cutL l lo hi))
  | .scr l => some (.lst ((cutL l lo hi).map Dt.int))
  | _ => none
def fSlice (a : Env → Option Dt) (lo hi : Env → Option (Option Int)) : Env → Option Dt := fun r => (a r).bind fun d => (lo r).bind fun l => (hi r).bind fun h => sliceD d l h
theorem cutL_length {α : Type} (l : List α) (lo hi : Option Int) : (cutL l lo hi).length ≤ l.length := by
  unfold cutL
  rw [List.length_take, List.length_drop]
  omega
theorem RpA.cut {H : Hp} {vs : List V} {ds : List Dt} (h : RpA K T H vs ds) (lo hi : Option Int) : RpA K T H (cutV vs lo hi) (cutL ds lo hi) := by
  unfold cutV cutL
  rw [h.length]
  exact (h.drop _).take _
theorem rpA_ints {H : Hp} : ∀ (ns : List Int), RpA K T H (ns.map V.int) (ns.map Dt.int)
  | [] => .nil
  | n :: ns => .cons (.int n) (rpA_ints ns)
theorem cut_map {α β : Type} (f : α → β) (l : List α) (lo hi : Option Int) : cutL (l.map f) lo hi = (cutL l lo hi).map f := by
  unfold cutL
  rw [List.length_map, List.map_take, List.map_drop]
theorem de_slice {e : Expr} {lo hi : Option Expr} {fe : Env → Option Dt} {fl fh : Env → Option (Option Int)} {pos p2 : Pos} (he : DE X T e fe) (hl : DO X T lo fl) (hh : DO X T hi fh) : DE X T (.Subscript e (.Slice lo hi none p2) pos) (fSlice fe fl fh) := by
  obtain ⟨te, pe, ge⟩ := he.ex
  obtain ⟨tl, pl, gl⟩ := hl.ex
  obtain ⟨th, ph, gh⟩ := hh.ex
  refine ⟨_, pe_slice (sl_str.or sl_list) pe pl ph, fun G H σ r d F h Q q => ?_⟩
  unfold fSlice at h
  cases e1 : fe r with
  | none => rw [e1] at h; cases h
  | some x =>
    cases e2 : fl r with
    | none => rw [e1, e2] at h; cases h
    | some l =>
      cases e3 : fh r with
      | none => rw [e1, e2, e3] at h; cases h
      | some u =>
        rw [e1, e2, e3] at h
        replace h : sliceD x l u = some d := h
        refine ge G H σ r _ F e1 _ fun v G1 H1 n1 p1 => ?_
        refine gl G1 H1 σ r _ (F.nx n1) e2 _ fun G2 H2 n2 => ?_
        refine gh G2 H2 σ r _ (F.nx (n1.trans n2)) e3 _ fun G3 H3 n3 => ?_
        have p3 := Rp.mono (n2.gg.trans n3.gg) _ p1
        have n := (n1.trans n2).trans n3
        unfold sliceD at h
        split at h
        · obtain ⟨hc, rfl⟩ := ite_some h
          cases p3
          refine .inl ⟨_, rfl, by rw [str_len]; exact sz6 hc, ?_⟩
          refine q _ G3 H3 n ?_
          unfold cutS
          rw [str_len, List.toList_toArray]
          exact .str _
        · cases h
          cases p3 with
          | @lst _ xs _ a1 a2 =>
            refine .inr ⟨_, _, rfl, SqL.of (n3.gh _ _ a1), fun p hp => ?_⟩
            have n4 := Nx.new (o := .lst (cutV xs l u)) n3.gh hp
            exact q _ _ _ (n.trans n4) (.lst upd_same (RpA.mono n4.gg _ (a2.cut l u)))
        · rename_i ns
          cases h
          cases p3 with
          | scr a1 =>
            refine .inr ⟨_, _, rfl, n3.gh.seq a1, fun p hp => ?_⟩
            have n4 := Nx.new (o := .lst (cutV (ns.map V.int) l u)) n3.gh hp
            have r1 : RpA X.K T G3 (cutV (ns.map V.int) l u) (cutL (ns.map Dt.int) l u) := (rpA_ints ns).cut l u
            rw [cut_map] at r1
            exact q _ _ _ (n.trans n4) (.lst upd_same (RpA.mono n4.gg _ r1))
        · cases h
/-- a slice of a list: a new list -/
def fSliceO (a : Env → Option Dt) (lo hi : Env → Option (Option Int)) : Env → Option (List Dt) := fun r => match fSlice a lo hi r with
  | some (.lst l) => some l
  | _ => none
theorem dl_slice {e : Expr} {lo hi : Option Expr} {fe : Env → Option Dt} {fl fh : Env → Option (Option Int)} {pos p2 : Pos} (he : DE X T e fe) (hl : DO X T lo fl) (hh : DO X T hi fh) : DL X T (.Subscript e (.Slice lo hi none p2) pos) (fSliceO fe fl fh) := by
  obtain ⟨te, pe, ge⟩ := he.ex
  obtain ⟨tl, pl, gl⟩ := hl.ex
  obtain ⟨th, ph, gh⟩ := hh.ex
  refine ⟨_, pe_slice sl_list pe pl ph, fun G H σ r d F h Q q => ?_⟩
  unfold fSliceO fSlice at h
  cases e1 : fe r with
  | none => rw [e1] at h; cases h
  | some x =>
    cases e2 : fl r with
    | none => rw [e1, e2] at h; cases h
    | some l =>
      cases e3 : fh r with
      | none => rw [e1, e2, e3] at h; cases h
      | some u =>
        rw [e1, e2, e3] at h
        replace h : (match sliceD x l u with | some (.lst l) => some l | _ => none) = some d := h
        refine ge G H σ r _ F e1 _ fun v G1 H1 n1 p1 => ?_
        refine gl G1 H1 σ r _ (F.nx n1) e2 _ fun G2 H2 n2 => ?_
        refine gh G2 H2 σ r _ (F.nx (n1.trans n2)) e3 _ fun G3 H3 n3 => ?_
        have p3 := Rp.mono (n2.gg.trans n3.gg) _ p1
        have n := (n1.trans n2).trans n3
        cases x with
        | lst l' =>
          cases h
          cases p3 with
          | @lst _ xs _ a1 a2 =>
            refine ⟨_, _, rfl, SqL.of (n3.gh _ _ a1), fun p hp => ?_⟩
            have n4 := Nx.newH (o := .lst (cutV xs l u)) n3.gh hp
            exact q _ _ G3 _ (n.trans n4) (n.hh.free hp) (n3.gh.free hp) upd_same (a2.cut l u)
        | scr ns =>
          cases h
          cases p3 with
          | scr a1 =>
            refine ⟨_, _, rfl, n3.gh.seq a1, fun p hp => ?_⟩
            have n4 := Nx.newH (o := .lst (cutV (ns.map V.int) l u)) n3.gh hp
            have r1 : RpA X.K T G3 (cutV (ns.map V.int) l u) (cutL (ns.map Dt.int) l u) := (rpA_ints ns).cut l u
            rw [cut_map] at r1
            exact q _ _ G3 _ (n.trans n4) (n.hh.free hp) (n3.gh.free hp) upd_same r1
        | str z =>
          unfold sliceD at h
          dsimp only at h
          split at h
          · rename_i e4
            have := (ite_some e4).2
            cases this
          · cases h
        | _ => cases h

/-! ### calls of built-ins -/
structure CalD (X : Cx) (T : CT) (u : Value) (f : List Dt → Option Dt) : Prop where
  ex : ∃ rr, CallR X u rr ∧ CaD X.K T rr f
def fCall (f : List Dt → Option Dt) (a : Env → Option (List Dt)) : Env → Option Dt := fun r => (a r).bind f
theorem ge_call {rr : List V → Hp → VK → Prop} {f : List Dt → Option Dt} {ta : TA} {a : Env → Option (List Dt)} (hr : CaD K T rr f) (ha : GA K T ta a) : GE K T (tCB rr ta) (fCall f a) := fun G H σ r d F h Q q => by
  unfold fCall at h
  cases e1 : a r with
  | none => rw [e1] at h; cases h
  | some ds =>
    rw [e1] at h
    refine ha G H σ r ds F e1 _ fun vs G1 H1 n1 p1 => ?_
    exact hr G1 H1 vs ds d n1.gh p1 h Q fun z G3 H3 n3 p3 => q z G3 H3 (n1.trans n3) p3
theorem de_callB {x : Str} {id : String} {f : List Dt → Option Dt} {fa : Env → Option (List Dt)} {p pos : Pos} {e : Expr} {es : List Expr} (hc : CalD X T (.builtin id) f) (hm : X.mg x = none) (ha : DA X T (e :: es) fa) (hv : bootBuiltins x = some (.builtin id) := by decide +kernel) (hg : Gl X x := by rfl)
    (hn : x ≠ "__name__" := by decide +kernel) (hdb : (x == ("__debug__" : Str)) = false := by decide +kernel) (he : starEach (e :: es) X.env = (false, eval e X.env) :: starEach es X.env := by rfl) (hpl : (backTo pos (starEach es X.env)).any (·.1) = false := by rfl) :
    DE X T (.Call (.Name x p) (e :: es) [] pos) (fCall f fa) := by
  obtain ⟨rr, h1, h2⟩ := hc.ex
  obtain ⟨ta, pa, ga⟩ := ha.ex
  exact ⟨_, pe_callB h1 hg hm hv pa hn hdb he hpl, ge_call h2 ga⟩
theorem de_callTy {x : Str} {id : String} {f : List Dt → Option Dt} {fa : Env → Option (List Dt)} {p pos : Pos} {e : Expr} {es : List Expr} (hc : CalD X T (.type id) f) (hm : X.mg x = none) (ha : DA X T (e :: es) fa) (hv : bootBuiltins x = some (.type id) := by decide +kernel) (hg : Gl X x := by rfl)
    (hn : x ≠ "__name__" := by decide +kernel) (hdb : (x == ("__debug__" : Str)) = false := by decide +kernel) (he : starEach (e :: es) X.env = (false, eval e X.env) :: starEach es X.env := by rfl) (hpl : (backTo pos (starEach es X.env)).any (·.1) = false := by rfl) :
    DE X T (.Call (.Name x p) (e :: es) [] pos) (fCall f fa) := by
  obtain ⟨rr, h1, h2⟩ := hc.ex
  obtain ⟨ta, pa, ga⟩ := ha.ex
  exact ⟨_, pe_callTy h1 hg hm hv pa hn hdb he hpl, ge_call h2 ga⟩
/-- a built-in class as a value -/
theorem de_ty {x : Str} {n : String} {pos : Pos} (hm : X.mg x = none) (hv : bootBuiltins x = some (.type n) := by decide +kernel) (hg : Gl X x := by rfl) (hn : x ≠ "__name__" := by decide +kernel) (hdb : (x == ("__debug__" : Str)) = false := by decide +kernel) : DE X T (.Name x pos) (fC (.ty n)) :=
  ⟨_, pe_bltn (v := .ty n) hg hm hv rfl hn hdb, ge_c fun _ => .ty n⟩
/-- an own class as a value -/
theorem de_cls {x : Str} {k : Nat} {pos : Pos} (hm : X.mg x = some (.ref (T k).1)) (hg : Gl X x := by rfl) (hdb : (x == ("__debug__" : Str)) = false := by decide +kernel) : DE X T (.Name x pos) (fC (.cls k)) :=
  ⟨_, pe_glob (v := .ref (T k).1) hg hm rfl hdb, ge_c fun _ => .cls k⟩
def lenD (ds : List Dt) : Option Dt := match ds with
  | [.lst l] => some (.int l.length)
  | [.tup l] => some (.int l.length)
  | [.scr l] => some (.int l.length)
  | [.str l] => if l.length ≤ 1000000 then some (.int l.length) else none
  | _ => none
theorem cal_len : CalD X T (.builtin "len") lenD := by
  refine ⟨_, call_len_seq.or call_len_str, fun G H xs ds z gh p hz Q k => ?_⟩
  unfold lenD at hz
  split at hz
  · cases hz
    cases p with
    | cons p1 p2 =>
      cases p2
      cases p1 with
      | lst a1 a2 =>
        refine .inl ⟨_, _, rfl, .inl (SqL.of (gh _ _ a1)), ?_⟩
        rw [a2.length]
        exact k _ G H (Nx.refl gh) (.int _)
  · cases hz
    cases p with
    | cons p1 p2 =>
      cases p2
      cases p1 with
      | tup a1 a2 =>
        refine .inl ⟨_, _, rfl, .inr (SqT.mono gh a1), ?_⟩
        rw [a2.length]
        exact k _ G H (Nx.refl gh) (.int _)
  · cases hz
    cases p with
    | cons p1 p2 =>
      cases p2
      cases p1 with
      | scr a1 =>
        refine .inl ⟨_, _, rfl, .inl (gh.seq a1), ?_⟩
        rw [List.length_map]
        exact k _ G H (Nx.refl gh) (.int _)
  · obtain ⟨hc, rfl⟩ := ite_some hz
    cases p with
    | cons p1 p2 =>
      cases p2
      cases p1
      refine .inr ⟨_, rfl, by rw [str_len]; exact sz6 hc, ?_⟩
      rw [str_len]
      exact k _ G H (Nx.refl gh) (.int _)
  · cases hz
def maxD (ds : List Dt) : Option Dt := match ds with
  | [.int i, .int j] => some (.int (if j > i then j else i))
  | _ => none
def minD (ds : List Dt) : Option Dt := match ds with
  | [.int i, .int j] => some (.int (if j < i then j else i))
  | _ => none
theorem cal_max (hc : X.calm = true) : CalD X T (.builtin "max") maxD := by
  refine ⟨_, call_max2 hc, fun G H xs ds z gh p hz Q k => ?_⟩
  unfold maxD at hz
  split at hz
  · cases hz
    cases p with
    | cons p1 p2 =>
      cases p2 with
      | cons p2 p3 =>
        cases p3
        cases p1
        cases p2
        exact ⟨_, _, rfl, k _ G H (Nx.refl gh) (.int _)⟩
  · cases hz
theorem cal_min (hc : X.calm = true) : CalD X T (.builtin "min") minD := by
  refine ⟨_, call_min2 hc, fun G H xs ds z gh p hz Q k => ?_⟩
  unfold minD at hz
  split at hz
  · cases hz
    cases p with
    | cons p1 p2 =>
      cases p2 with
      | cons p2 p3 =>
        cases p3
        cases p1
        cases p2
        exact ⟨_, _, rfl, k _ G H (Nx.refl gh) (.int _)⟩
  · cases hz
def absD (ds : List Dt) : Option Dt := match ds with
  | [.int i] => some (.int (if i < 0 then -i else i))
  | _ => none
theorem cal_abs : CalD X T (.builtin "abs") absD := by
  refine ⟨_, call_abs, fun G H xs ds z gh p hz Q k => ?_⟩
  unfold absD at hz
  split at hz
  · cases hz
    cases p with
    | cons p1 p2 => cases p2; cases p1; exact ⟨_, rfl, k _ G H (Nx.refl gh) (.int _)⟩
  · cases hz
def int1D (ds : List Dt) : Option Dt := match ds with
  | [.int i] => some (.int i)
  | [.bl b] => some (.int (if b then 1 else 0))
  | _ => none
theorem cal_int : CalD X T (.type "int") int1D := by
  refine ⟨_, call_int1, fun G H xs ds z gh p hz Q k => ?_⟩
  unfold int1D at hz
  split at hz
  · cases hz
    cases p with
    | cons p1 p2 => cases p2; cases p1; exact .inl ⟨_, rfl, k _ G H (Nx.refl gh) (.int _)⟩
  · cases hz
    cases p with
    | cons p1 p2 => cases p2; cases p1; exact .inr ⟨_, rfl, k _ G H (Nx.refl gh) (.int _)⟩
  · cases hz
/-- all truths -/
def boolsOf : List Dt → Option (List Bool)
  | [] => some []
  | .bl b :: l => (boolsOf l).map fun bs => b :: bs
  | _ => none
theorem bools_rp {H : Hp} : ∀ {vs : List V} {ds : List Dt} {bs : List Bool}, RpA K T H vs ds → boolsOf ds = some bs → vs = bs.map V.bl
  | _, _, bs, .nil, h => by cases h; rfl
  | _, d :: ds, bs, .cons r t, h => by
    cases d with
    | bl b =>
      unfold boolsOf at h
      cases e : boolsOf ds with
      | none => rw [e] at h; cases h
      | some cs =>
        rw [e] at h
        cases h
        cases r
        rw [List.map_cons, bools_rp t e]
    | _ => cases h
def allD (ds : List Dt) : Option Dt := match ds with
  | [.lst l] => (boolsOf l).map fun bs => .bl (bs.all id)
  | _ => none
theorem cal_all (hc : X.calm = true) : CalD X T (.builtin "all") allD := by
  refine ⟨_, cr_all hc, fun G H xs ds z gh p hz Q k => ?_⟩
  unfold allD at hz
  split at hz
  · rename_i l
    cases e : boolsOf l with
    | none => rw [e] at hz; cases hz
    | some bs =>
      rw [e] at hz
      cases hz
      cases p with
      | cons p1 p2 =>
        cases p2
        cases p1 with
        | lst a1 a2 =>
          have := bools_rp a2 e
          subst this
          exact ⟨_, bs, rfl, SqL.of (gh _ _ a1), k _ G H (Nx.refl gh) (.bl _)⟩
  · cases hz
/-- list(xs): a new list -/
def fListO (a : Env → Option Dt) : Env → Option (List Dt) := fun r => match a r with
  | some (.lst l) => some l
  | some (.tup l) => some l
  | _ => none
theorem dl_list {x : Str} {fa : Env → Option Dt} {p pos : Pos} {e : Expr} (hm : X.mg x = none) (ha : DE X T e fa) (hv : bootBuiltins x = some (.type "list") := by decide +kernel) (hg : Gl X x := by rfl)
    (hn : x ≠ "__name__" := by decide +kernel) (hdb : (x == ("__debug__" : Str)) = false := by decide +kernel) (hs : starEach (e :: []) X.env = (false, eval e X.env) :: starEach [] X.env := by rfl) (hpl : (backTo pos (starEach [] X.env)).any (·.1) = false := by rfl) :
    DL X T (.Call (.Name x p) [e] [] pos) (fListO fa) := by
  obtain ⟨ta, pa, ga⟩ := ha.ex
  refine ⟨_, pe_callTy call_list_of hg hm hv (pa_cons pa pa_nil hs) hn hdb hs hpl, fun G H σ r d F h Q q => ?_⟩
  unfold fListO at h
  split at h
  · rename_i l e1
    cases h
    refine ga G H σ r _ F e1 _ fun v G1 H1 n1 p1 => ?_
    cases p1 with
    | @lst _ xs _ a1 a2 =>
      refine ⟨_, _, rfl, .inl (SqL.of (n1.gh _ _ a1)), fun p hp => ?_⟩
      have n2 := Nx.newH (o := .lst xs) n1.gh hp
      exact q p _ G1 _ (n1.trans n2) (n1.hh.free hp) (n1.gh.free hp) upd_same a2
  · rename_i l e1
    cases h
    refine ga G H σ r _ F e1 _ fun v G1 H1 n1 p1 => ?_
    cases p1 with
    | @tup _ xs _ a1 a2 =>
      refine ⟨_, _, rfl, .inr (SqT.mono n1.gh a1), fun p hp => ?_⟩
      have n2 := Nx.newH (o := .lst xs) n1.gh hp
      exact q p _ G1 _ (n1.trans n2) (n1.hh.free hp) (n1.gh.free hp) upd_same a2
  · cases h

/-! ### isinstance -/
def tyN : Dt → Option String
  | .non => some "NoneType"
  | .bl _ => some "bool"
  | .int _ => some "int"
  | .str _ => some "str"
  | .lst _ => some "list"
  | .tup _ => some "tuple"
  | _ => none
theorem tyX_of {H : Hp} {v : V} {d : Dt} {n : String} (h : tyN d = some n) (r : Rp K T H v d) : TyX K H v (.type n) := by
  cases r with
  | non => cases h; exact .base .non
  | bl b => cases h; exact .base (.bl b)
  | int i => cases h; exact .base (.int i)
  | str l => cases h; exact .base (.str _)
  | lst h1 h2 => cases h; exact .base (.lst h1)
  | tup h1 h2 =>
    cases h
    rcases h1 with (h1 | ⟨o, h1⟩) | ⟨o, its, n, h1, h2, _⟩
    · exact .base (.tup h1)
    · exact .fTuple h1
    · exact .kTuple h1 h2
  | scr _ => cases h
  | obj _ _ _ => cases h
  | dic _ _ _ => cases h
  | adr _ => cases h
  | ty _ => cases h
  | cls _ => cases h
/-- the classes' own order: sub c k tells isinstance of an object of class c and class k; what K says of them -/
structure ClsOk (K : PySem.W.Frag) (T : CT) (sub : Nat → Nat → Option Bool) : Prop where
  kit : ∀ c k b, sub c k = some b → PySem.W.kitOne K (.ref (T c).1) (.ref (T k).1) = some b ∧ Cls K (T c).1 ∧ PySem.W.findIn K (.ref (T c).1) "__class__" = some (some (.builtin "object.__class__")) ∧ PySem.W.mroIn K (T c).1 (.type "object") = some true
  get : PySem.W.specialIn K (.builtin "object.__class__") "__get__" = some (some (.builtin "getset_descriptor.__get__"))
  tak : PySem.W.takesIn K (.builtin "object.__class__") = some true
def isiD (sub : Nat → Nat → Option Bool) (ds : List Dt) : Option Dt := match ds with
  | [d, .ty n] => (tyN d).bind fun t => (kitB t n).map Dt.bl
  | [.obj c _, .cls k] => (sub c k).map Dt.bl
  | _ => none
theorem cal_isi {sub : Nat → Nat → Option Bool} (C : ClsOk X.K T sub) : CalD X T (.builtin "isinstance") (isiD sub) := by
  refine ⟨_, call_isi, fun G H xs ds z gh p hz Q k => ?_⟩
  unfold isiD at hz
  split at hz
  · rename_i d n
    cases e1 : tyN d with
    | none => rw [e1] at hz; cases hz
    | some t =>
      rw [e1] at hz
      replace hz : (kitB t n).map Dt.bl = some z := hz
      cases e2 : kitB t n with
      | none => rw [e2] at hz; cases hz
      | some b =>
        rw [e2] at hz
        cases hz
        cases p with
        | cons p1 p2 =>
          cases p2 with
          | cons p2 p3 =>
            cases p3
            cases p2
            exact ⟨_, _, _, _, b, rfl, .ty n, tyX_of e1 (Rp.mono gh d p1), kit_ty e2, k _ G H (Nx.refl gh) (.bl b)⟩
  · rename_i c l k'
    cases e2 : sub c k' with
    | none => rw [e2] at hz; cases hz
    | some b =>
      rw [e2] at hz
      cases hz
      cases p with
      | cons p1 p2 =>
        cases p2 with
        | cons p2 p3 =>
          cases p3
          cases p2
          cases p1 with
          | obj a1 a2 a3 =>
            obtain ⟨k1, k2, k3, k4⟩ := C.kit c k' b e2
            exact ⟨_, _, _, _, b, rfl, .own _, .base (.ins (gh _ _ a1) k2 k3 C.get C.tak k4), k1, k _ G H (Nx.refl gh) (.bl b)⟩
  · cases hz

/-! ### attributes of own objects -/
def fldD (c i : Nat) (d : Dt) : Option Dt := match d with
  | .obj c' l => if c' = c then l[i]? else none
  | _ => none
theorem lookup_zip {fs : List (Str × V)} : ∀ {i : Nat} {f : Str} {v : V}, (fs.map Prod.fst).Nodup → (fs.map Prod.fst)[i]? = some f → (fs.map Prod.snd)[i]? = some v → fs.lookup f = some v := by
  induction fs with
  | nil => intro i f v _ h _; simp at h
  | cons p fs ih =>
    intro i f v nd h1 h2
    obtain ⟨a, b⟩ := p
    cases i with
    | zero =>
      have e1 : a = f := by simpa using h1
      have e2 : b = v := by simpa using h2
      subst e1 e2
      simp [List.lookup]
    | succ i =>
      have nd' := List.nodup_cons.mp nd
      have h1' : (fs.map Prod.fst)[i]? = some f := by simpa using h1
      have h2' : (fs.map Prod.snd)[i]? = some v := by simpa using h2
      have ne : (f == a) = false := by
        rw [beq_eq_false_iff_ne]
        intro e
        subst e
        exact nd'.1 (List.mem_of_getElem? h1')
      show (match f == a with | true => some b | false => fs.lookup f) = some v
      rw [ne]
      exact ih nd'.2 h1' h2'
theorem de_fld {e : Expr} {f : Str} {fe : Env → Option Dt} {pos : Pos} (c i : Nat) (cl : Cls X.K (T c).1) (hn : NoAttr X.K (T c).1 f) (nd : (T c).2.Nodup) (hf : (T c).2[i]? = some f) (he : DE X T e fe) (hb : attributeBase e f X.env (eval e X.env) = eval e X.env := by rfl) :
    DE X T (.Attribute e f pos) (fUn (fldD c i) fe) := by
  obtain ⟨te, pe, ge⟩ := he.ex
  refine ⟨_, pe_fld pe hb, fun G H σ r d F h Q q => ?_⟩
  unfold fUn at h
  cases e1 : fe r with
  | none => rw [e1] at h; cases h
  | some x =>
    rw [e1] at h
    replace h : fldD c i x = some d := h
    unfold fldD at h
    split at h
    · rename_i c' l
      split at h
      · rename_i hc
        subst hc
        refine ge G H σ r _ F e1 _ fun v G1 H1 n1 p1 => ?_
        cases p1 with
        | @obj _ a dx fs _ a1 a2 a3 =>
          obtain ⟨w, hw, rw'⟩ := a3.get h
          refine ⟨a, _, dx, fs, w, rfl, n1.gh _ _ a1, cl, hn, lookup_zip (by rw [a2]; exact nd) (by rw [a2]; exact hf) hw, q w G1 H1 n1 rw'⟩
      · cases h
    · cases h

/-! ### methods of texts -/
def strsOf : List Dt → Option (List (List Nat))
  | [] => some []
  | .str b :: l => (strsOf l).map fun bs => b :: bs
  | _ => none
theorem strs_rp {H : Hp} : ∀ {vs : List V} {ds : List Dt} {bs : List (List Nat)}, RpA K T H vs ds → strsOf ds = some bs → vs = (bs.map fun l => (⟨l.toArray⟩ : Str)).map V.str
  | _, _, bs, .nil, h => by cases h; rfl
  | _, d :: ds, bs, .cons r t, h => by
    cases d with
    | str b =>
      unfold strsOf at h
      cases e : strsOf ds with
      | none => rw [e] at h; cases h
      | some cs =>
        rw [e] at h
        cases h
        cases r
        rw [List.map_cons, List.map_cons, strs_rp t e]
    | _ => cases h
def joinL (sep : List Nat) : List (List Nat) → List Nat
  | [] => []
  | [x] => x
  | x :: rest => x ++ sep ++ joinL sep rest
theorem join_str (sep : List Nat) : ∀ bs : List (List Nat), Str.join ⟨sep.toArray⟩ (bs.map fun l => (⟨l.toArray⟩ : Str)) = ⟨(joinL sep bs).toArray⟩
  | [] => rfl
  | [x] => rfl
  | x :: y :: rest => by
    show (⟨x.toArray⟩ : Str) ++ ⟨sep.toArray⟩ ++ Str.join ⟨sep.toArray⟩ ((y :: rest).map fun l => (⟨l.toArray⟩ : Str)) = _
    rw [join_str sep (y :: rest), str_app, str_app]
    rfl
def joinD (d e : Dt) : Option Dt := match d, e with
  | .str sep, .lst l => (match strsOf l with
    | some bs => if (bs.map List.length).sum + bs.length * sep.length ≤ 1000000 then some (.str (joinL sep bs)) else none
    | none => none)
  | _, _ => none
theorem de_join {o e : Expr} {fo fe : Env → Option Dt} {apos pos : Pos} (ho : DE X T o fo) (he : DE X T e fe) (hs : starEach [e] X.env = [(false, eval e X.env)] := by rfl) (hbase : attributeBase o "join" X.env (eval o X.env) = eval o X.env := by rfl) (hline : (apos.endLine == pos.line) = true := by rfl) :
    DE X T (.Call (.Attribute o "join" apos) [e] [] pos) (fOp joinD fo fe) := by
  obtain ⟨to, po, go⟩ := ho.ex
  obtain ⟨te, pe, ge⟩ := he.ex
  refine ⟨_, pe_join po pe hs hbase hline, fun G H σ r d F h Q q => ?_⟩
  obtain ⟨x, y, e1, e2, hz⟩ := fOp_some h
  unfold joinD at hz
  split at hz
  · rename_i sep l
    split at hz
    · rename_i bs e3
      obtain ⟨hc, rfl⟩ := ite_some hz
      refine go G H σ r _ F e1 _ fun v G1 H1 n1 p1 => ?_
      cases p1
      refine ⟨⟨_, rfl⟩, ?_⟩
      refine ge G1 H1 σ r _ (F.nx n1) e2 _ fun w G2 H2 n2 p2 => ?_
      cases p2 with
      | lst a1 a2 =>
        have := strs_rp a2 e3
        subst this
        refine ⟨_, _, _, rfl, rfl, .inl (SqL.of (n2.gh _ _ a1)), ?_, ?_⟩
        · rw [List.map_map, List.length_map, str_len]
          have : ((fun x : Str => x.length) ∘ fun l : List Nat => (⟨l.toArray⟩ : Str)) = List.length := by
            funext l
            exact str_len l
          have e5 : (List.map (Str.length ∘ fun l : List Nat => (⟨l.toArray⟩ : Str)) bs) = bs.map List.length := by
            congr 1
          rw [show (List.map ((fun x : Str => x.length) ∘ fun l : List Nat => (⟨l.toArray⟩ : Str)) bs) = bs.map List.length by rw [this]]
          omega
        · rw [TL.join_eq, join_str]
          exact q _ G2 H2 (n1.trans n2) (.str _)
    · cases hz
  · cases hz
end
end PL

/-! What a loop walks; comprehensions. -/
namespace PL
open PySem PySem.Spec PyProof.Rows L2

/-! ### enumerate(text): a turn of the hand layer's -/
def ItS (z : Str) : It :=
  ⟨fun i _ => i < z.cps.size, fun i H v H' => ∃ A c, v = .ref A ∧ H A = none ∧ z.cps[i]? = some c ∧ H' = upd H A (.tup [.int (i : Nat), .str ⟨#[c]⟩]), fun i _ => i = z.cps.size⟩
theorem turn_enumS {P : Program} {w : World} {K : PySem.W.Frag} {elts : List Expr} {kk : Nat} {tpos : Pos} (z : Str) (t : Tok) (e it : Addr) :
    Turn P w K (.Tuple elts kk tpos) (ItS z) [e, it] e (fun i h => (∃ old, IsEnum h e it ((i : Nat) : Int) old) ∧ h.IsStrIter it (strIterType z) z t i ∧ e ≠ it) where
  mem := by simp
  obj := fun i h st b hb => by
    obtain ⟨⟨old, he⟩, ⟨o, ho, hc, hd⟩, _⟩ := st
    have e' : b = e ∨ b = it := by simpa using hb
    rcases e' with z | z
    · rw [z]; exact ⟨_, he, fun v q => nomatch q⟩
    · rw [z]; exact ⟨o, ho, fun v q => by rw [hd] at q; cases q⟩
  keep := fun i h h' st k => let ⟨⟨old, he⟩, ⟨o, ho, hr⟩, hne⟩ := st; ⟨⟨old, k e (by simp) _ he⟩, ⟨o, k it (by simp) o ho, hr⟩, hne⟩
  item := by
    intro X hP hw hK hc i pins s σ H E I hf st hg
    subst hP hw hK
    obtain ⟨⟨old, he⟩, hit, hne⟩ := st
    have D := Draws.text (prog := X.prog) (w := X.w) (A := X.A.in1) (I.ok.hd hc) it z t
    have hel : e < s.heap.objs.size := Heap.lt_size he
    have hil : it < s.heap.objs.size := by obtain ⟨o, q, _⟩ := hit; exact Heap.lt_size q
    refine wpAny_pyNext_enum_itemD D he hit hg hne (by simpa using hne) fun x h' tk hP ho hit' hT hsz hk => ?_
    obtain ⟨c, u, hcx, rfl⟩ := hP
    refine ⟨_, rfl, wpAny_letOwnedTupleGo_enum (s := { s with heap := h', toks := tk + 1 }) ho fun h'' he' sb => ?_⟩
    have hT2 : h''.get? s.heap.objs.size = some { cls := .type "tuple", data := .seq #[.int i tk, .str ⟨#[c]⟩ u] } := (sb.2 _ (Nat.ne_of_gt hel)).trans hT
    have new : ObjOk X.prog X.w (upd H s.heap.objs.size (.tup [.int (i : Nat), .str ⟨#[c]⟩])) h'' s.heap.objs.size (.tup [.int (i : Nat), .str ⟨#[c]⟩]) :=
      ⟨by show 2 ≤ sizeLine; decide, [.int i tk, .str ⟨#[c]⟩ u], .cons ⟨_, rfl⟩ (.cons ⟨_, rfl⟩ .nil), ⟨_, hT2, rfl, _, rfl⟩⟩
    have I1 : Inv X pins σ (upd H s.heap.objs.size (.tup [.int (i : Nat), .str ⟨#[c]⟩])) { s with heap := h'', toks := tk + 1 } :=
      I.turnedNew (ch := [e, it]) (fun b ob hb q => (sb.2 b (fun z => hb (by simp [z]))).trans (hk b ob (fun z => hb (by simp [z])) (fun z => hb (by simp [z])) q)) hf (Nat.le_refl _) new
    refine ⟨.ref s.heap.objs.size, _, I1, rfl, ⟨_, c, rfl, I.hok.fresh (Nat.le_refl _), hcx, rfl⟩, ⟨⟨.str ⟨#[c]⟩ u, ?_⟩, ?_, hne⟩, fun b hb => ?_⟩
    · have e1 : ((i + 1 : Nat) : Int) = (i : Int) + 1 := by omega
      rw [e1]; exact he'
    · obtain ⟨o, q, r⟩ := hit'
      exact ⟨o, (sb.2 it (Ne.symm hne)).trans q, r⟩
    · have hb' : b < s.heap.objs.size := by
        have e' : b = e ∨ b = it := by simpa using hb
        rcases e' with z | z
        · rw [z]; exact hel
        · rw [z]; exact hil
      rw [upd_ne (Nat.ne_of_lt hb')]
      exact (hf b hb).1
  done := by
    intro X hP hw hK hc i pins s σ H E I hf st hg
    subst hP hw hK
    obtain ⟨⟨old, he⟩, hit, hne⟩ := st
    obtain ⟨f0, f1, f2, f3, f4, f5⟩ := hf it (by simp)
    have hi : i = z.cps.size := hg
    subst hi
    have D := Draws.text (prog := X.prog) (w := X.w) (A := X.A.in1) (I.ok.hd hc) it z t
    exact wpAny_pyNext_enum_endD D he hit fun h' eb => ⟨rfl, I.turned (t' := s.toks) (fun b o hb e => eb b o hb e) f0 f1 f3 f4 f5⟩
  self := fun A i s Q E st h => let ⟨⟨_, he⟩, _⟩ := st; wpAny_pyIter_enum he h

section
variable {X : Cx} {T : CT} {K : PySem.W.Frag}
def iEnS (ta : TA) : TI := fun σ H R => ta σ H fun vs H1 => ∃ z, vs = [.str z] ∧ R (ItS z) H1
theorem pi_enumS {e : Expr} {ta : TA} {p pos tpos : Pos} {elts : List Expr} {kk : Nat} (hg : Gl X "enumerate") (hm : X.mg "enumerate" = none) (ha : PA X [e] ta) (hs : starEach [e] X.env = [(false, eval e X.env)] := by rfl) :
    PI X (.Tuple elts kk tpos) (.Call (.Name "enumerate" p) [e] [] pos) (iEnS ta) := by
  refine ⟨fun pins s σ H R I h => ?_⟩
  refine Call_ (ld_blt I hg hm boot_enumerate (PyProof.Rows.callWith_type1 (thn (ha.run pos pins s σ H _ I h) fun us s1 ⟨vs, H1, I1, r1, q1⟩ => ?_) hs rfl))
  obtain ⟨z, ex, q⟩ := q1
  subst ex
  cases r1 with
  | cons r rr =>
    cases rr
    obtain ⟨t, rfl⟩ := r
    refine call_enumerate_str fun h' he hit hsz hk => wpAny_pyIter_enum he ?_
    have I2 : Inv X pins σ H1 { s1 with heap := h' } := I1.kept (t' := s1.toks) hk
    refine ⟨s1.heap.objs.size + 1, [s1.heap.objs.size + 1, s1.heap.objs.size], _, _, H1, rfl, I2, turn_enumS z t (s1.heap.objs.size + 1) s1.heap.objs.size, ⟨⟨.none, he⟩, hit, Nat.succ_ne_self _⟩, fun b hb => ?_, q⟩
    have e' : b = s1.heap.objs.size + 1 ∨ b = s1.heap.objs.size := by simpa using hb
    have hle : s1.heap.objs.size ≤ b := by
      rcases e' with z | z
      · rw [z]; exact Nat.le_add_right _ _
      · rw [z]; exact Nat.le_refl _
    exact I1.fpOk hle (I1.hok.fresh hle)

/-! ### what is walked, by data -/
structure ItOk (K : PySem.W.Frag) (T : CT) (J : It) (B : Hp) (items : List Dt) : Prop where
  goes : ∀ (i : Nat) (H : Hp), i < items.length → Same B H → J.go i H
  stops : ∀ (H : Hp), Same B H → J.stop items.length H
  yields : ∀ (i : Nat) (H : Hp) (x : V) (H' : Hp) (d : Dt), items[i]? = some d → Same B H → J.yld i H x H' → ∀ G, Same B G → Same G H → ∃ G', Nx G H G' H' ∧ Rp K T G' x d
def GI (K : PySem.W.Frag) (T : CT) (ti : TI) (f : Env → Option (List Dt)) : Prop :=
  ∀ (G H : Hp) (σ : L2.St) (r : Env) (items : List Dt), Fits K T G H σ r → f r = some items → ∀ R : It → Hp → Prop, (∀ J G' H', Nx G H G' H' → ItOk K T J G' items → R J H') → ti σ H R
structure DI (X : Cx) (T : CT) (tg e : Expr) (f : Env → Option (List Dt)) : Prop where
  ex : ∃ ti, PI X tg e ti ∧ GI X.K T ti f
theorem PI.or {tg e : Expr} {a b : TI} (h1 : PI X tg e a) (h2 : PI X tg e b) : PI X tg e (fun σ H R => a σ H R ∨ b σ H R) :=
  ⟨fun pins s σ H R I h => h.elim (h1.run pins s σ H R I) (h2.run pins s σ H R I)⟩
theorem itok_list {a : Addr} {xs : List V} {ds : List Dt} {B : Hp} (h : SqL K B a xs) (r : RpA K T B xs ds) : ItOk K T (Itl K a) B ds := by
  refine ⟨fun i H hi e => ⟨xs, xs[i]'(by rw [r.length]; exact hi), e.seq h, by simp⟩, fun H e => ⟨xs, e.seq h, by rw [r.length]; exact Nat.le_refl _⟩, fun i H x H' d hd e y G g1 g2 => ?_⟩
  obtain ⟨rfl, y⟩ := y
  obtain ⟨v, e1, q⟩ := r.get hd
  have e2 := y xs (e.seq h)
  rw [e1] at e2
  cases e2
  exact ⟨G, Nx.refl g2, Rp.mono g1 d q⟩
theorem itok_tup {a : Addr} {xs : List V} {ds : List Dt} {B : Hp} (h : SqT K B a xs) (r : RpA K T B xs ds) : ItOk K T (Itt K a) B ds := by
  refine ⟨fun i H hi e => ⟨xs, xs[i]'(by rw [r.length]; exact hi), SqT.mono e h, by simp⟩, fun H e => ⟨xs, SqT.mono e h, by rw [r.length]; exact Nat.le_refl _⟩, fun i H x H' d hd e y G g1 g2 => ?_⟩
  obtain ⟨rfl, y⟩ := y
  obtain ⟨v, e1, q⟩ := r.get hd
  have e2 := y xs (SqT.mono e h)
  rw [e1] at e2
  cases e2
  exact ⟨G, Nx.refl g2, Rp.mono g1 d q⟩
def signsOf (z : List Nat) : List Dt := z.map fun c => .str [c]
theorem itok_str {z : List Nat} {B : Hp} : ItOk K T (Its ⟨z.toArray⟩) B (signsOf z) := by
  have hl : (signsOf z).length = z.length := by unfold signsOf; rw [List.length_map]
  refine ⟨fun i H hi e => by show i < z.toArray.size; rw [List.size_toArray, ← hl]; exact hi, fun H e => by show z.toArray.size ≤ _; rw [List.size_toArray, hl]; exact Nat.le_refl _, fun i H x H' d hd e y G g1 g2 => ?_⟩
  obtain ⟨rfl, c, e1, rfl⟩ := y
  unfold signsOf at hd
  rw [List.getElem?_map] at hd
  have e2 : z[i]? = some c := by simpa using e1
  rw [e2] at hd
  cases hd
  exact ⟨G, Nx.refl g2, .str [c]⟩
def itemsD (d : Dt) : Option (List Dt) := match d with
  | .lst l => some l
  | .tup l => some l
  | .scr l => some (l.map Dt.int)
  | .str z => some (signsOf z)
  | _ => none
def fItems (f : Env → Option Dt) : Env → Option (List Dt) := fun r => (f r).bind itemsD
theorem di_seq {tg e : Expr} {f : Env → Option Dt} (h : DE X T e f) : DI X T tg e (fItems f) := by
  obtain ⟨te, pe, ge⟩ := h.ex
  refine ⟨_, PI.or (pi_list pe) (PI.or (pi_tup pe) (pi_str pe)), fun G H σ r items F e R q => ?_⟩
  unfold fItems at e
  cases e1 : f r with
  | none => rw [e1] at e; cases e
  | some d =>
    rw [e1] at e
    replace e : itemsD d = some items := e
    unfold itemsD at e
    split at e
    · cases e
      refine .inl (ge G H σ r _ F e1 _ fun v G1 H1 n1 p1 => ?_)
      cases p1 with
      | lst a1 a2 => exact ⟨_, rfl, ⟨_, SqL.of (n1.gh _ _ a1)⟩, q _ G1 H1 n1 (itok_list (SqL.of a1) a2)⟩
    · cases e
      refine .inr (.inl (ge G H σ r _ F e1 _ fun v G1 H1 n1 p1 => ?_))
      cases p1 with
      | tup a1 a2 => exact ⟨_, rfl, ⟨_, SqT.mono n1.gh a1⟩, q _ G1 H1 n1 (itok_tup a1 a2)⟩
    · cases e
      refine .inl (ge G H σ r _ F e1 _ fun v G1 H1 n1 p1 => ?_)
      cases p1 with
      | scr a1 => exact ⟨_, rfl, ⟨_, n1.gh.seq a1⟩, q _ G1 H1 n1 (itok_list a1 (rpA_ints _))⟩
    · cases e
      refine .inr (.inr (ge G H σ r _ F e1 _ fun v G1 H1 n1 p1 => ?_))
      cases p1
      exact ⟨_, rfl, q _ G1 H1 n1 itok_str⟩
    · cases e
/-- lo, lo + c, .. -/
def rangeL (lo c : Int) (n : Nat) : List Dt := (List.range n).map fun (k : Nat) => Dt.int (lo + (k : Int) * c)
theorem rangeL_length (lo c : Int) (n : Nat) : (rangeL lo c n).length = n := by unfold rangeL; rw [List.length_map, List.length_range]
theorem rangeL_get {lo c : Int} {n i : Nat} {d : Dt} (h : (rangeL lo c n)[i]? = some d) : d = .int (lo + (i : Int) * c) ∧ i < n := by
  unfold rangeL at h
  rw [List.getElem?_map] at h
  by_cases hi : i < n
  · rw [List.getElem?_range hi] at h
    cases h
    exact ⟨rfl, hi⟩
  · rw [List.getElem?_eq_none (by simpa using hi)] at h
    cases h
theorem itok_range {lo : Int} {n : Nat} {B : Hp} : ItOk K T (Itr lo n) B (rangeL lo 1 n) := by
  refine ⟨fun i H hi e => by rw [rangeL_length] at hi; exact hi, fun H e => by rw [rangeL_length]; exact Nat.le_refl _, fun i H x H' d hd e y G g1 g2 => ?_⟩
  obtain ⟨rfl, rfl⟩ := y
  obtain ⟨rfl, _⟩ := rangeL_get hd
  refine ⟨G, Nx.refl g2, ?_⟩
  rw [Int.mul_one]
  exact .int _
theorem itok_rangeC {lo c : Int} {n : Nat} {B : Hp} : ItOk K T (Itc lo c n) B (rangeL lo c n) := by
  refine ⟨fun i H hi e => by rw [rangeL_length] at hi; exact hi, fun H e => by rw [rangeL_length]; exact Nat.le_refl _, fun i H x H' d hd e y G g1 g2 => ?_⟩
  obtain ⟨rfl, rfl⟩ := y
  obtain ⟨rfl, _⟩ := rangeL_get hd
  exact ⟨G, Nx.refl g2, .int _⟩
def rng1 (ds : List Dt) : Option (List Dt) := match ds with
  | [.int j] => if -100000 ≤ j ∧ j ≤ 100000 then some (rangeL 0 1 j.toNat) else none
  | _ => none
def rng2 (ds : List Dt) : Option (List Dt) := match ds with
  | [.int i, .int j] => if -100000 ≤ i ∧ i ≤ 100000 ∧ -100000 ≤ j ∧ j ≤ 100000 then some (rangeL i 1 (j - i).toNat) else none
  | _ => none
def rng3 (ds : List Dt) : Option (List Dt) := match ds with
  | [.int i, .int j, .int c] => if -100000 ≤ i ∧ i ≤ 100000 ∧ -100000 ≤ j ∧ j ≤ 100000 ∧ 0 < c ∧ c ≤ 100000 then some (rangeL i c (if i < j then (j - i - 1) / c + 1 else 0).toNat) else none
  | _ => none
def fArgs (f : List Dt → Option (List Dt)) (a : Env → Option (List Dt)) : Env → Option (List Dt) := fun r => (a r).bind f
theorem di_range1 {tg a : Expr} {fa : Env → Option (List Dt)} {p pos : Pos} (hm : X.mg "range" = none) (ha : DA X T [a] fa) (hg : Gl X "range" := by rfl) (hs : starEach [a] X.env = [(false, eval a X.env)] := by rfl) : DI X T tg (.Call (.Name "range" p) [a] [] pos) (fArgs rng1 fa) := by
  obtain ⟨ta, pa, ga⟩ := ha.ex
  refine ⟨_, pi_range1 hg hm pa hs, fun G H σ r items F e R q => ?_⟩
  unfold fArgs at e
  cases e1 : fa r with
  | none => rw [e1] at e; cases e
  | some ds =>
    rw [e1] at e
    replace e : rng1 ds = some items := e
    unfold rng1 at e
    split at e
    · rename_i j
      obtain ⟨hc, e⟩ := ite_opt e
      cases e
      refine ga G H σ r _ F e1 _ fun vs G1 H1 n1 p1 => ?_
      cases p1 with
      | cons p1 p2 =>
        cases p2
        cases p1
        exact ⟨j, rfl, by omega, by omega, q _ G1 H1 n1 itok_range⟩
    · cases e
theorem di_range2 {tg a b : Expr} {fa : Env → Option (List Dt)} {p pos : Pos} (hm : X.mg "range" = none) (ha : DA X T [a, b] fa) (hg : Gl X "range" := by rfl) (hs : starEach [a, b] X.env = [(false, eval a X.env), (false, eval b X.env)] := by rfl) (hs2 : starEach [b] X.env = [(false, eval b X.env)] := by rfl) :
    DI X T tg (.Call (.Name "range" p) [a, b] [] pos) (fArgs rng2 fa) := by
  obtain ⟨ta, pa, ga⟩ := ha.ex
  refine ⟨_, pi_range2 hg hm pa hs hs2, fun G H σ r items F e R q => ?_⟩
  unfold fArgs at e
  cases e1 : fa r with
  | none => rw [e1] at e; cases e
  | some ds =>
    rw [e1] at e
    replace e : rng2 ds = some items := e
    unfold rng2 at e
    split at e
    · rename_i i j
      obtain ⟨hc, e⟩ := ite_opt e
      cases e
      refine ga G H σ r _ F e1 _ fun vs G1 H1 n1 p1 => ?_
      cases p1 with
      | cons p1 p2 =>
        cases p2 with
        | cons p2 p3 =>
          cases p3
          cases p2
          cases p1
          exact ⟨i, j, rfl, by omega, q _ G1 H1 n1 itok_range⟩
    · cases e
theorem small_of {i j c : Int} (h1 : -100000 ≤ i) (h2 : i ≤ 100000) (h3 : -100000 ≤ j) (h4 : j ≤ 100000) (h5 : 0 < c) (h6 : c ≤ 100000) : RgC i j c (if i < j then (j - i - 1) / c + 1 else 0).toNat := by
  have hs : Builtin.Range.rangeSize i j c = if i < j then (j - i - 1) / c + 1 else 0 := by
    unfold Builtin.Range.rangeSize
    rw [if_pos (show c > 0 from h5)]
  have h0 : 0 ≤ (j - i - 1) / c ∨ ¬ i < j := by
    by_cases h : i < j
    · exact .inl (Int.ediv_nonneg (by omega) (by omega))
    · exact .inr h
  have h7 : i < j → (j - i - 1) / c ≤ j - i - 1 := fun h => Int.ediv_le_self _ (by omega)
  refine ⟨by omega, by omega, ?_, ?_⟩
  · unfold Builtin.Range.small
    rw [hs]
    simp only [Builtin.Range.rangeFitsLong, Bool.and_eq_true, Bool.or_eq_true, decide_eq_true_eq, beq_iff_eq, show c > 0 from h5, if_true]
    by_cases h : i < j
    · have := h7 h
      have h0' : 0 ≤ (j - i - 1) / c := by rcases h0 with q | q; exact q; exact absurd h q
      rw [if_pos h]
      omega
    · rw [if_neg h]
      omega
  · rw [hs]
    by_cases h : i < j
    · have h0' : 0 ≤ (j - i - 1) / c := by rcases h0 with q | q; exact q; exact absurd h q
      rw [if_pos h]
      omega
    · rw [if_neg h]
      rfl
theorem di_range3 {tg a b c : Expr} {fa : Env → Option (List Dt)} {p pos : Pos} (hm : X.mg "range" = none) (ha : DA X T [a, b, c] fa) (hg : Gl X "range" := by rfl) (hs : starEach [a, b, c] X.env = (false, eval a X.env) :: starEach [b, c] X.env := by rfl) (hpl : (backTo pos (starEach [b, c] X.env)).any (·.1) = false := by rfl) :
    DI X T tg (.Call (.Name "range" p) [a, b, c] [] pos) (fArgs rng3 fa) := by
  obtain ⟨ta, pa, ga⟩ := ha.ex
  refine ⟨_, pi_range3 hg hm pa hs hpl, fun G H σ r items F e R q => ?_⟩
  unfold fArgs at e
  cases e1 : fa r with
  | none => rw [e1] at e; cases e
  | some ds =>
    rw [e1] at e
    replace e : rng3 ds = some items := e
    unfold rng3 at e
    split at e
    · rename_i i j c'
      obtain ⟨hc, e⟩ := ite_opt e
      cases e
      refine ga G H σ r _ F e1 _ fun vs G1 H1 n1 p1 => ?_
      cases p1 with
      | cons p1 p2 =>
        cases p2 with
        | cons p2 p3 =>
          cases p3 with
          | cons p3 p4 =>
            cases p4
            cases p3
            cases p2
            cases p1
            exact ⟨i, j, c', _, rfl, small_of hc.1 hc.2.1 hc.2.2.1 hc.2.2.2.1 hc.2.2.2.2.1 hc.2.2.2.2.2, q _ G1 H1 n1 itok_rangeC⟩
    · cases e
/-- enumerate -/
def enumL : Nat → List Dt → List Dt
  | _, [] => []
  | n, d :: l => .tup [.int n, d] :: enumL (n + 1) l
theorem enumL_length : ∀ (n : Nat) (l : List Dt), (enumL n l).length = l.length
  | _, [] => rfl
  | n, _ :: l => by unfold enumL; rw [List.length_cons, List.length_cons, enumL_length (n + 1) l]
theorem enumL_get : ∀ (n : Nat) (l : List Dt) (i : Nat), (enumL n l)[i]? = (l[i]?).map fun d => Dt.tup [.int ((n + i : Nat) : Int), d]
  | _, [], i => by unfold enumL; simp
  | n, d :: l, 0 => by unfold enumL; simp
  | n, d :: l, i + 1 => by
    unfold enumL
    rw [List.getElem?_cons_succ, List.getElem?_cons_succ, enumL_get (n + 1) l i]
    rw [show n + 1 + i = n + (i + 1) by omega]
def enumD (ds : List Dt) : Option (List Dt) := match ds with
  | [.lst l] => some (enumL 0 l)
  | [.str z] => some (enumL 0 (signsOf z))
  | _ => none
theorem itok_enum {a : Addr} {xs : List V} {ds : List Dt} {B : Hp} (h : SqL K B a xs) (r : RpA K T B xs ds) : ItOk K T (Ite K a) B (enumL 0 ds) := by
  refine ⟨fun i H hi e => ⟨xs, xs[i]'(by rw [r.length]; rw [enumL_length] at hi; exact hi), e.seq h, by simp⟩, fun H e => ⟨xs, e.seq h, by rw [r.length, enumL_length]; exact Nat.le_refl _⟩, fun i H x H' d hd e y G g1 g2 => ?_⟩
  obtain ⟨A, v, rfl, hA, rfl, y⟩ := y
  rw [enumL_get] at hd
  cases e1 : ds[i]? with
  | none => rw [e1] at hd; cases hd
  | some d0 =>
    rw [e1] at hd
    cases hd
    obtain ⟨v', e2, q⟩ := r.get e1
    have e3 := y xs (e.seq h)
    rw [e2] at e3
    cases e3
    have n := Nx.new (o := .tup [.int (i : Nat), v]) g2 hA
    refine ⟨_, n, .tup (SqT.of upd_same) (.cons ?_ (.cons (Rp.mono (g1.trans n.gg) _ q) .nil)) (fun _ _ _ => upd_same)⟩
    rw [Nat.zero_add]
    exact .int _
theorem itok_enumS {z : List Nat} {B : Hp} : ItOk K T (ItS ⟨z.toArray⟩) B (enumL 0 (signsOf z)) := by
  have hl : (enumL 0 (signsOf z)).length = z.length := by rw [enumL_length]; unfold signsOf; rw [List.length_map]
  refine ⟨fun i H hi e => by show i < z.toArray.size; rw [List.size_toArray, ← hl]; exact hi, fun H e => by show _ = z.toArray.size; rw [List.size_toArray, hl], fun i H x H' d hd e y G g1 g2 => ?_⟩
  obtain ⟨A, c, rfl, hA, hc, rfl⟩ := y
  rw [enumL_get] at hd
  unfold signsOf at hd
  rw [List.getElem?_map] at hd
  have e2 : z[i]? = some c := by simpa using hc
  rw [e2] at hd
  cases hd
  have n := Nx.new (o := .tup [.int (i : Nat), .str ⟨#[c]⟩]) g2 hA
  refine ⟨_, n, .tup (SqT.of upd_same) (.cons ?_ (.cons (.str [c]) .nil)) (fun _ _ _ => upd_same)⟩
  rw [Nat.zero_add]
  exact .int _
theorem di_enum {e : Expr} {f : Env → Option (List Dt)} {p pos tpos : Pos} {elts : List Expr} {kk : Nat} (hm : X.mg "enumerate" = none) (ha : DA X T [e] f) (hg : Gl X "enumerate" := by rfl) (hs : starEach [e] X.env = [(false, eval e X.env)] := by rfl) :
    DI X T (.Tuple elts kk tpos) (.Call (.Name "enumerate" p) [e] [] pos) (fArgs enumD f) := by
  obtain ⟨ta, pa, ga⟩ := ha.ex
  refine ⟨_, PI.or (pi_enum hg hm pa hs) (pi_enumS hg hm pa hs), fun G H σ r items F e R q => ?_⟩
  unfold fArgs at e
  cases e1 : f r with
  | none => rw [e1] at e; cases e
  | some ds =>
    rw [e1] at e
    replace e : enumD ds = some items := e
    unfold enumD at e
    split at e
    · cases e
      refine .inl (ga G H σ r _ F e1 _ fun vs G1 H1 n1 p1 => ?_)
      cases p1 with
      | cons p1 p2 =>
        cases p2
        cases p1 with
        | lst a1 a2 => exact ⟨_, _, rfl, SqL.of (n1.gh _ _ a1), q _ G1 H1 n1 (itok_enum (SqL.of a1) a2)⟩
    · cases e
      refine .inr (ga G H σ r _ F e1 _ fun vs G1 H1 n1 p1 => ?_)
      cases p1 with
      | cons p1 p2 =>
        cases p2
        cases p1
        exact ⟨_, rfl, q _ G1 H1 n1 itok_enumS⟩
    · cases e

/-! ### comprehensions -/
def wipeE (r : Env) : List Nat → Env
  | [] => r
  | v :: vs => (wipeE r vs).set v .no
def compL (j : Nat) (c : Env → Option Bool) (e : Env → Option Dt) : List Dt → Env → Option (List Dt)
  | [], _ => some []
  | x :: xs, r => match c (r.set j (.val x)) with
    | some true => (match e (r.set j (.val x)) with
      | some d => (match compL j c e xs r with
        | some ds => some (d :: ds)
        | none => none)
      | none => none)
    | some false => compL j c e xs r
    | none => none
def fComp (f : Env → Option (List Dt)) (j : Nat) (vs : List Nat) (c : Env → Option Bool) (e : Env → Option Dt) : Env → Option (List Dt) := fun r => match f r with
  | some items => if items.length ≤ 100000 then compL j c e items (wipeE r vs) else none
  | none => none
theorem Fits.setNo {G H : Hp} {σ : L2.St} {r : Env} {i : Nat} (F : Fits K T G H σ r) : Fits K T G H (σ.set i none) (r.set i .no) := by
  have at_i : ∀ (j : Nat) (s : Sl), s ≠ .no → (r.set i .no)[j]? = some s → j ≠ i ∧ r[j]? = some s := fun j s hs h => by
    by_cases hj : j = i
    · subst hj
      by_cases hl : j < r.length
      · rw [List.getElem?_set_self hl] at h
        cases h
        exact absurd rfl hs
      · rw [List.getElem?_eq_none (by simpa using hl)] at h; cases h
    · rw [List.getElem?_set_ne (Ne.symm hj)] at h
      exact ⟨hj, h⟩
  refine ⟨F.gh, by rw [List.length_set, List.length_set]; exact F.len, fun j d h => ?_, fun j ds h => ?_, fun j k ds es p h1 h2 h3 h4 => ?_, F.tr.set (fun t h => by cases h) (fun l h => by cases h)⟩
  · obtain ⟨hj, h⟩ := at_i j _ (fun z => by cases z) h
    rw [List.getElem?_set_ne (Ne.symm hj)]
    exact F.val j d h
  · obtain ⟨hj, h⟩ := at_i j _ (fun z => by cases z) h
    rw [List.getElem?_set_ne (Ne.symm hj)]
    exact F.own j ds h
  · obtain ⟨hj, h1⟩ := at_i j _ (fun z => by cases z) h1
    obtain ⟨hk, h2⟩ := at_i k _ (fun z => by cases z) h2
    rw [List.getElem?_set_ne (Ne.symm hj)] at h3
    rw [List.getElem?_set_ne (Ne.symm hk)] at h4
    exact F.sep j k ds es p h1 h2 h3 h4
theorem Fits.wipe {G H : Hp} {σ : L2.St} {r : Env} (F : Fits K T G H σ r) : ∀ vs : List Nat, Fits K T G H (wipe σ vs) (wipeE r vs)
  | [] => F
  | v :: vs => (F.wipe vs).setNo
theorem wipe_in {σ : L2.St} {i : Nat} : ∀ {vs : List Nat}, i ∈ vs → i < σ.length → (wipe σ vs)[i]? = some none
  | v :: vs, h, hl => by
    show ((wipe σ vs).set v none)[i]? = some none
    by_cases e : v = i
    · subst e
      rw [List.getElem?_set_self (by rw [wipe_length]; exact hl)]
    · rw [List.getElem?_set_ne e]
      exact wipe_in ((List.mem_cons.mp h).resolve_left (Ne.symm e)) hl
theorem wipe_set {σ : L2.St} {j : Nat} {x : Option V} {vs : List Nat} (h : j ∈ vs) : wipe ((wipe σ vs).set j x) vs = wipe σ vs := by
  apply List.ext_getElem?
  intro i
  by_cases hi : i ∈ vs
  · by_cases hl : i < σ.length
    · rw [wipe_in hi (by rw [List.length_set, wipe_length]; exact hl), wipe_in hi hl]
    · rw [List.getElem?_eq_none (by rw [wipe_length, List.length_set, wipe_length]; omega), List.getElem?_eq_none (by rw [wipe_length]; omega)]
  · rw [wipe_out hi, List.getElem?_set_ne (fun e => hi (by rw [← e]; exact h))]
theorem compL_len {j : Nat} {c : Env → Option Bool} {e : Env → Option Dt} {r : Env} : ∀ {items ds : List Dt}, compL j c e items r = some ds → ds.length ≤ items.length
  | [], ds, h => by cases h; exact Nat.le_refl _
  | x :: xs, ds, h => by
    unfold compL at h
    split at h
    · split at h
      · split at h
        · rename_i h2
          cases h
          have := compL_len h2
          rw [List.length_cons, List.length_cons]
          omega
        · cases h
      · cases h
    · have := compL_len h
      rw [List.length_cons]
      omega
    · cases h
/-- the canonical readings -/
def cE (K : PySem.W.Frag) (T : CT) (f : Env → Option Dt) : TE := fun σ H Q => ∃ G r d, Fits K T G H σ r ∧ f r = some d ∧ ∀ v G' H', Nx G H G' H' → Rp K T G' v d → Q v H'
def cT (K : PySem.W.Frag) (T : CT) (f : Env → Option Bool) : TT := fun σ H Q => ∃ G r b, Fits K T G H σ r ∧ f r = some b ∧ ∀ G' H', Nx G H G' H' → Q b H'
theorem DE.pe {e : Expr} {f : Env → Option Dt} (h : DE X T e f) : PE X e (cE X.K T f) := by
  obtain ⟨te, pe, ge⟩ := h.ex
  exact ⟨fun pins s σ H Q I ⟨G, r, d, F, e, q⟩ => pe.run pins s σ H Q I (ge G H σ r d F e Q q)⟩
theorem DT.pt {e : Expr} {f : Env → Option Bool} (h : DT X T e f) : PT X e (cT X.K T f) := by
  obtain ⟨te, pe, ge⟩ := h.ex
  exact ⟨fun pins s σ H Q I ⟨G, r, d, F, e, q⟩ => pe.run pins s σ H Q I (ge G H σ r d F e Q q)⟩
/-- the tests of a comprehension -/
structure DTs (X : Cx) (T : CT) (ifs : List Expr) (f : Env → Option Bool) : Prop where
  pt : PTs X ifs (cT X.K T f)
def fYes : Env → Option Bool := fun _ => some true
theorem dts_nil : DTs X T [] fYes := ⟨⟨fun pins s σ H Q I ⟨G, r, d, F, e, q⟩ => by
  cases e
  exact pts_nil.run pins s σ H Q I (q G H (Nx.refl F.gh))⟩⟩
theorem dts_one {c : Expr} {f : Env → Option Bool} (h : DT X T c f) : DTs X T [c] f := ⟨pts_one h.pt⟩
theorem gl_lc {wi : TI} {f : Env → Option (List Dt)} {j : Nat} {vs : List Nat} {c : Env → Option Bool} {e : Env → Option Dt} (hi : GI K T wi f) (hj : j ∈ vs) : GL K T (tLc wi (gName j) (cT K T c) (cE K T e) vs) (fComp f j vs c e) := fun G H σ r total F h Q q => by
  unfold fComp at h
  cases e1 : f r with
  | none => rw [e1] at h; cases h
  | some items =>
    rw [e1] at h
    obtain ⟨hlen, h⟩ := ite_opt h
    refine hi G H σ r items F e1 _ fun J G1 H1 n1 ok D hD => ?_
    have hHD : H D = none := n1.hh.free hD
    have F1 : Fits K T G1 H1 (wipe σ vs) (wipeE r vs) := (F.nx n1).wipe vs
    have tl : total.length ≤ items.length := compL_len h
    refine ⟨fun i m H' => m = items.length - i ∧ i ≤ items.length ∧ ∃ (G' : Hp) (acc : List V) (dsA dsB : List Dt), Nx G1 H1 G' H' ∧ G' D = none ∧ H' D = some (.lst acc) ∧ RpA K T G' acc dsA ∧ compL j c e (items.drop i) (wipeE r vs) = some dsB ∧ dsA ++ dsB = total,
      ⟨items.length, by simp, Nat.zero_le _, G1, [], [], total, Nx.newH n1.gh hD, n1.gh.free hD, upd_same, .nil, by simpa using h, rfl⟩, ?_⟩
    rintro i m H' ⟨rfl, hi', G', acc, dsA, dsB, n, hGD, hHD', ra, hc, happ⟩
    by_cases hlt : i < items.length
    · refine .inr ⟨ok.goes i H' hlt (n.gg.trans n.gh), fun H2 => ∃ (G' : Hp) (acc : List V) (dsA dsB : List Dt), Nx G1 H1 G' H2 ∧ G' D = none ∧ H2 D = some (.lst acc) ∧ RpA K T G' acc dsA ∧ compL j c e (items.drop (i + 1)) (wipeE r vs) = some dsB ∧ dsA ++ dsB = total,
        fun H2 w => ⟨items.length - (i + 1), by omega, rfl, hlt, w⟩, fun x H2 y => ?_⟩
      rw [List.drop_eq_getElem_cons hlt] at hc
      obtain ⟨G2, n2, rx⟩ := ok.yields i H' x H2 items[i] (List.getElem?_eq_getElem hlt) (n.gg.trans n.gh) y G' n.gg n.gh
      have hGD2 : G2 D = none := n2.out hGD hHD'
      have hHD2 : H2 D = some (.lst acc) := n2.hh _ _ hHD'
      have F2 : Fits K T G2 H2 ((wipe σ vs).set j (some x)) ((wipeE r vs).set j (.val items[i])) := (F1.nx (n.trans n2)).set rx
      refine ⟨wipe_set hj, ?_⟩
      unfold compL at hc
      have accl : acc.length < sizeLine := by
        have e1 := ra.length
        have e2 : dsA.length ≤ total.length := by rw [← happ, List.length_append]; omega
        have : (100000 : Nat) < sizeLine := by decide
        omega
      split at hc
      · rename_i hb
        split at hc
        · rename_i d he
          split at hc
          · rename_i ds hrest
            cases hc
            refine ⟨G2, _, true, F2, hb, fun G3 H3 n3 => ?_⟩
            dsimp only
            rw [if_pos rfl]
            refine ⟨G3, _, d, F2.nx n3, he, fun v G4 H4 n4 r4 => ⟨acc, n4.hh _ _ (n3.hh _ _ hHD2), accl, ?_⟩⟩
            have hGD4 : G4 D = none := (n3.trans n4).out hGD2 hHD2
            have n14 := ((n.trans n2).trans n3).trans n4
            refine ⟨G4, acc ++ [v], dsA ++ [d], ds, ⟨n14.gg, fun b o hb => ?_, same_updR n14.gh hGD4, n14.fr⟩, hGD4, upd_same, (RpA.mono ((n2.gg.trans n3.gg).trans n4.gg) _ ra).append (.cons r4 .nil), hrest, by rw [List.append_assoc]; exact happ⟩
            rw [upd_ne (ne_of_none hb hD)]
            exact n14.hh _ _ hb
          · cases hc
        · cases hc
      · rename_i hb
        refine ⟨G2, _, false, F2, hb, fun G3 H3 n3 => ?_⟩
        dsimp only
        rw [if_neg Bool.false_ne_true]
        exact ⟨G3, acc, dsA, dsB, (n.trans n2).trans n3, n3.out hGD2 hHD2, n3.hh _ _ hHD2, RpA.mono (n2.gg.trans n3.gg) _ ra, hc, happ⟩
      · cases hc
    · have e : i = items.length := by omega
      subst e
      refine .inl ⟨ok.stops H' (n.gg.trans n.gh), ?_⟩
      rw [List.drop_length] at hc
      cases hc
      rw [List.append_nil] at happ
      subst happ
      exact q D acc G' H' (n1.trans n) hHD hGD hHD' ra
theorem dl_lc {elt iter : Expr} {x : Str} {px : Pos} {ifs : List Expr} {scope : Scope} {own : List (Str × Nat)} {pos : Pos} {f : Env → Option (List Dt)} {c : Env → Option Bool} {e : Env → Option Dt} {j : Nat} (hc : X.calm = true) (hN : X.N.Nodup) (hi : DI X T (.Name x px) iter f) (ok : BlkOk X.N X.env.scope scope own) (hj : j ∈ own.map (·.2))
    (hg : ∀ (s : Shared) (H : Hp) (C : Addr) (cl : List (Str × Addr)) (fp : List Addr), PG (X.blk s H scope (compEnvC scope cl C X.env) fp) (.Name x px) (gName j)) (ht : ∀ (s : Shared) (H : Hp) (C : Addr) (cl : List (Str × Addr)) (fp : List Addr), DTs (X.blk s H scope (compEnvC scope cl C X.env) fp) T ifs c)
    (he : ∀ (s : Shared) (H : Hp) (C : Addr) (cl : List (Str × Addr)) (fp : List Addr), DE (X.blk s H scope (compEnvC scope cl C X.env) fp) T elt e) (hs : ∀ x, foldedSetIterable iter X.env x = pure x := by intro _; rfl) :
    DL X T (.ListComp elt [⟨.Name x px, iter, ifs, 0⟩] scope pos) (fComp f j (own.map (·.2)) c e) := by
  obtain ⟨ti, pi, gi⟩ := hi.ex
  exact ⟨_, pe_lc hc hN pi ok hg (fun s H C cl fp => (ht s H C cl fp).pt) (fun s H C cl fp => (he s H C cl fp).pe) hs, gl_lc gi hj⟩
end
end PL

/-! Statements and defs. -/
namespace PL
open PySem PySem.Spec PyProof.Rows L2

inductive Out where
  | nx (r : Env)
  | rt (d : Dt)
  | bk (r : Env)
  | ct (r : Env)
  deriving Inhabited

structure St1 (K : PySem.W.Frag) (T : CT) (B G0 H0 G H : Hp) (σ : L2.St) (r : Env) : Prop where
  fits : Fits K T G H σ r
  base : Same B G
  nx : Nx G0 H0 G H
  ow : ∀ (i : Nat) (ds : List Dt) (p : Addr), r[i]? = some (.own ds) → σ[i]? = some (some (.ref p)) → H0 p = none
  tr : Tr K T G H (fun a => H0 a = none) σ r
def Mt (K : PySem.W.Frag) (T : CT) (B G0 H0 : Hp) (D : Ends) : Out → Prop
  | .nx r => ∀ G H σ, St1 K T B G0 H0 G H σ r → D.nx σ H
  | .rt d => ∀ v G H, Nx G0 H0 G H → Rp K T G v d → D.rt v H
  | .bk r => ∀ G H σ, St1 K T B G0 H0 G H σ r → D.bk σ H
  | .ct r => ∀ G H σ, St1 K T B G0 H0 G H σ r → D.ct σ H
def GS (K : PySem.W.Frag) (T : CT) (ts : TS) (g : Env → Option Out) : Prop :=
  ∀ (B G0 H0 G H : Hp) (σ : L2.St) (r : Env) (o : Out), St1 K T B G0 H0 G H σ r → g r = some o → ∀ D : Ends, Mt K T B G0 H0 D o → ts D σ H
structure DS (X : Cx) (T : CT) (st : Stmt) (g : Env → Option Out) : Prop where
  ex : ∃ ts, PS X st ts ∧ GS X.K T ts g
structure DSs (X : Cx) (T : CT) (sts : List Stmt) (g : Env → Option Out) : Prop where
  ex : ∃ ts, PSs X sts ts ∧ GS X.K T ts g
/-- a target -/
def GG (K : PySem.W.Frag) (T : CT) (g : TG) (t : Dt → Env → Option Env) : Prop :=
  ∀ (B G0 H0 G H : Hp) (σ : L2.St) (r : Env) (v : V) (d : Dt) (r' : Env), St1 K T B G0 H0 G H σ r → Rp K T G v d → t d r = some r' → ∀ Q : L2.St → Hp → Prop, (∀ G' H' σ', St1 K T B G0 H0 G' H' σ' r' → Q σ' H') → g v σ H Q
structure DG (X : Cx) (T : CT) (tg : Expr) (t : Dt → Env → Option Env) : Prop where
  ex : ∃ g, PG X tg g ∧ GG X.K T g t

section
variable {X : Cx} {T : CT} {K : PySem.W.Frag} {B G0 H0 G H G' H' : Hp} {σ : L2.St} {r : Env}

theorem St1.nx' (S : St1 K T B G0 H0 G H σ r) (n : Nx G H G' H') : St1 K T B G0 H0 G' H' σ r := ⟨S.fits.nx n, S.base.trans n.gg, S.nx.trans n, S.ow, S.tr.nx n⟩
theorem St1.grow (S : St1 K T B G0 H0 G H σ r) (e : Same H H') : St1 K T B G0 H0 G H' σ r := S.nx' ((Nx.refl S.fits.gh).growH e)
theorem St1.set {i : Nat} {v : V} {d : Dt} (S : St1 K T B G0 H0 G H σ r) (q : Rp K T G v d) : St1 K T B G0 H0 G H (σ.set i (some v)) (r.set i (.val d)) := by
  refine ⟨S.fits.set q, S.base, S.nx, fun j ds p h1 h2 => ?_, S.tr.set (fun t h => by cases h) (fun l h => by cases h)⟩
  by_cases hj : j = i
  · subst hj
    by_cases hl : j < r.length
    · rw [List.getElem?_set_self hl] at h1; cases h1
    · rw [List.getElem?_eq_none (by simpa using hl)] at h1; cases h1
  · rw [List.getElem?_set_ne (Ne.symm hj)] at h1 h2
    exact S.ow j ds p h1 h2
theorem St1.setOwn {i : Nat} {p : Addr} {vs : List V} {ds : List Dt} (S : St1 K T B G0 H0 G H σ r) (hp : ∀ (j : Nat) (es : List Dt), j ≠ i → r[j]? = some (.own es) → σ[j]? ≠ some (some (.ref p))) (h0 : H0 p = none) (hg : G p = none) (hh : H p = some (.lst vs)) (q : RpA K T G vs ds) (ht : Tr K T G H (fun a => H0 a = none) (σ.set i (some (.ref p))) (r.set i (.own ds))) :
    St1 K T B G0 H0 G H (σ.set i (some (.ref p))) (r.set i (.own ds)) := by
  refine ⟨S.fits.setOwn hp hg hh q (ht.imp fun _ _ => trivial), S.base, S.nx, fun j es p' h1 h2 => ?_, ht⟩
  by_cases hj : j = i
  · subst hj
    by_cases hl : j < r.length
    · rw [List.getElem?_set_self (by rw [S.fits.len]; exact hl)] at h2
      cases h2
      exact h0
    · rw [List.getElem?_eq_none (by simpa using hl)] at h1; cases h1
  · rw [List.getElem?_set_ne (Ne.symm hj)] at h1 h2
    exact S.ow j es p' h1 h2
/-- the list at p, an own one's, changes -/
theorem St1.mutOwn {i : Nat} {p : Addr} {ds es : List Dt} {vs ws : List V} (S : St1 K T B G0 H0 G H σ r) (hr : r[i]? = some (.own ds)) (hs : σ[i]? = some (some (.ref p))) (q : RpA K T G ws es) : St1 K T B G0 H0 G (upd H p (.lst ws)) σ (r.set i (.own es)) := by
  obtain ⟨p', vs', e1, hg, hh, q'⟩ := S.fits.own i ds hr
  rw [hs] at e1
  cases e1
  have h0 := S.ow i ds p hr hs
  have hi : i < r.length := (List.getElem?_eq_some_iff.mp hr).1
  have ne : ∀ (j : Nat) (fs : List Dt) (p2 : Addr), j ≠ i → r[j]? = some (.own fs) → σ[j]? = some (some (.ref p2)) → p2 ≠ p := fun j fs p2 hj h1 h2 e => by
    subst e
    exact hj (S.fits.sep j i fs ds p2 h1 hr h2 hs)
  refine ⟨⟨same_updR S.fits.gh hg, by rw [List.length_set]; exact S.fits.len, fun j d h => ?_, fun j fs h => ?_, fun j k fs gs p2 h1 h2 h3 h4 => ?_, S.fits.tr.upd hr hs⟩, S.base, ⟨S.nx.gg, same_updR S.nx.hh h0, same_updR S.nx.gh hg, S.nx.fr⟩, fun j fs p2 h1 h2 => ?_, S.tr.upd hr hs⟩
  · by_cases hj : j = i
    · subst hj; rw [List.getElem?_set_self hi] at h; cases h
    · rw [List.getElem?_set_ne (Ne.symm hj)] at h
      exact S.fits.val j d h
  · by_cases hj : j = i
    · subst hj
      rw [List.getElem?_set_self hi] at h
      cases h
      exact ⟨p, ws, hs, hg, upd_same, q⟩
    · rw [List.getElem?_set_ne (Ne.symm hj)] at h
      obtain ⟨p2, us, e1, e2, e3, e4⟩ := S.fits.own j fs h
      exact ⟨p2, us, e1, e2, by rw [upd_ne (ne j fs p2 hj h e1)]; exact e3, e4⟩
  · have back : ∀ (j : Nat) (fs : List Dt), (r.set i (.own es))[j]? = some (.own fs) → ∃ fs', r[j]? = some (.own fs') := fun j fs h => by
      by_cases hj : j = i
      · subst hj; exact ⟨ds, hr⟩
      · rw [List.getElem?_set_ne (Ne.symm hj)] at h
        exact ⟨fs, h⟩
    obtain ⟨f1, h1⟩ := back j fs h1
    obtain ⟨f2, h2⟩ := back k gs h2
    exact S.fits.sep j k f1 f2 p2 h1 h2 h3 h4
  · by_cases hj : j = i
    · subst hj
      rw [hs] at h2
      cases h2
      exact h0
    · rw [List.getElem?_set_ne (Ne.symm hj)] at h1
      exact S.ow j fs p2 h1 h2
theorem St1.frzAt (S : St1 K T B G0 H0 G H σ r) (i : Nat) : ∃ G1, St1 K T B G0 H0 G1 H σ (PL.frzAt i r) := by
  unfold PL.frzAt
  split
  · rename_i ds hr
    obtain ⟨p, vs, hs, hg, hh, q⟩ := S.fits.own i ds hr
    have h0 := S.ow i ds p hr hs
    have hi : i < r.length := (List.getElem?_eq_some_iff.mp hr).1
    have gs : Same G (upd G p (.lst vs)) := same_new hg
    have own' : ∀ (j : Nat) (fs : List Dt), (r.set i (.val (.lst ds)))[j]? = some (.own fs) → j ≠ i ∧ r[j]? = some (.own fs) := fun j fs h => by
      by_cases hj : j = i
      · subst hj; rw [List.getElem?_set_self hi] at h; cases h
      · rw [List.getElem?_set_ne (Ne.symm hj)] at h
        exact ⟨hj, h⟩
    refine ⟨upd G p (.lst vs), ⟨same_updL S.fits.gh hh, by rw [List.length_set]; exact S.fits.len, fun j d h => ?_, fun j fs h => ?_, fun j k fs gs' p2 h1 h2 h3 h4 => ?_, S.fits.tr.fix hr hs hg⟩, S.base.trans gs, ⟨S.nx.gg.trans gs, S.nx.hh, same_updL S.nx.gh hh, fun a => ?_⟩, fun j fs p2 h1 h2 => S.ow j fs p2 (own' j fs h1).2 h2, S.tr.fix hr hs hg⟩
    · by_cases hj : j = i
      · subst hj
        rw [List.getElem?_set_self hi] at h
        cases h
        exact ⟨.ref p, hs, .lst upd_same (RpA.mono gs _ q)⟩
      · rw [List.getElem?_set_ne (Ne.symm hj)] at h
        obtain ⟨v, e, q⟩ := S.fits.val j d h
        exact ⟨v, e, Rp.mono gs d q⟩
    · obtain ⟨hj, h⟩ := own' j fs h
      obtain ⟨p2, us, e1, e2, e3, e4⟩ := S.fits.own j fs h
      have ne : p2 ≠ p := fun e => by
        subst e
        exact hj (S.fits.sep j i fs ds p2 h hr e1 hs)
      exact ⟨p2, us, e1, by rw [upd_ne ne]; exact e2, e3, RpA.mono gs _ e4⟩
    · exact S.fits.sep j k fs gs' p2 (own' j fs h1).2 (own' k gs' h2).2 h3 h4
    · by_cases ha : a = p
      · exact .inr (.inr (by rw [ha]; exact .inl h0))
      · rw [upd_ne ha]
        exact S.nx.fr a
  · exact ⟨G, S⟩

/-! ### blocks -/
def fSeq (a b : Env → Option Out) : Env → Option Out := fun r => match a r with
  | some (.nx r') => b r'
  | o => o
def fNext : Env → Option Out := fun r => some (.nx r)
theorem gs_seq {t u : TS} {a b : Env → Option Out} (h1 : GS K T t a) (h2 : GS K T u b) : GS K T (tSeq t u) (fSeq a b) := fun B G0 H0 G H σ r o S e D m => by
  unfold fSeq at e
  cases e1 : a r with
  | none => rw [e1] at e; cases e
  | some o1 =>
    rw [e1] at e
    cases o1 with
    | nx r' => exact h1 B G0 H0 G H σ r _ S e1 { D with nx := u D } fun G1 H1 σ1 S1 => h2 B G0 H0 G1 H1 σ1 r' o S1 e D m
    | rt d => cases e; exact h1 B G0 H0 G H σ r _ S e1 { D with nx := u D } m
    | bk r' => cases e; exact h1 B G0 H0 G H σ r _ S e1 { D with nx := u D } m
    | ct r' => cases e; exact h1 B G0 H0 G H σ r _ S e1 { D with nx := u D } m
theorem dss_nil : DSs X T [] fNext := ⟨_, pss_nil, fun B G0 H0 G H σ r o S e D m => by cases e; exact m G H σ S⟩
theorem dss_one {st : Stmt} {a : Env → Option Out} (h : DS X T st a) : DSs X T [st] a := by
  obtain ⟨t, p, g⟩ := h.ex
  exact ⟨_, pss_one p, g⟩
theorem dss_cons {st : Stmt} {rest : List Stmt} {a b : Env → Option Out} (h1 : DS X T st a) (h2 : DSs X T rest b) : DSs X T (st :: rest) (fSeq a b) := by
  obtain ⟨t, p, g⟩ := h1.ex
  obtain ⟨t2, p2, g2⟩ := h2.ex
  exact ⟨_, pss_cons p p2, gs_seq g g2⟩
/-- own lists are fixed ahead of a statement -/
def fFrz (j : Nat) (a : Env → Option Out) : Env → Option Out := fun r => a (frzAt j r)
theorem ds_frz (j : Nat) {st : Stmt} {a : Env → Option Out} (h : DS X T st a) : DS X T st (fFrz j a) := by
  obtain ⟨t, p, g⟩ := h.ex
  refine ⟨t, p, fun B G0 H0 G H σ r o S e D m => ?_⟩
  obtain ⟨G1, S1⟩ := S.frzAt j
  exact g B G0 H0 G1 H σ _ o S1 e D m
def fNever : Env → Option Out := fun _ => none
theorem ds_never {st : Stmt} : DS X T st fNever := ⟨_, ps_never, fun B G0 H0 G H σ r o S e D m => by cases e⟩
theorem ds_pass {pos : Pos} : DS X T (.Pass pos) fNext := ⟨_, ps_pass, fun B G0 H0 G H σ r o S e D m => by cases e; exact m G H σ S⟩
theorem ds_break {pos : Pos} : DS X T (.Break pos) (fun r => some (.bk r)) := ⟨_, ps_break, fun B G0 H0 G H σ r o S e D m => by cases e; exact m G H σ S⟩
theorem ds_cont {pos : Pos} : DS X T (.Continue pos) (fun r => some (.ct r)) := ⟨_, ps_continue, fun B G0 H0 G H σ r o S e D m => by cases e; exact m G H σ S⟩
/-! ### stores -/
def fSet (i : Nat) (f : Env → Option Dt) : Env → Option Out := fun r => (f r).map fun d => .nx (r.set i (.val d))
theorem gs_set {i : Nat} {te : TE} {f : Env → Option Dt} (h : GE K T te f) : GS K T (tAsg te (gName i)) (fSet i f) := fun B G0 H0 G H σ r o S e D m => by
  unfold fSet at e
  cases e1 : f r with
  | none => rw [e1] at e; cases e
  | some d =>
    rw [e1] at e
    cases e
    exact h G H σ r d S.fits e1 _ fun v G1 H1 n1 p1 => m G1 H1 _ ((S.nx' n1).set p1)
theorem ds_set (i : Nat) {x : Str} {e : Expr} {f : Env → Option Dt} {pos pos' : Pos} (hN : X.N.Nodup) (he : DE X T e f) (hi : X.N[i]? = some x := by rfl) (hx : Loc X.env.scope x := by first | exact .inl rfl | exact .inr rfl) (hs : swapsWith e (some (.Name x pos')) pos.line X.env = pure false := by rfl)
    (hf : X.fn x = true ∨ X.env.scope.names.lookup x = some .local := by first | exact .inl rfl | exact .inr rfl) : DS X T (.Assign [.Name x pos'] e pos) (fSet i f) := by
  obtain ⟨te, pe, ge⟩ := he.ex
  exact ⟨_, ps_set hN hi hx pe hs hf, gs_set ge⟩
def fSetO (i : Nat) (f : Env → Option (List Dt)) : Env → Option Out := fun r => (f r).map fun d => .nx (r.set i (.own d))
theorem gs_setO {i : Nat} {te : TE} {f : Env → Option (List Dt)} (h : GL K T te f) : GS K T (tAsg te (gName i)) (fSetO i f) := fun B G0 H0 G H σ r o S e D m => by
  unfold fSetO at e
  cases e1 : f r with
  | none => rw [e1] at e; cases e
  | some d =>
    rw [e1] at e
    cases e
    refine h G H σ r d S.fits e1 _ fun p vs G1 H1 n1 hp hg hh q => m G1 H1 _ ((S.nx' n1).setOwn (fun j es _ h1 h2 => ?_) (S.nx.hh.free hp) hg hh q (((S.tr.inH.nx n1).setOwn (fun z => z.2 hp) S.fits.len).imp fun _ z => z.1))
    obtain ⟨p', vs', e1, _, e3, _⟩ := S.fits.own j es h1
    rw [h2] at e1
    cases e1
    rw [hp] at e3
    cases e3
theorem ds_setO (i : Nat) {x : Str} {e : Expr} {f : Env → Option (List Dt)} {pos pos' : Pos} (hN : X.N.Nodup) (he : DL X T e f) (hi : X.N[i]? = some x := by rfl) (hx : Loc X.env.scope x := by first | exact .inl rfl | exact .inr rfl) (hs : swapsWith e (some (.Name x pos')) pos.line X.env = pure false := by rfl)
    (hf : X.fn x = true ∨ X.env.scope.names.lookup x = some .local := by first | exact .inl rfl | exact .inr rfl) : DS X T (.Assign [.Name x pos'] e pos) (fSetO i f) := by
  obtain ⟨te, pe, ge⟩ := he.ex
  exact ⟨_, ps_set hN hi hx pe hs hf, gs_setO ge⟩
/-- y = [.. for ..] -/
theorem lcx {y : Str} {py : Pos} {i j : Nat} {elt iter : Expr} {x : Str} {px : Pos} {ifs : List Expr} {scope : Scope} {own : List (Str × Nat)} {pos spos : Pos} {f : Env → Option (List Dt)} {c : Env → Option Bool} {e : Env → Option Dt} (hc : X.calm = true) (hN : X.N.Nodup) (hy : X.N[i]? = some y) (hyl : X.env.scope.names.lookup y = some .local)
    (hsw : swapsWith (.ListComp elt [⟨.Name x px, iter, ifs, 0⟩] scope pos) (some (.Name y py)) spos.line X.env = pure true) (hi : DI X T (.Name x px) iter f) (ok : BlkOk X.N X.env.scope scope own) (hj : j ∈ own.map (·.2))
    (hg : ∀ (s : Shared) (H : Hp) (C : Addr) (cl : List (Str × Addr)) (fp : List Addr), PG (X.blk s H scope (compEnvC scope cl C X.env) fp) (.Name x px) (gName j)) (ht : ∀ (s : Shared) (H : Hp) (C : Addr) (cl : List (Str × Addr)) (fp : List Addr), DTs (X.blk s H scope (compEnvC scope cl C X.env) fp) T ifs c)
    (he : ∀ (s : Shared) (H : Hp) (C : Addr) (cl : List (Str × Addr)) (fp : List Addr), DE (X.blk s H scope (compEnvC scope cl C X.env) fp) T elt e) (hs : ∀ x, foldedSetIterable iter X.env x = pure x) :
    ∃ te, PS X (.Assign [.Name y py] (.ListComp elt [⟨.Name x px, iter, ifs, 0⟩] scope pos) spos) (tAsg te (gName i)) ∧ GL X.K T te (fComp f j (own.map (·.2)) c e) := by
  obtain ⟨ti, pi, gi⟩ := hi.ex
  exact ⟨_, ps_setLc hc hN hy hyl hsw pi ok hg (fun s H C cl fp => (ht s H C cl fp).pt) (fun s H C cl fp => (he s H C cl fp).pe) hs, gl_lc gi hj⟩
theorem ds_setLc (i : Nat) {y : Str} {py : Pos} {j : Nat} {elt iter : Expr} {x : Str} {px : Pos} {ifs : List Expr} {scope : Scope} {own : List (Str × Nat)} {pos spos : Pos} {f : Env → Option (List Dt)} {c : Env → Option Bool} {e : Env → Option Dt} (hc : X.calm = true) (hN : X.N.Nodup)
    (hi : DI X T (.Name x px) iter f) (ok : BlkOk X.N X.env.scope scope own) (hj : j ∈ own.map (·.2))
    (hg : ∀ (s : Shared) (H : Hp) (C : Addr) (cl : List (Str × Addr)) (fp : List Addr), PG (X.blk s H scope (compEnvC scope cl C X.env) fp) (.Name x px) (gName j)) (ht : ∀ (s : Shared) (H : Hp) (C : Addr) (cl : List (Str × Addr)) (fp : List Addr), DTs (X.blk s H scope (compEnvC scope cl C X.env) fp) T ifs c)
    (he : ∀ (s : Shared) (H : Hp) (C : Addr) (cl : List (Str × Addr)) (fp : List Addr), DE (X.blk s H scope (compEnvC scope cl C X.env) fp) T elt e)
    (hsw : swapsWith (.ListComp elt [⟨.Name x px, iter, ifs, 0⟩] scope pos) (some (.Name y py)) spos.line X.env = pure true) (hy : X.N[i]? = some y := by rfl) (hyl : X.env.scope.names.lookup y = some .local := by rfl) (hs : ∀ x, foldedSetIterable iter X.env x = pure x := by intro _; rfl) :
    DS X T (.Assign [.Name y py] (.ListComp elt [⟨.Name x px, iter, ifs, 0⟩] scope pos) spos) (fSet i (fL (fComp f j (own.map (·.2)) c e))) := by
  obtain ⟨te, p, g⟩ := lcx hc hN hy hyl hsw hi ok hj hg ht he hs
  exact ⟨_, p, gs_set (ge_l g)⟩
theorem ds_setLcO (i : Nat) {y : Str} {py : Pos} {j : Nat} {elt iter : Expr} {x : Str} {px : Pos} {ifs : List Expr} {scope : Scope} {own : List (Str × Nat)} {pos spos : Pos} {f : Env → Option (List Dt)} {c : Env → Option Bool} {e : Env → Option Dt} (hc : X.calm = true) (hN : X.N.Nodup)
    (hi : DI X T (.Name x px) iter f) (ok : BlkOk X.N X.env.scope scope own) (hj : j ∈ own.map (·.2))
    (hg : ∀ (s : Shared) (H : Hp) (C : Addr) (cl : List (Str × Addr)) (fp : List Addr), PG (X.blk s H scope (compEnvC scope cl C X.env) fp) (.Name x px) (gName j)) (ht : ∀ (s : Shared) (H : Hp) (C : Addr) (cl : List (Str × Addr)) (fp : List Addr), DTs (X.blk s H scope (compEnvC scope cl C X.env) fp) T ifs c)
    (he : ∀ (s : Shared) (H : Hp) (C : Addr) (cl : List (Str × Addr)) (fp : List Addr), DE (X.blk s H scope (compEnvC scope cl C X.env) fp) T elt e)
    (hsw : swapsWith (.ListComp elt [⟨.Name x px, iter, ifs, 0⟩] scope pos) (some (.Name y py)) spos.line X.env = pure true) (hy : X.N[i]? = some y := by rfl) (hyl : X.env.scope.names.lookup y = some .local := by rfl) (hs : ∀ x, foldedSetIterable iter X.env x = pure x := by intro _; rfl) :
    DS X T (.Assign [.Name y py] (.ListComp elt [⟨.Name x px, iter, ifs, 0⟩] scope pos) spos) (fSetO i (fComp f j (own.map (·.2)) c e)) := by
  obtain ⟨te, p, g⟩ := lcx hc hN hy hyl hsw hi ok hj hg ht he hs
  exact ⟨_, p, gs_setO g⟩
/-! ### targets -/
def tNm (i : Nat) : Dt → Env → Option Env := fun d r => some (r.set i (.val d))
theorem dg_name (i : Nat) {x : Str} {pos : Pos} (hN : X.N.Nodup) (hi : X.N[i]? = some x := by rfl) (hx : Loc X.env.scope x := by first | exact .inl rfl | exact .inr rfl) (hf : X.fn x = true ∨ X.env.scope.names.lookup x = some .local := by first | exact .inl rfl | exact .inr rfl) : DG X T (.Name x pos) (tNm i) :=
  ⟨_, pg_name hN hi hx hf, fun B G0 H0 G H σ r v d r' S q e Q k => by cases e; exact k G H _ (S.set q)⟩
def GGs (K : PySem.W.Frag) (T : CT) (g : TGs) (t : List Dt → Env → Option Env) : Prop :=
  ∀ (B G0 H0 G H : Hp) (σ : L2.St) (r : Env) (vs : List V) (ds : List Dt) (r' : Env), St1 K T B G0 H0 G H σ r → RpA K T G vs ds → t ds r = some r' → ∀ Q : L2.St → Hp → Prop, (∀ G' H' σ', St1 K T B G0 H0 G' H' σ' r' → Same G G' → Q σ' H') → g vs σ H Q
structure DGs (X : Cx) (T : CT) (es : List Expr) (t : List Dt → Env → Option Env) : Prop where
  ex : ∃ g, PGs X es g ∧ GGs X.K T g t
def tNs : List Nat → List Dt → Env → Option Env
  | [], [], r => some r
  | i :: is, d :: ds, r => tNs is ds (r.set i (.val d))
  | _, _, _ => none
theorem dgs_nil : DGs X T [] (tNs []) := ⟨_, pgs_nil, fun B G0 H0 G H σ r vs ds r' S q e Q k => by
  cases ds with
  | nil => cases e; cases q; exact ⟨rfl, k G H σ S (Same.refl G)⟩
  | cons d ds => cases e⟩
theorem dgs_cons (i : Nat) {is : List Nat} {x : Str} {pos : Pos} {es : List Expr} (hN : X.N.Nodup) (h : DGs X T es (tNs is)) (hi : X.N[i]? = some x := by rfl) (hx : Loc X.env.scope x := by first | exact .inl rfl | exact .inr rfl) (hf : X.fn x = true ∨ X.env.scope.names.lookup x = some .local := by first | exact .inl rfl | exact .inr rfl)
    (hs : (assignEach (.Name x pos :: es) X.env).map (·.2) = assign (.Name x pos) X.env :: (assignEach es X.env).map (·.2) := by rfl) : DGs X T (.Name x pos :: es) (tNs (i :: is)) := by
  obtain ⟨g, p, gg⟩ := h.ex
  refine ⟨_, pgs_cons (pg_name hN hi hx hf) p hs, fun B G0 H0 G H σ r vs ds r' S q e Q k => ?_⟩
  cases ds with
  | nil => cases e
  | cons d ds =>
    cases q with
    | cons q1 q2 => exact ⟨_, _, rfl, gg B G0 H0 G H _ _ _ ds r' (S.set q1) q2 e Q k⟩
def tTp (is : List Nat) : Dt → Env → Option Env := fun d r => match d with
  | .tup ds => tNs is ds r
  | _ => none
theorem tNs_len : ∀ {is : List Nat} {ds : List Dt} {r r' : Env}, tNs is ds r = some r' → ds.length = is.length
  | [], [], _, _, _ => rfl
  | [], _ :: _, _, _, h => by cases h
  | _ :: _, [], _, _, h => by cases h
  | i :: is, d :: ds, r, r', h => by rw [List.length_cons, List.length_cons, tNs_len (is := is) (ds := ds) h]
theorem dg_tup {es : List Expr} {k : Nat} {is : List Nat} {pos : Pos} (hc : X.calm = true) (h : DGs X T es (tNs is)) (hn : (assignEach es X.env).length = is.length := by rfl) (hst : (assignEach es X.env).findIdx? (·.1) = none := by rfl) : DG X T (.Tuple es k pos) (tTp is) := by
  obtain ⟨g, p, gg⟩ := h.ex
  refine ⟨_, pg_tup hc p hn hst, fun B G0 H0 G H σ r v d r' S q e Q k => ?_⟩
  unfold tTp at e
  split at e
  · rename_i ds
    cases q with
    | tup a1 a2 => exact ⟨_, _, rfl, SqT.mono S.fits.gh a1, by rw [a2.length]; exact tNs_len e, gg B G0 H0 G H σ r _ ds r' S a2 e Q fun G' H' σ' S' _ => k G' H' σ' S'⟩
  · cases e
def fAsg (t : Dt → Env → Option Env) (f : Env → Option Dt) : Env → Option Out := fun r => (f r).bind fun d => (t d r).map .nx
theorem ds_asg {tg e : Expr} {t : Dt → Env → Option Env} {f : Env → Option Dt} {pos : Pos} (hg : DG X T tg t) (he : DE X T e f) (hs : swapsWithSole [tg] e pos.line X.env = pure false := by rfl) (hw : swappedStores [tg] e X.env = pure none := by rfl) (h1 : (assignEach [tg] X.env).map (·.2) = [assign tg X.env] := by rfl) :
    DS X T (.Assign [tg] e pos) (fAsg t f) := by
  obtain ⟨g, pg, gg⟩ := hg.ex
  obtain ⟨te, pe, ge⟩ := he.ex
  refine ⟨_, ps_asg pe pg hs hw h1, fun B G0 H0 G H σ r o S e D m => ?_⟩
  unfold fAsg at e
  cases e1 : f r with
  | none => rw [e1] at e; cases e
  | some d =>
    rw [e1] at e
    replace e : (t d r).map Out.nx = some o := e
    cases e2 : t d r with
    | none => rw [e2] at e; cases e
    | some r' =>
      rw [e2] at e
      cases e
      exact ge G H σ r d S.fits e1 _ fun v G1 H1 n1 p1 => gg B G0 H0 G1 H1 σ r v d r' (S.nx' n1) p1 e2 _ fun G2 H2 σ2 S2 => m G2 H2 σ2 S2

/-! ### several values at once, some of them new lists: a, b = [], 0 -/
inductive Me where
  | v (f : Env → Option Dt)
  | o (f : Env → Option (List Dt))
def fMs : List Me → Env → Option (List Sl)
  | [], _ => some []
  | .v f :: l, r => (f r).bind fun d => (fMs l r).map fun s => .val d :: s
  | .o f :: l, r => (f r).bind fun d => (fMs l r).map fun s => .own d :: s
/-- vs stand for ss: the own ones' lists lie in H, new since Hs, apart from each other -/
inductive RpM (K : PySem.W.Frag) (T : CT) (Hs G H : Hp) : List V → List Sl → Prop
  | nil : RpM K T Hs G H [] []
  | v {v : V} {d : Dt} {vs : List V} {ss : List Sl} : Rp K T G v d → RpM K T Hs G H vs ss → RpM K T Hs G H (v :: vs) (.val d :: ss)
  | o {p : Addr} {ws : List V} {ds : List Dt} {vs : List V} {ss : List Sl} : Hs p = none → G p = none → H p = some (.lst ws) → RpA K T G ws ds → (∀ (j : Nat) (es : List Dt), ss[j]? = some (Sl.own es) → vs[j]? ≠ some (V.ref p)) → RpM K T Hs G H vs ss → RpM K T Hs G H (.ref p :: vs) (.own ds :: ss)
def GM (K : PySem.W.Frag) (T : CT) (ta : TA) (f : Env → Option (List Sl)) : Prop :=
  ∀ (G H : Hp) (σ : L2.St) (r : Env) (ss : List Sl), Fits K T G H σ r → f r = some ss → ∀ Q : List V → Hp → Prop, (∀ vs G' H', Nx G H G' H' → RpM K T H G' H' vs ss → Q vs H') → ta σ H Q
structure DM (X : Cx) (T : CT) (es : List Expr) (l : List Me) : Prop where
  ex : ∃ ta, PA X es ta ∧ GM X.K T ta (fMs l)
theorem RpM.length {Hs G H : Hp} : ∀ {vs : List V} {ss : List Sl}, RpM K T Hs G H vs ss → vs.length = ss.length
  | _, _, .nil => rfl
  | _, _, .v _ t => by rw [List.length_cons, List.length_cons, t.length]
  | _, _, .o _ _ _ _ _ t => by rw [List.length_cons, List.length_cons, t.length]
/-- later lists are new since an earlier heap -/
theorem RpM.older {Hs Hs' G H : Hp} (e : Same Hs Hs') : ∀ {vs : List V} {ss : List Sl}, RpM K T Hs' G H vs ss → RpM K T Hs G H vs ss
  | _, _, .nil => .nil
  | _, _, .v a t => .v a (t.older e)
  | _, _, .o a b c d f t => .o (e.free a) b c d f (t.older e)
theorem RpM.own_new {Hs G H : Hp} : ∀ {vs : List V} {ss : List Sl} {j : Nat} {es : List Dt} {p : Addr}, RpM K T Hs G H vs ss → ss[j]? = some (.own es) → vs[j]? = some (.ref p) → Hs p = none
  | _, _, _, _, _, .nil, h, _ => by simp at h
  | _, _, 0, _, _, .v _ _, h, _ => by simp at h
  | _, _, j + 1, _, _, .v _ t, h, h2 => RpM.own_new (j := j) t (by simpa using h) (by simpa using h2)
  | _, _, 0, _, _, .o a _ _ _ _ _, h, h2 => by
    rw [List.getElem?_cons_zero] at h2
    cases h2
    exact a
  | _, _, j + 1, _, _, .o _ _ _ _ _ t, h, h2 => RpM.own_new (j := j) t (by simpa using h) (by simpa using h2)
theorem dm_nil : DM X T [] [] := ⟨_, pa_nil, fun G H σ r ss F e Q q => by cases e; exact q [] G H (Nx.refl F.gh) .nil⟩
theorem dm_v {e : Expr} {es : List Expr} {f : Env → Option Dt} {l : List Me} (ha : DE X T e f) (hb : DM X T es l) (hs : starEach (e :: es) X.env = (false, eval e X.env) :: starEach es X.env := by rfl) : DM X T (e :: es) (.v f :: l) := by
  obtain ⟨ta, pa, ga⟩ := ha.ex
  obtain ⟨tb, pb, gb⟩ := hb.ex
  refine ⟨_, pa_cons pa pb hs, fun G H σ r ss F e Q q => ?_⟩
  unfold fMs at e
  cases e1 : f r with
  | none => rw [e1] at e; cases e
  | some d =>
    rw [e1] at e
    replace e : (fMs l r).map (fun s => Sl.val d :: s) = some ss := e
    cases e2 : fMs l r with
    | none => rw [e2] at e; cases e
    | some s =>
      rw [e2] at e
      cases e
      refine ga G H σ r d F e1 _ fun v G1 H1 n1 p1 => ?_
      exact gb G1 H1 σ r s (F.nx n1) e2 _ fun vs G2 H2 n2 p2 => q (v :: vs) G2 H2 (n1.trans n2) (.v (Rp.mono n2.gg d p1) (p2.older n1.hh))
theorem dm_o {e : Expr} {es : List Expr} {f : Env → Option (List Dt)} {l : List Me} (ha : DL X T e f) (hb : DM X T es l) (hs : starEach (e :: es) X.env = (false, eval e X.env) :: starEach es X.env := by rfl) : DM X T (e :: es) (.o f :: l) := by
  obtain ⟨ta, pa, ga⟩ := ha.ex
  obtain ⟨tb, pb, gb⟩ := hb.ex
  refine ⟨_, pa_cons pa pb hs, fun G H σ r ss F e Q q => ?_⟩
  unfold fMs at e
  cases e1 : f r with
  | none => rw [e1] at e; cases e
  | some d =>
    rw [e1] at e
    replace e : (fMs l r).map (fun s => Sl.own d :: s) = some ss := e
    cases e2 : fMs l r with
    | none => rw [e2] at e; cases e
    | some s =>
      rw [e2] at e
      cases e
      refine ga G H σ r d F e1 _ fun p ws G1 H1 n1 hp hg hh p1 => ?_
      refine gb G1 H1 σ r s (F.nx n1) e2 _ fun vs G2 H2 n2 p2 => q (.ref p :: vs) G2 H2 (n1.trans n2) (.o hp (n2.out hg hh) (n2.hh _ _ hh) (RpA.mono n2.gg d p1) (fun j es h1 h2 => ?_) (p2.older n1.hh))
      have := p2.own_new h1 h2
      rw [hh] at this
      cases this
/-- the stores, one behind the other -/
def setS : List Nat → List Sl → Env → Env
  | i :: is, s :: ss, r => setS is ss (r.set i s)
  | _, _, r => r
def setV : List Nat → List V → L2.St → L2.St
  | i :: is, v :: vs, σ => setV is vs (σ.set i (some v))
  | _, _, σ => σ
theorem St1.setM {Hs : Hp} (h0 : Same H0 Hs) : ∀ {is : List Nat} {vs : List V} {ss : List Sl} {σ : L2.St} {r : Env}, St1 K T B G0 H0 G H σ r → Tr K T G H (fun a => H0 a = none ∧ Hs a ≠ none) σ r → RpM K T Hs G H vs ss →
    (∀ (j : Nat) (es : List Dt) (p : Addr) (i : Nat) (fs : List Dt), r[j]? = some (.own es) → σ[j]? = some (some (.ref p)) → ss[i]? = some (.own fs) → vs[i]? ≠ some (.ref p)) → is.length = ss.length →
    St1 K T B G0 H0 G H (setV is vs σ) (setS is ss r)
  | [], _, _, _, _, S, _, .nil, _, _ => S
  | i :: is, _, _, σ, r, S, tr, .v (v := v) (d := d) (vs := vs) (ss := ss) a t, hs, hl => by
    refine St1.setM h0 (is := is) (S.set a) (tr.set (fun t h => by cases h) (fun l h => by cases h)) t (fun j es p k fs h1 h2 h3 => ?_) (by simpa using hl)
    by_cases hj : j = i
    · subst hj
      by_cases hb : j < r.length
      · rw [List.getElem?_set_self hb] at h1; cases h1
      · rw [List.getElem?_eq_none (by simpa using hb)] at h1; cases h1
    · rw [List.getElem?_set_ne (Ne.symm hj)] at h1 h2
      have := hs j es p (k + 1) fs h1 h2 (by simpa using h3)
      simpa using this
  | i :: is, _, _, σ, r, S, tr, .o (p := p) (ws := ws) (ds := ds) (vs := vs) (ss := ss) a b c d f t, hs, hl => by
    have tr' := tr.setOwn (i := i) (p := p) (ds := ds) (fun z => z.2 a) S.fits.len
    refine St1.setM h0 (is := is) (S.setOwn (fun j es hj h1 h2 => hs j es p 0 ds h1 h2 (by simp) (by simp)) (h0.free a) b c d (tr'.imp fun _ z => z.1)) tr' t (fun j es p' k fs h1 h2 h3 => ?_) (by simpa using hl)
    by_cases hj : j = i
    · subst hj
      by_cases hb : j < r.length
      · rw [List.getElem?_set_self (by rw [S.fits.len]; exact hb)] at h2
        cases h2
        exact f k fs h3
      · rw [List.getElem?_eq_none (by simpa using hb)] at h1; cases h1
    · rw [List.getElem?_set_ne (Ne.symm hj)] at h1 h2
      have := hs j es p' (k + 1) fs h1 h2 (by simpa using h3)
      simpa using this
theorem St1.apart {vs : List V} {ss : List Sl} {Hs : Hp} (S : St1 K T B G0 H0 G Hs σ r) (m : RpM K T Hs G' H' vs ss) : ∀ (j : Nat) (es : List Dt) (p : Addr) (i : Nat) (fs : List Dt), r[j]? = some (.own es) → σ[j]? = some (some (.ref p)) → ss[i]? = some (.own fs) → vs[i]? ≠ some (.ref p) := fun j es p i fs h1 h2 h3 h4 => by
  have e := m.own_new h3 h4
  obtain ⟨p', ws, e1, _, e3, _⟩ := S.fits.own j es h1
  rw [h2] at e1
  cases e1
  rw [e] at e3
  cases e3
def fPar (is : List Nat) (l : List Me) : Env → Option Out := fun r => (fMs l r).map fun ss => .nx (setS is ss r)
/-- a, b = x, y: plain local names -/
theorem ds_par2 (i j : Nat) {x y : Str} {a b : Expr} {m1 m2 : Me} {px py pt pos pt2 : Pos} {kt k2} (hc : X.calm = true) (hN : X.N.Nodup) (ha : DM X T [a, b] [m1, m2]) (hij : i ≠ j) (hi : X.N[i]? = some x := by rfl) (hj : X.N[j]? = some y := by rfl)
    (hx : X.env.scope.names.lookup x = some .local := by rfl) (hy : X.env.scope.names.lookup y = some .local := by rfl)
    (hw : swappedStores [.Tuple [.Name x px, .Name y py] kt pt] (.Tuple [a, b] k2 pt2) X.env = pure (some [x, y]) := by rfl)
    (hs : swapsWithSole [.Tuple [.Name x px, .Name y py] kt pt] (.Tuple [a, b] k2 pt2) pos.line X.env = pure false := by rfl) :
    DS X T (.Assign [.Tuple [.Name x px, .Name y py] kt pt] (.Tuple [a, b] k2 pt2) pos) (fPar [i, j] [m1, m2]) := by
  obtain ⟨ta, pa, ga⟩ := ha.ex
  refine ⟨_, ps_par hc hN hi hj hij hx hy pa hw hs, fun B G0 H0 G H σ r o S e D m => ?_⟩
  unfold fPar at e
  cases e1 : fMs [m1, m2] r with
  | none => rw [e1] at e; cases e
  | some ss =>
    rw [e1] at e
    cases e
    refine ga G H σ r ss S.fits e1 _ fun vs G1 H1 n1 p1 => ?_
    have hl : ss.length = 2 := by
      cases m1 <;> cases m2 <;> (unfold fMs fMs fMs at e1; revert e1; rename_i f g; cases f r <;> cases g r <;> intro e1 <;> first | (cases e1; done) | (cases e1; rfl))
    have hvl := p1.length
    obtain ⟨v, w, rfl⟩ : ∃ v w, vs = [v, w] := by
      rw [hl] at hvl
      match vs, hvl with
      | [v, w], _ => exact ⟨v, w, rfl⟩
    refine ⟨v, w, rfl, ?_⟩
    exact m G1 H1 _ ((S.nx' n1).setM (is := [i, j]) S.nx.hh (S.tr.inH.nx n1) p1 (S.apart p1) (by rw [hl]; rfl))
/-- a, b, c = x, y, z -/
theorem ds_par3 (i j l : Nat) {x y z : Str} {a b c : Expr} {m1 m2 m3 : Me} {px py pz pt pos pt2 : Pos} {kt k2} (hN : X.N.Nodup) (ha : DM X T [a, b, c] [m1, m2, m3])
    (hx : ∀ {ta : TA}, PA X [a, b, c] ta → PS X (.Assign [.Tuple [.Name x px, .Name y py, .Name z pz] kt pt] (.Tuple [a, b, c] k2 pt2) pos) (tPar3 i j l ta)) :
    DS X T (.Assign [.Tuple [.Name x px, .Name y py, .Name z pz] kt pt] (.Tuple [a, b, c] k2 pt2) pos) (fPar [i, j, l] [m1, m2, m3]) := by
  obtain ⟨ta, pa, ga⟩ := ha.ex
  refine ⟨_, hx pa, fun B G0 H0 G H σ r o S e D m => ?_⟩
  unfold fPar at e
  cases e1 : fMs [m1, m2, m3] r with
  | none => rw [e1] at e; cases e
  | some ss =>
    rw [e1] at e
    cases e
    refine ga G H σ r ss S.fits e1 _ fun vs G1 H1 n1 p1 => ?_
    have hl : ss.length = 3 := by
      cases m1 <;> cases m2 <;> cases m3 <;> (unfold fMs fMs fMs fMs at e1; revert e1; rename_i f g h; cases f r <;> cases g r <;> cases h r <;> intro e1 <;> first | (cases e1; done) | (cases e1; rfl))
    have hvl := p1.length
    obtain ⟨v, w, u, rfl⟩ : ∃ v w u, vs = [v, w, u] := by
      rw [hl] at hvl
      match vs, hvl with
      | [v, w, u], _ => exact ⟨v, w, u, rfl⟩
    refine ⟨v, w, u, rfl, ?_⟩
    exact m G1 H1 _ ((S.nx' n1).setM (is := [i, j, l]) S.nx.hh (S.tr.inH.nx n1) p1 (S.apart p1) (by rw [hl]; rfl))
/-- a, b, c, d, .. = ..: by a tuple -/
structure DPs (X : Cx) (es : List Expr) (is : List Nat) : Prop where
  ex : ∃ g, PGs X es g ∧ ∀ (vs : List V) (σ : L2.St) (H : Hp) (Q : L2.St → Hp → Prop), vs.length = is.length → Q (setV is vs σ) H → g vs σ H Q
theorem dps_nil : DPs X [] [] := ⟨_, pgs_nil, fun vs σ H Q hl q => by
  cases vs with
  | nil => exact ⟨rfl, q⟩
  | cons _ _ => cases hl⟩
theorem dps_cons (i : Nat) {is : List Nat} {x : Str} {pos : Pos} {es : List Expr} (hN : X.N.Nodup) (h : DPs X es is) (hi : X.N[i]? = some x := by rfl) (hx : Loc X.env.scope x := by first | exact .inl rfl | exact .inr rfl) (hf : X.fn x = true ∨ X.env.scope.names.lookup x = some .local := by first | exact .inl rfl | exact .inr rfl)
    (hs : (assignEach (.Name x pos :: es) X.env).map (·.2) = assign (.Name x pos) X.env :: (assignEach es X.env).map (·.2) := by rfl) : DPs X (.Name x pos :: es) (i :: is) := by
  obtain ⟨g, p, gg⟩ := h.ex
  refine ⟨_, pgs_cons (pg_name hN hi hx hf) p hs, fun vs σ H Q hl q => ?_⟩
  cases vs with
  | nil => cases hl
  | cons v vs => exact ⟨v, vs, rfl, gg vs _ H Q (by simpa using hl) q⟩
theorem ds_parN {es as : List Expr} {is : List Nat} {l : List Me} {pt pos pt2 : Pos} {kt k2} (hc : X.calm = true) (hp : DPs X es is) (ha : DM X T as l) (hl : is.length = l.length := by rfl) (hn : (assignEach es X.env).length = is.length := by rfl) (hst : (assignEach es X.env).findIdx? (·.1) = none := by rfl)
    (hs : swapsWithSole [.Tuple es kt pt] (.Tuple as k2 pt2) pos.line X.env = pure false := by rfl) (hw : swappedStores [.Tuple es kt pt] (.Tuple as k2 pt2) X.env = pure none := by rfl) (h1 : (assignEach [.Tuple es kt pt] X.env).map (·.2) = [assign (.Tuple es kt pt) X.env] := by rfl) (hsm : l.length ≤ 1000 := by decide) :
    DS X T (.Assign [.Tuple es kt pt] (.Tuple as k2 pt2) pos) (fPar is l) := by
  obtain ⟨g, pg, gg⟩ := hp.ex
  obtain ⟨ta, pa, ga⟩ := ha.ex
  refine ⟨_, ps_asg (pe_tup pa) (pg_tup hc pg hn hst) hs hw h1, fun B G0 H0 G H σ r o S e D m => ?_⟩
  unfold fPar at e
  cases e1 : fMs l r with
  | none => rw [e1] at e; cases e
  | some ss =>
    rw [e1] at e
    cases e
    have len : ∀ (l : List Me) (ss : List Sl), fMs l r = some ss → ss.length = l.length := by
      intro l
      induction l with
      | nil => intro ss h; cases h; rfl
      | cons a l ih =>
        intro ss h
        cases a with
        | v f =>
          unfold fMs at h
          cases h1 : f r with
          | none => rw [h1] at h; cases h
          | some d =>
            rw [h1] at h
            cases h2 : fMs l r with
            | none => rw [h2] at h; cases h
            | some s => rw [h2] at h; cases h; rw [List.length_cons, List.length_cons, ih s h2]
        | o f =>
          unfold fMs at h
          cases h1 : f r with
          | none => rw [h1] at h; cases h
          | some d =>
            rw [h1] at h
            cases h2 : fMs l r with
            | none => rw [h2] at h; cases h
            | some s => rw [h2] at h; cases h; rw [List.length_cons, List.length_cons, ih s h2]
    have hsl := len l ss e1
    refine ga G H σ r ss S.fits e1 _ fun vs G1 H1 n1 p1 => ?_
    have hvl := p1.length
    refine ⟨sz5 (by omega), fun p hp => ?_⟩
    refine ⟨p, vs, rfl, SqT.of upd_same, by omega, gg vs σ _ _ (by omega) ?_⟩
    have S1 := S.nx' n1
    have S2 := S1.grow (same_new (o := .tup vs) hp)
    have p2 : ∀ {vs' : List V} {ss' : List Sl}, RpM X.K T H G1 H1 vs' ss' → RpM X.K T H G1 (upd H1 p (.tup vs)) vs' ss' := by
      intro vs' ss' h
      induction h with
      | nil => exact .nil
      | v a t ih => exact .v a ih
      | o a b c d f t ih => exact .o a b (by rw [upd_ne (ne_of_none c hp)]; exact c) d f ih
    exact m G1 _ _ (S2.setM (is := is) S.nx.hh ((S.tr.inH.nx n1).nx ((Nx.refl S1.fits.gh).growH (same_new (o := .tup vs) hp))) (p2 p1) (S.apart p1) (by omega))

/-! ### if, return, expressions -/
def fIfS (c : Env → Option Bool) (a b : Env → Option Out) : Env → Option Out := fun r => match c (frzE r) with
  | some true => a r
  | some false => b r
  | none => none
theorem ds_if {c : Expr} {a b : List Stmt} {fc : Env → Option Bool} {fa fb : Env → Option Out} {pos : Pos} (hc : DT X T c fc) (ha : DSs X T a fa) (hb : DSs X T b fb) : DS X T (.If c a b pos) (fIfS fc fa fb) := by
  obtain ⟨tc, pc, gc⟩ := hc.ex
  obtain ⟨ta, pa, ga⟩ := ha.ex
  obtain ⟨tb, pb, gb⟩ := hb.ex
  refine ⟨_, ps_if pc pa pb, fun B G0 H0 G H σ r o S e D m => ?_⟩
  unfold fIfS at e
  split at e
  · rename_i e1
    refine gc H H σ (frzE r) _ S.fits.frz e1 _ fun G1 H1 n1 => ?_
    show (if true = true then ta D σ H1 else tb D σ H1)
    rw [if_pos rfl]
    exact ga B G0 H0 G H1 σ r o (S.grow n1.hh) e D m
  · rename_i e1
    refine gc H H σ (frzE r) _ S.fits.frz e1 _ fun G1 H1 n1 => ?_
    show (if false = true then ta D σ H1 else tb D σ H1)
    rw [if_neg Bool.false_ne_true]
    exact gb B G0 H0 G H1 σ r o (S.grow n1.hh) e D m
  · cases e
def fRet (f : Env → Option Dt) : Env → Option Out := fun r => (f r).map .rt
theorem ds_ret {e : Expr} {f : Env → Option Dt} {pos : Pos} (he : DE X T e f) : DS X T (.Return (some e) pos) (fRet f) := by
  obtain ⟨te, pe, ge⟩ := he.ex
  refine ⟨_, ps_ret pe, fun B G0 H0 G H σ r o S e D m => ?_⟩
  unfold fRet at e
  cases e1 : f r with
  | none => rw [e1] at e; cases e
  | some d =>
    rw [e1] at e
    cases e
    exact ge G H σ r d S.fits e1 _ fun v G1 H1 n1 p1 => m v G1 H1 (S.nx.trans n1) p1
def fRetN : Env → Option Out := fun _ => some (.rt .non)
theorem ds_retN {pos : Pos} : DS X T (.Return none pos) fRetN := ⟨_, ps_retN, fun B G0 H0 G H σ r o S e D m => by cases e; exact m .non G H S.nx .non⟩
def fDrop (f : Env → Option Dt) : Env → Option Out := fun r => (f r).map fun _ => .nx r
theorem ds_expr {e : Expr} {f : Env → Option Dt} {pos : Pos} (he : DE X T e f) (hs : swapsWith e none pos.line X.env = pure false := by rfl) : DS X T (.Expr e pos) (fDrop f) := by
  obtain ⟨te, pe, ge⟩ := he.ex
  refine ⟨_, ps_expr pe hs, fun B G0 H0 G H σ r o S e D m => ?_⟩
  unfold fDrop at e
  cases e1 : f r with
  | none => rw [e1] at e; cases e
  | some d =>
    rw [e1] at e
    cases e
    exact ge G H σ r d S.fits e1 _ fun v G1 H1 n1 p1 => m G1 H1 σ (S.nx' n1)
/-- x += e, whole numbers -/
def fAug (i : Nat) (f : Env → Option Dt) : Env → Option Out := fun r => match gV r i, f r with
  | some (.int a), some (.int b) => some (.nx (r.set i (.val (.int (a + b)))))
  | _, _ => none
theorem ds_aug (i : Nat) {x : Str} {e : Expr} {f : Env → Option Dt} {pos pos' : Pos} (hN : X.N.Nodup) (he : DE X T e f) (hi : X.N[i]? = some x := by rfl) (hx : Loc X.env.scope x := by first | exact .inl rfl | exact .inr rfl) (hf : X.fn x = true ∨ X.env.scope.names.lookup x = some .local := by first | exact .inl rfl | exact .inr rfl) :
    DS X T (.AugAssign (.Name x pos') .Add e pos) (fAug i f) := by
  obtain ⟨te, pe, ge⟩ := he.ex
  refine ⟨_, ps_aug hN hi hx pe ip_add hf, fun B G0 H0 G H σ r o S e D m => ?_⟩
  unfold fAug at e
  split at e
  · rename_i a b h1 h2
    cases e
    obtain ⟨v, e1, q1⟩ := S.fits.val i _ (gV_iff.mp h1)
    cases q1
    refine ⟨_, e1, ge G H σ r _ S.fits h2 _ fun w G1 H1 n1 p1 => ?_⟩
    cases p1
    exact ⟨a, b, rfl, rfl, m G1 H1 _ ((S.nx' n1).set (.int _))⟩
  · cases e
/-! ### own lists changed -/
def fApp (i : Nat) (f : Env → Option Dt) : Env → Option Out := fun r => match gO r i, f r with
  | some ds, some d => if ds.length ≤ 100000 then some (.nx (r.set i (.own (ds ++ [d])))) else none
  | _, _ => none
theorem ds_app (i : Nat) {x : Str} {e : Expr} {f : Env → Option Dt} {pos p1 apos cpos : Pos} (he : DE X T e f) (hi : X.N[i]? = some x := by rfl) (hv : Vis X.env.scope x := by first | exact Or.inl rfl | exact Or.inr (Or.inl rfl)) (hd : (x == ("__debug__" : Str)) = false := by decide +kernel) (hcd : (x == ("__classdict__" : Str)) = false := by decide +kernel)
    (hbase : attributeBase (.Name x p1) "append" X.env (eval (.Name x p1) X.env) = eval (.Name x p1) X.env := by rfl)
    (hfew : ((backTo cpos (starEach (e :: []) X.env)).all (fun x => !x.1) && (backToKw cpos (keywordEach [] X.env)).all (fun x => x.1.isSome) && decide ((e :: ([] : List Expr)).length + ([] : List Keyword).length + (if ([] : List Keyword).isEmpty then 0 else 1) < 30)) = true := by rfl)
    (hline : (apos.endLine == cpos.line) = true := by rfl) (hs : starEach (e :: []) X.env = (false, eval e X.env) :: starEach [] X.env := by rfl) (hplain : (backTo cpos (starEach [] X.env)).any (·.1) = false := by rfl)
    (hsw : swapsWith (.Call (.Attribute (.Name x p1) "append" apos) [e] [] cpos) none pos.line X.env = pure false := by rfl) : DS X T (.Expr (.Call (.Attribute (.Name x p1) "append" apos) [e] [] cpos) pos) (fApp i f) := by
  obtain ⟨te, pe, ge⟩ := he.ex
  refine ⟨_, ps_expr (pe_bm PySem.F.plainAttrs_list PySem.F.slot_list_append PySem.F.type_list_append mt_append (pe_var hi hv hd hcd) (pa_cons pe pa_nil hs) hbase hfew hline hs hplain) hsw, fun B G0 H0 G H σ r o S e D m => ?_⟩
  unfold fApp at e
  split at e
  · rename_i ds d h1 h2
    obtain ⟨hc, e⟩ := ite_opt e
    cases e
    have hr := gO_iff.mp h1
    obtain ⟨p, vs, hσ, hg, hh, q⟩ := S.fits.own i ds hr
    refine ⟨.ref p, hσ, .inl ⟨rfl, vs, SqL.of hh⟩, ?_⟩
    refine ge G H σ r d S.fits h2 _ fun w G1 H1 n1 p1 => ?_
    have S1 := S.nx' n1
    have hh1 := n1.hh _ _ hh
    refine ⟨p, vs, w, rfl, rfl, hh1, ?_, m G1 _ _ (S1.mutOwn (vs := vs) hr hσ ((RpA.mono n1.gg ds q).append (.cons p1 .nil)))⟩
    rw [q.length]
    exact Nat.lt_of_le_of_lt hc (by decide)
  · cases e
def fExt (i : Nat) (f : Env → Option Dt) : Env → Option Out := fun r => match gO r i, f r with
  | some ds, some (.lst es) => if ds.length + es.length ≤ 100000 then some (.nx (r.set i (.own (ds ++ es)))) else none
  | _, _ => none
theorem ds_ext (i : Nat) {x : Str} {e : Expr} {f : Env → Option Dt} {pos p1 apos cpos : Pos} (he : DE X T e f) (hi : X.N[i]? = some x := by rfl) (hv : Vis X.env.scope x := by first | exact Or.inl rfl | exact Or.inr (Or.inl rfl)) (hd : (x == ("__debug__" : Str)) = false := by decide +kernel) (hcd : (x == ("__classdict__" : Str)) = false := by decide +kernel)
    (hbase : attributeBase (.Name x p1) "extend" X.env (eval (.Name x p1) X.env) = eval (.Name x p1) X.env := by rfl)
    (hfew : ((backTo cpos (starEach (e :: []) X.env)).all (fun x => !x.1) && (backToKw cpos (keywordEach [] X.env)).all (fun x => x.1.isSome) && decide ((e :: ([] : List Expr)).length + ([] : List Keyword).length + (if ([] : List Keyword).isEmpty then 0 else 1) < 30)) = true := by rfl)
    (hline : (apos.endLine == cpos.line) = true := by rfl) (hs : starEach (e :: []) X.env = (false, eval e X.env) :: starEach [] X.env := by rfl) (hplain : (backTo cpos (starEach [] X.env)).any (·.1) = false := by rfl)
    (hsw : swapsWith (.Call (.Attribute (.Name x p1) "extend" apos) [e] [] cpos) none pos.line X.env = pure false := by rfl) : DS X T (.Expr (.Call (.Attribute (.Name x p1) "extend" apos) [e] [] cpos) pos) (fExt i f) := by
  obtain ⟨te, pe, ge⟩ := he.ex
  refine ⟨_, ps_expr (pe_bm PySem.F.plainAttrs_list PySem.F.slot_list_extend PySem.F.type_list_extend mt_extend (pe_var hi hv hd hcd) (pa_cons pe pa_nil hs) hbase hfew hline hs hplain) hsw, fun B G0 H0 G H σ r o S e D m => ?_⟩
  unfold fExt at e
  split at e
  · rename_i ds es h1 h2
    obtain ⟨hc, e⟩ := ite_opt e
    cases e
    have hr := gO_iff.mp h1
    obtain ⟨p, vs, hσ, hg, hh, q⟩ := S.fits.own i ds hr
    refine ⟨.ref p, hσ, .inl ⟨rfl, vs, SqL.of hh⟩, ?_⟩
    refine ge G H σ r _ S.fits h2 _ fun w G1 H1 n1 p1 => ?_
    have S1 := S.nx' n1
    have hh1 := n1.hh _ _ hh
    cases p1 with
    | @lst b ws _ a1 a2 =>
      refine ⟨p, b, vs, ws, rfl, rfl, hh1, n1.gh _ _ a1, by rw [q.length, a2.length]; exact sz5 hc, m G1 _ _ (S1.mutOwn (vs := vs) hr hσ ((RpA.mono n1.gg ds q).append a2))⟩
  · cases e
/-- xs[i] = e, xs an own list -/
def fSetIx (i : Nat) (f g : Env → Option Dt) : Env → Option Out := fun r => match f r, gO r i, g r with
  | some d, some ds, some (.int k) => (ixN ds.length k).map fun j => .nx (r.set i (.own (ds.set j d)))
  | _, _, _ => none
theorem ds_setIx (i : Nat) {x : Str} {e k : Expr} {f g : Env → Option Dt} {pos p1 spos : Pos} (he : DE X T e f) (hk : DE X T k g) (hi : X.N[i]? = some x := by rfl) (hv : Vis X.env.scope x := by first | exact Or.inl rfl | exact Or.inr (Or.inl rfl)) (hd : (x == ("__debug__" : Str)) = false := by decide +kernel) (hcd : (x == ("__classdict__" : Str)) = false := by decide +kernel)
    (ha : ∀ v, assign (.Subscript (.Name x p1) k spos) X.env v = (do
      let ov ← holding [v] (eval (.Name x p1) X.env)
      let iv ← holding [v, ov] (eval k X.env)
      standAt spos
      holding [v, ov, iv] (setItem ov iv v)
      release [v, ov, iv] []) := by intro _; rfl)
    (hs : swapsWithSole [.Subscript (.Name x p1) k spos] e pos.line X.env = pure false := by rfl) (hw : swappedStores [.Subscript (.Name x p1) k spos] e X.env = pure none := by rfl) (h1 : (assignEach [.Subscript (.Name x p1) k spos] X.env).map (·.2) = [assign (.Subscript (.Name x p1) k spos) X.env] := by rfl) :
    DS X T (.Assign [.Subscript (.Name x p1) k spos] e pos) (fSetIx i f g) := by
  obtain ⟨te, pe, ge⟩ := he.ex
  obtain ⟨tk, pk, gk⟩ := hk.ex
  refine ⟨_, ps_asg pe (pg_sub (pe_var hi hv hd hcd) pk set_list ha) hs hw h1, fun B G0 H0 G H σ r o S e D m => ?_⟩
  unfold fSetIx at e
  split at e
  · rename_i d ds k h1 h2 h3
    cases e1 : ixN ds.length k with
    | none => rw [e1] at e; cases e
    | some j =>
      rw [e1] at e
      cases e
      have hr := gO_iff.mp h2
      obtain ⟨p, vs, hσ, hg, hh, q⟩ := S.fits.own i ds hr
      refine ge G H σ r d S.fits h1 _ fun w G1 H1 n1 p1 => ?_
      refine ⟨.ref p, hσ, gk G1 H1 σ r _ (S.fits.nx n1) h3 _ fun u G2 H2 n2 p2 => ?_⟩
      cases p2
      have n := n1.trans n2
      exact ⟨p, vs, k, j, rfl, rfl, n.hh _ _ hh, by rw [q.length]; exact e1, m G2 _ _ ((S.nx' n).mutOwn (vs := vs) hr hσ (RpA.set (Rp.mono n2.gg d p1) j (RpA.mono n.gg ds q)))⟩
  · cases e
/-- x = xs.pop(k), xs an own list -/
def fPopAt (j i : Nat) (g : Env → Option Dt) : Env → Option Out := fun r => match gO r i, g r with
  | some ds, some (.int k) => (match seqIndex? k ds.length with
    | some m => if -1000000 ≤ k ∧ k ≤ 1000000 then (ds[m]?).map fun d => .nx ((r.set i (.own (ds.eraseIdx m))).set j (.val d)) else none
    | none => none)
  | _, _ => none
theorem ds_popAt (j i : Nat) {x y : Str} {e : Expr} {g : Env → Option Dt} {pos py p1 apos cpos : Pos} (hN : X.N.Nodup) (he : DE X T e g) (hi : X.N[i]? = some x := by rfl) (hj : X.N[j]? = some y := by rfl) (hy : Loc X.env.scope y := by first | exact .inl rfl | exact .inr rfl) (hf : X.fn y = true ∨ X.env.scope.names.lookup y = some .local := by first | exact .inl rfl | exact .inr rfl)
    (hv : Vis X.env.scope x := by first | exact Or.inl rfl | exact Or.inr (Or.inl rfl)) (hd : (x == ("__debug__" : Str)) = false := by decide +kernel) (hcd : (x == ("__classdict__" : Str)) = false := by decide +kernel)
    (hbase : attributeBase (.Name x p1) "pop" X.env (eval (.Name x p1) X.env) = eval (.Name x p1) X.env := by rfl)
    (hfew : ((backTo cpos (starEach (e :: []) X.env)).all (fun x => !x.1) && (backToKw cpos (keywordEach [] X.env)).all (fun x => x.1.isSome) && decide ((e :: ([] : List Expr)).length + ([] : List Keyword).length + (if ([] : List Keyword).isEmpty then 0 else 1) < 30)) = true := by rfl)
    (hline : (apos.endLine == cpos.line) = true := by rfl) (hs : starEach (e :: []) X.env = (false, eval e X.env) :: starEach [] X.env := by rfl) (hplain : (backTo cpos (starEach [] X.env)).any (·.1) = false := by rfl)
    (hsw : swapsWith (.Call (.Attribute (.Name x p1) "pop" apos) [e] [] cpos) (some (.Name y py)) pos.line X.env = pure false := by rfl) : DS X T (.Assign [.Name y py] (.Call (.Attribute (.Name x p1) "pop" apos) [e] [] cpos) pos) (fPopAt j i g) := by
  obtain ⟨te, pe, ge⟩ := he.ex
  refine ⟨_, ps_set hN hj hy (pe_bm PySem.F.plainAttrs_list PySem.F.slot_list_pop PySem.F.type_list_pop mt_popAt (pe_var hi hv hd hcd) (pa_cons pe pa_nil hs) hbase hfew hline hs hplain) hsw hf, fun B G0 H0 G H σ r o S e D m => ?_⟩
  unfold fPopAt at e
  split at e
  · rename_i ds k h1 h2
    split at e
    · rename_i n e1
      obtain ⟨hc, e⟩ := ite_opt e
      cases e2 : ds[n]? with
      | none => rw [e2] at e; cases e
      | some d =>
        rw [e2] at e
        cases e
        have hr := gO_iff.mp h1
        obtain ⟨p, vs, hσ, hg, hh, q⟩ := S.fits.own i ds hr
        refine ⟨.ref p, hσ, .inl ⟨rfl, vs, SqL.of hh⟩, ?_⟩
        refine ge G H σ r _ S.fits h2 _ fun w G1 H1 n1 p1 => ?_
        cases p1
        have S1 := S.nx' n1
        have hh1 := n1.hh _ _ hh
        have q1 := RpA.mono n1.gg ds q
        obtain ⟨v, hv, rv⟩ := q1.get e2
        refine ⟨p, vs, k, n, v, rfl, rfl, hh1, by omega, by omega, by rw [q.length]; exact e1, hv, m G1 _ _ ((S1.mutOwn (vs := vs) hr hσ (q1.eraseIdx n)).set rv)⟩
    · cases e
  · cases e
/-! ### loops -/
def loopF (t : Dt → Env → Option Env) (b : Env → Option Out) : List Dt → Env → Option Out
  | [], r => some (.nx r)
  | x :: xs, r => match t x r with
    | none => none
    | some r1 => match b r1 with
      | some (.nx r2) => loopF t b xs r2
      | some (.ct r2) => loopF t b xs r2
      | some (.bk r2) => some (.nx r2)
      | some (.rt d) => some (.rt d)
      | none => none
def fFor (f : Env → Option (List Dt)) (t : Dt → Env → Option Env) (b : Env → Option Out) : Env → Option Out := fun r => (f r).bind fun items => loopF t b items r
theorem ds_for {tg iter : Expr} {body : List Stmt} {f : Env → Option (List Dt)} {t : Dt → Env → Option Env} {b : Env → Option Out} {pos : Pos} (hp : PassesOwn (model X.prog X.w) X.A X.env X.xe) (hc : X.calm = true) (hi : DI X T tg iter f) (hg : DG X T tg t) (hb : DSs X T body b) (hs : ∀ x, foldedSetIterable iter X.env x = pure x := by intro _; rfl) :
    DS X T (.For tg iter body [] pos) (fFor f t b) := by
  obtain ⟨ti, pi, gi⟩ := hi.ex
  obtain ⟨g, pg, gg⟩ := hg.ex
  obtain ⟨tb, pb, gb⟩ := hb.ex
  refine ⟨_, ps_for hp hc pi pg pb hs, fun B G0 H0 G H σ r o S e D m => ?_⟩
  unfold fFor at e
  cases e1 : f r with
  | none => rw [e1] at e; cases e
  | some items =>
    rw [e1] at e
    replace e : loopF t b items r = some o := e
    refine gi G H σ r items S.fits e1 _ fun J G1 H1 n1 ok => ?_
    have S1 : St1 X.K T G1 G0 H0 G1 H1 σ r := ⟨S.fits.nx n1, Same.refl _, S.nx.trans n1, S.ow, S.tr.nx n1⟩
    have down : ∀ {G2 H2 : Hp} {σ2 : L2.St} {r2 : Env}, St1 X.K T G1 G0 H0 G2 H2 σ2 r2 → St1 X.K T B G0 H0 G2 H2 σ2 r2 := fun S2 => ⟨S2.fits, S.base.trans (n1.gg.trans S2.base), S2.nx, S2.ow, S2.tr⟩
    refine ⟨fun i n σ' H' => n = items.length - i ∧ i ≤ items.length ∧ ∃ G' r', St1 X.K T G1 G0 H0 G' H' σ' r' ∧ loopF t b (items.drop i) r' = some o, ⟨items.length, by simp, Nat.zero_le _, G1, r, S1, by simpa using e⟩, ?_⟩
    rintro i n σ' H' ⟨rfl, hi', G', r', S', hl⟩
    have e1G : Same G1 H' := S'.base.trans S'.fits.gh
    by_cases hlt : i < items.length
    · refine .inr ⟨ok.goes i H' hlt e1G, fun σ2 H2 => ∃ G2 r2, St1 X.K T G1 G0 H0 G2 H2 σ2 r2 ∧ loopF t b (items.drop (i + 1)) r2 = some o, fun σ2 H2 w => ⟨items.length - (i + 1), by omega, rfl, hlt, w⟩, fun x H2 y => ?_⟩
      rw [List.drop_eq_getElem_cons hlt] at hl
      obtain ⟨G2, n2, rx⟩ := ok.yields i H' x H2 items[i] (List.getElem?_eq_getElem hlt) e1G y G' S'.base S'.fits.gh
      unfold loopF at hl
      split at hl
      · cases hl
      · rename_i r1 ht
        refine gg G1 G0 H0 G2 H2 σ' r' x items[i] r1 (S'.nx' n2) rx ht _ fun G3 H3 σ3 S3 => ?_
        split at hl
        · rename_i r2 hb2
          exact gb G1 G0 H0 G3 H3 σ3 r1 _ S3 hb2 _ fun G4 H4 σ4 S4 => ⟨G4, r2, S4, hl⟩
        · rename_i r2 hb2
          exact gb G1 G0 H0 G3 H3 σ3 r1 _ S3 hb2 _ fun G4 H4 σ4 S4 => ⟨G4, r2, S4, hl⟩
        · rename_i r2 hb2
          cases hl
          exact gb G1 G0 H0 G3 H3 σ3 r1 _ S3 hb2 _ fun G4 H4 σ4 S4 => m G4 H4 σ4 (down S4)
        · rename_i d hb2
          cases hl
          exact gb G1 G0 H0 G3 H3 σ3 r1 _ S3 hb2 _ m
        · cases hl
    · have e : i = items.length := by omega
      subst e
      rw [List.drop_length] at hl
      cases hl
      exact .inl ⟨ok.stops H' e1G, m G' H' σ' (down S')⟩
def whileF (c : Env → Option Bool) (b : Env → Option Out) : Nat → Env → Option Out
  | 0, _ => none
  | n + 1, r => match c (frzE r) with
    | some true => (match b r with
      | some (.nx r2) => whileF c b n r2
      | some (.ct r2) => whileF c b n r2
      | some (.bk r2) => some (.nx r2)
      | some (.rt d) => some (.rt d)
      | none => none)
    | some false => some (.nx r)
    | none => none
theorem ds_while (n : Nat) {c : Expr} {body : List Stmt} {fc : Env → Option Bool} {b : Env → Option Out} {pos : Pos} (hp : PassesOwn (model X.prog X.w) X.A X.env X.xe) (hc : DT X T c fc) (hb : DSs X T body b) : DS X T (.While c body [] pos) (whileF fc b n) := by
  obtain ⟨tc, pc, gc⟩ := hc.ex
  obtain ⟨tb, pb, gb⟩ := hb.ex
  refine ⟨_, ps_while hp pc pb, fun B G0 H0 G H σ r o S e D m => ?_⟩
  refine ⟨fun k σ' H' => ∃ G' r', St1 X.K T B G0 H0 G' H' σ' r' ∧ whileF fc b k r' = some o, ⟨n, G, r, S, e⟩, ?_⟩
  rintro k σ' H' ⟨G', r', S', hl⟩
  cases k with
  | zero => cases hl
  | succ k =>
    unfold whileF at hl
    split at hl
    · rename_i h1
      refine gc H' H' σ' (frzE r') _ S'.fits.frz h1 _ fun G1 H1 n1 => ?_
      show (if true = true then _ else _)
      rw [if_pos rfl]
      have S1 := S'.grow n1.hh
      refine ⟨fun σ2 H2 => ∃ G2 r2, St1 X.K T B G0 H0 G2 H2 σ2 r2 ∧ whileF fc b k r2 = some o, fun σ2 H2 w => ⟨k, Nat.lt_succ_self k, w⟩, ?_⟩
      split at hl
      · rename_i r2 h2
        exact gb B G0 H0 G' H1 σ' r' _ S1 h2 _ fun G4 H4 σ4 S4 => ⟨G4, r2, S4, hl⟩
      · rename_i r2 h2
        exact gb B G0 H0 G' H1 σ' r' _ S1 h2 _ fun G4 H4 σ4 S4 => ⟨G4, r2, S4, hl⟩
      · rename_i r2 h2
        cases hl
        exact gb B G0 H0 G' H1 σ' r' _ S1 h2 _ fun G4 H4 σ4 S4 => m G4 H4 σ4 S4
      · rename_i d h2
        cases hl
        exact gb B G0 H0 G' H1 σ' r' _ S1 h2 _ m
      · cases hl
    · rename_i h1
      cases hl
      refine gc H' H' σ' (frzE r') _ S'.fits.frz h1 _ fun G1 H1 n1 => ?_
      show (if false = true then _ else _)
      rw [if_neg Bool.false_ne_true]
      exact m G' H1 σ' (S'.grow n1.hh)
    · cases hl

/-! ### defs -/
def runF (n m : Nat) (g : Env → Option Out) (ds : List Dt) : Option Dt := if ds.length = n then
    (match g (ds.map Sl.val ++ List.replicate m Sl.no) with
      | some (.rt d) => some d
      | some (.nx _) => some .non
      | _ => none)
  else none
def spF (K : PySem.W.Frag) (T : CT) (n : Nat) (f : List Dt → Option Dt) : Sp := fun vs H Q _ => vs.length = n ∧ ∃ G ds d, Same G H ∧ RpA K T G vs ds ∧ f ds = some d ∧ ∀ v G' H', Nx G H G' H' → Rp K T G' v d → Q v H'
theorem entry {N : List Str} {vs : List V} {ds : List Dt} {m : Nat} (e : Same G H) (q : RpA K T G vs ds) (hl : N.length = ds.length + m) : St1 K T G G H G H (start N vs) (ds.map Sl.val ++ List.replicate m Sl.no) := by
  have hq := q.length
  have no_own : ∀ (i : Nat) (es : List Dt), (ds.map Sl.val ++ List.replicate m Sl.no)[i]? ≠ some (.own es) := fun i es h => by
    by_cases hi : i < ds.length
    · rw [List.getElem?_append_left (by simpa using hi), List.getElem?_map] at h
      rw [List.getElem?_eq_getElem hi] at h
      cases h
    · rw [List.getElem?_append_right (by simpa using hi), List.getElem?_replicate] at h
      split at h <;> cases h
  have no_tre : ∀ (i : Nat) (t : OT), (ds.map Sl.val ++ List.replicate m Sl.no)[i]? ≠ some (Sl.tre t) := fun i t h => by
    have hm := List.mem_of_getElem? h
    simp at hm
  refine ⟨⟨e, ?_, fun i d h => ?_, fun i es h => absurd h (no_own i es), fun i j es fs p h => absurd h (no_own i es), Tr.nil no_tre⟩, Same.refl G, Nx.refl e, fun i es p h => absurd h (no_own i es), Tr.nil no_tre⟩
  · unfold L2.start
    simp only [List.length_append, List.length_map, List.length_replicate]
    omega
  · by_cases hi : i < ds.length
    · rw [List.getElem?_append_left (by simpa using hi), List.getElem?_map] at h
      rw [List.getElem?_eq_getElem hi] at h
      cases h
      obtain ⟨v, hv, rv⟩ := q.get (List.getElem?_eq_getElem hi)
      refine ⟨v, ?_, rv⟩
      unfold L2.start
      rw [List.getElem?_append_left (by rw [List.length_map]; omega), List.getElem?_map, hv]
      rfl
    · rw [List.getElem?_append_right (by simpa using hi), List.getElem?_replicate] at h
      split at h <;> cases h
section
variable {P : Program} {w : World} {mg : Str → Option Value} {base : Heap}
theorem okF {x qual : Str} {st : Stmt} {f : Addr} {fd : FuncData} {N ps : List Str} {k m : Nat} {g : Env → Option Out} (F : Fun K x qual st f fd) (S : FnScope N ps (defScope st)) (hm : N.length = ps.length + m)
    (hb : ∀ (cdv : Value) (A : Around) (os : List PySem.Env) (s : Shared) (H : Hp) (E : XK), Room k (A.deeper (envOfC qual (defScope st) s.heap.objs.size f cdv)) → DSs (cxOf CX0 P w K mg base N qual (defScope st) f cdv A os s H E).nox T (defBody st) g) :
    FnOk P w K mg base CX0 (k + 1) f fd ps (spF K T ps.length (runF ps.length m g)) := by
  refine F.ok S (fun vs H Q E h => h.1) (fun cdv A outer s H vs Q E hr h => ?_)
  obtain ⟨hl, G, ds, d, gh, q, hd, k⟩ := h
  obtain ⟨t, p, gs⟩ := (hb cdv A outer s H E hr).ex
  refine ⟨t, p, ?_⟩
  have hq := q.length
  unfold runF at hd
  rw [if_pos (show ds.length = ps.length by omega)] at hd
  have S0 := entry (N := N) (m := m) gh q (by omega)
  split at hd
  · rename_i d' e
    cases hd
    exact gs G G H G H _ _ _ S0 e _ fun v G' H' n r => k v G' H' n r
  · rename_i r' e
    cases hd
    exact gs G G H G H _ _ _ S0 e _ fun G' H' σ' S' => k .non G' H' S'.nx .non
  · cases hd
/-- a def that may be called -/
structure Callee (P : Program) (w : World) (K : PySem.W.Frag) (mg : Str → Option Value) (base : Heap) (T : CT) (k : Nat) (x : Str) (g : List Dt → Option Dt) : Prop where
  ex : ∃ (f : Addr) (fd : FuncData) (ps : List Str) (n : Nat), FnOk P w K mg base CX0 k f fd ps (spF K T n g) ∧ mg x = some (.ref f) ∧ PySem.W.keepIn K (.ref f) = true ∧ Binds K fd ps [] ∧ ∀ ds d, g ds = some d → ds.length = n
theorem callee_of {x qual y : Str} {st : Stmt} {f : Addr} {fd : FuncData} {ps : List Str} {k n m : Nat} {g : Env → Option Out} (F : Fun K y qual st f fd) (O : FnOk P w K mg base CX0 k f fd ps (spF K T n (runF n m g))) (hm : mg x = some (.ref f)) (hb : Binds K fd ps []) : Callee P w K mg base T k x (runF n m g) :=
  ⟨f, fd, ps, n, O, hm, F.kp, hb, fun ds d h => (ite_opt (by unfold runF at h; exact h)).1⟩
end
theorem de_call {x : Str} {k : Nat} {g : List Dt → Option Dt} {p pos : Pos} {e : Expr} {es : List Expr} {fa : Env → Option (List Dt)} (C : Callee X.prog X.w X.K X.mg X.base T k x g) (hr : Room k X.A) (ha : DA X T (e :: es) fa) (hg : Gl X x := by rfl)
    (hdb : (x == ("__debug__" : Str)) = false := by decide +kernel) (he : starEach (e :: es) X.env = (false, eval e X.env) :: starEach es X.env := by rfl) (hpl : (backTo pos (starEach es X.env)).any (·.1) = false := by rfl) : DE X T (.Call (.Name x p) (e :: es) [] pos) (fCall g fa) := by
  obtain ⟨f, fd, ps, n, O, hm, hk, hb, hn⟩ := C.ex
  obtain ⟨ta, pa, ga⟩ := ha.ex
  refine ⟨_, pe_call (E := E0) O hr hg hm hk hb .nil pass0 pa hdb he hpl, fun G H σ r d F h Q q => ?_⟩
  unfold fCall at h
  cases e1 : fa r with
  | none => rw [e1] at h; cases h
  | some ds =>
    rw [e1] at h
    replace h : g ds = some d := h
    refine ga G H σ r ds F e1 _ fun vs G1 H1 n1 p1 => ?_
    rw [List.append_nil]
    exact ⟨by rw [p1.length]; exact hn ds d h, G1, ds, d, n1.gh, p1, h, fun v G2 H2 n2 p2 => q v G2 H2 (n1.trans n2) p2⟩
theorem de_call0 {x : Str} {k : Nat} {g : List Dt → Option Dt} {p pos : Pos} (C : Callee X.prog X.w X.K X.mg X.base T k x g) (hr : Room k X.A) (hg : Gl X x := by rfl) (hdb : (x == ("__debug__" : Str)) = false := by decide +kernel) : DE X T (.Call (.Name x p) [] [] pos) (fun _ => g []) := by
  obtain ⟨f, fd, ps, n, O, hm, hk, hb, hn⟩ := C.ex
  refine ⟨_, pe_call0 (E := E0) O hr hg hm hk hb .nil pass0 hdb, fun G H σ r d F h Q q => ?_⟩
  show spF X.K T n g ([] ++ []) H Q E0
  exact ⟨hn [] d h, G, [], d, F.gh, .nil, h, fun v G2 H2 n2 p2 => q v G2 H2 n2 p2⟩
end
end PL

/-! Constants of the module; own classes made. -/
namespace PL
open PySem PySem.Spec PyProof.Rows L2
section
variable {X : Cx} {T : CT} {K : PySem.W.Frag} {mg : Str → Option Value}
/-- a name of the module is worth that data -/
def GlobIs (K : PySem.W.Frag) (T : CT) (mg : Str → Option Value) (x : Str) (d : Dt) : Prop := ∃ v u, mg x = some u ∧ RelV v u ∧ ∀ G, Rp K T G v d
theorem de_gl {x : Str} {d : Dt} {pos : Pos} (h : GlobIs X.K T X.mg x d) (hg : Gl X x := by rfl) (hdb : (x == ("__debug__" : Str)) = false := by decide +kernel) : DE X T (.Name x pos) (fC d) := by
  obtain ⟨v, u, hm, r, hd⟩ := h
  exact de_glob hm r hd hg hdb
theorem glob_int {x : Str} {i : Int} {t : Tok} (h : mg x = some (.int i t)) : GlobIs K T mg x (.int i) := ⟨.int i, _, h, ⟨t, rfl⟩, fun _ => .int i⟩
theorem glob_str {x s : Str} {t : Tok} (l : List Nat) (h : mg x = some (.str s t)) (hs : s = ⟨l.toArray⟩) : GlobIs K T mg x (.str l) := by
  subst hs
  exact ⟨.str _, _, h, ⟨t, rfl⟩, fun _ => .str l⟩
def valD : Value → Option (V × Dt)
  | .int i _ => some (.int i, .int i)
  | .str x _ => some (.str ⟨x.cps.toList.toArray⟩, .str x.cps.toList)
  | _ => none
def valsD : List Value → Option (List V × List Dt)
  | [] => some ([], [])
  | u :: us => match valD u, valsD us with
    | some (v, d), some (vs, ds) => some (v :: vs, d :: ds)
    | _, _ => none
theorem valD_ok {u : Value} {v : V} {d : Dt} (h : valD u = some (v, d)) : RelV v u ∧ ∀ H, Rp K T H v d := by
  cases u with
  | int i t => cases h; exact ⟨⟨_, rfl⟩, fun _ => .int _⟩
  | str s t =>
    cases h
    refine ⟨⟨t, ?_⟩, fun _ => .str _⟩
    have : (⟨s.cps.toList.toArray⟩ : Str) = s := by cases s; simp
    rw [this]
  | _ => cases h
theorem valsD_ok : ∀ {us : List Value} {vs : List V} {ds : List Dt}, valsD us = some (vs, ds) → Vals vs us ∧ ∀ H, RpA K T H vs ds
  | [], _, _, h => by cases h; exact ⟨.nil, fun _ => .nil⟩
  | u :: us, vs, ds, h => by
    unfold valsD at h
    split at h
    · rename_i v d vs' ds' h1 h2
      cases h
      obtain ⟨a, b⟩ := valD_ok (K := K) (T := T) h1
      obtain ⟨c, e⟩ := valsD_ok h2
      exact ⟨.cons a c, fun H => .cons (b H) (e H)⟩
    · cases h
theorem glob_tup {x : Str} {a : Addr} {dd : Option Addr} {its : Array Value} {n : Nat} {sl : Array (Option Value)} {vs : List V} {ds : List Dt} (h : mg x = some (.ref a)) (l : K.lookup a = some ⟨.type "tuple", dd, .seq its n, sl⟩) (hv : valsD its.toList = some (vs, ds)) (hs : ds.length ≤ 1000) (hi : ∀ n l, ds ≠ .int n :: l := by intro n l h; cases h) : GlobIs K T mg x (.tup ds) := by
  obtain ⟨c, e⟩ := valsD_ok (K := K) (T := T) hv
  have el := (e fun _ => none).length
  have cl := c.length
  refine ⟨.ref a, _, h, rfl, fun G => .tup (.inr ⟨_, its, n, l, rfl, rfl, ?_, c⟩) (e G) (fun n ns z => by
    have q := e G
    rw [z] at q
    cases q with
    | cons q1 q2 => cases q1; exact absurd rfl (hi _ _))⟩
  have : its.size = its.toList.length := by simp
  exact sz5 (by omega)
theorem room65 {k : Nat} {A : Around} (h : Room k A) : A.units + 65 < cLine := by have := h.un; omega

/-! ### a new object: its __init__ stores its fields -/
/-- how the heap grows while the object at x is filled -/
structure NxB (x : Addr) (G H G' H' : Hp) : Prop where
  gg : Same G G'
  hh : ∀ b o, b ≠ x → H b = some o → H' b = some o
  gh : Same G' H'
  fr : ∀ a, G' a = none ∨ G a ≠ none ∨ Nw H a
def GIn (K : PySem.W.Frag) (T : CT) (c : Nat) (ts : TS) (names : List Str) (g : Env → Option (List Dt)) : Prop :=
  ∀ (G H : Hp) (σ : L2.St) (r : Env) (es : List Dt) (x dx : Addr) (fs : List (Str × V)), Fits K T G H σ r → (∀ (i : Nat) (ds : List Dt), r[i]? ≠ some (Sl.own ds)) → (∀ (i : Nat) (t : OT), r[i]? ≠ some (Sl.tre t)) → σ[0]? = some (some (.ref x)) → G x = none → H x = some (.ins (T c).1 dx fs) → (fs.map Prod.fst ++ names).Nodup → fs.length + names.length < 1000 → g r = some es →
    ∀ D : Ends, (∀ G' H' vs, NxB x G H G' H' → G' x = none → H' x = some (.ins (T c).1 dx (fs ++ names.zip vs)) → RpA K T G' vs es → vs.length = names.length → D.nx σ H') → ts D σ H
structure DIn (X : Cx) (T : CT) (c : Nat) (sts : List Stmt) (names : List Str) (g : Env → Option (List Dt)) : Prop where
  ex : ∃ ts, PSs X sts ts ∧ GIn X.K T c ts names g
theorem putF_new {f : Str} {v : V} : ∀ {fs : List (Str × V)}, f ∉ fs.map Prod.fst → putF f v fs = fs ++ [(f, v)]
  | [], _ => rfl
  | (g, w) :: fs, h => by
    have h1 : ¬ g = f := fun e => h (by rw [e]; exact List.mem_cons_self)
    have h2 : f ∉ fs.map Prod.fst := fun m => h (List.mem_cons_of_mem _ m)
    unfold putF
    rw [if_neg h1, putF_new h2]
    rfl
theorem gin_one {c : Nat} {f : Str} {tv ta : TE} {e : Env → Option Dt} (hv : GE K T tv e) (ha : ta = tVar 0) (cl : Cls K (T c).1) (na : NoAttr K (T c).1 f) {ts : TS} {names : List Str} {g : Env → Option (List Dt)} (ht : GIn K T c ts names g) : GIn K T c (tSeq (sFld K ta tv f) ts) (f :: names) (fun r => (e r).bind fun d => (g r).map fun ds => d :: ds) := fun G H σ r es x dx fs F no not hs hG hx nd hl he D k => by
  subst ha
  dsimp only at he
  cases e1 : e r with
  | none => rw [e1] at he; cases he
  | some d =>
    rw [e1] at he
    replace he : (g r).map (fun ds => d :: ds) = some es := he
    cases e2 : g r with
    | none => rw [e2] at he; cases he
    | some ds =>
      rw [e2] at he
      cases he
      have nf : f ∉ fs.map Prod.fst := fun m => by
        rw [List.nodup_append] at nd
        exact nd.2.2 f m f List.mem_cons_self rfl
      refine hv G H σ r d F e1 _ fun y G1 H1 n1 q1 => ?_
      refine ⟨.ref x, hs, x, _, dx, fs, rfl, n1.hh _ _ hx, cl, na, by rw [List.length_cons] at hl; omega, ?_⟩
      rw [putF_new nf]
      have hG1 : G1 x = none := n1.out hG hx
      have F1 : Fits K T G1 (upd H1 x (.ins (T c).1 dx (fs ++ [(f, y)]))) σ r := ⟨same_updR n1.gh hG1, F.len, (F.nx n1).val, fun i ds h => absurd h (no i ds), F.sep, Tr.nil not⟩
      refine ht G1 _ σ r ds x dx (fs ++ [(f, y)]) F1 no not hs hG1 upd_same (by rw [List.map_append, List.append_assoc]; exact nd) (by rw [List.length_append, List.length_singleton]; rw [List.length_cons] at hl; omega) e2 _ fun G2 H2 vs n2 g2 h2 q2 l2 => ?_
      refine k G2 H2 (y :: vs) ⟨n1.gg.trans n2.gg, fun b o hb h => n2.hh b o hb (by rw [upd_ne hb]; exact n1.hh _ _ h), n2.gh, fun a => ?_⟩ g2 ?_ (.cons (Rp.mono n2.gg d q1) q2) (by rw [List.length_cons, List.length_cons, l2])
      · rcases n2.fr a with h | h | h
        · exact .inl h
        · rcases n1.fr a with q | q | q
          · exact absurd q h
          · exact .inr (.inl q)
          · exact .inr (.inr q)
        · exact .inr (.inr ((h.upd (fun _ z => by cases z)).2.back n1.hh))
      · rw [h2, List.append_assoc]
        rfl
theorem din_nil {c : Nat} : DIn X T c [] [] (fun _ => some []) := ⟨_, pss_nil, fun G H σ r es x dx fs F no not hs hG hx nd hl he D k => by
  cases he
  exact k G H [] ⟨Same.refl G, fun _ _ _ h => h, F.gh, (Nx.refl F.gh).fr⟩ hG (by simpa using hx) .nil rfl⟩
theorem din_cons {c : Nat} {f : Str} {v : Expr} {e : Env → Option Dt} {rest : List Stmt} {names : List Str} {g : Env → Option (List Dt)} {x : Str} {p1 pos' pos : Pos} (cl : Cls X.K (T c).1) (na : NoAttr X.K (T c).1 f) (hv : DE X T v e) (hr : DIn X T c rest names g) (hN : X.N[0]? = some x := by rfl) (hvis : Vis X.env.scope x := by first | exact Or.inl rfl | exact Or.inr (Or.inl rfl))
    (hs : swapsWith v (some (.Attribute (.Name x p1) f pos')) pos.line X.env = pure false := by rfl) (hd : (x == ("__debug__" : Str)) = false := by decide +kernel) (hcd : (x == ("__classdict__" : Str)) = false := by decide +kernel) :
    DIn X T c (.Assign [.Attribute (.Name x p1) f pos'] v pos :: rest) (f :: names) (fun r => (e r).bind fun d => (g r).map fun ds => d :: ds) := by
  obtain ⟨tv, pv, gv⟩ := hv.ex
  obtain ⟨ts, ps, gs⟩ := hr.ex
  exact ⟨_, pss_cons (ps_fld (pe_var hN hvis hd hcd) pv hs) ps, gin_one gv rfl cl na gs⟩
def initF (n m : Nat) (g : Env → Option (List Dt)) (ds : List Dt) : Option (List Dt) := if ds.length = n then g (Sl.no :: ds.map Sl.val ++ List.replicate m Sl.no) else none
def spI (K : PySem.W.Frag) (T : CT) (c n : Nat) (f : List Dt → Option (List Dt)) : Sp := fun vs H Q _ => ∃ G ds es x dx as, vs = .ref x :: as ∧ as.length = n ∧ Same G H ∧ G x = none ∧ H x = some (.ins (T c).1 dx []) ∧ RpA K T G as ds ∧ f ds = some es ∧
  ∀ G' H' fs, NxB x G H G' H' → G' x = none → H' x = some (.ins (T c).1 dx fs) → fs.map Prod.fst = (T c).2 → RpA K T G' (fs.map Prod.snd) es → Q .non H'
section
variable {P : Program} {w : World} {base : Heap}
theorem okI {x qual : Str} {st : Stmt} {f : Addr} {fd : FuncData} {N ps : List Str} {k m n c : Nat} {g : Env → Option (List Dt)} (F : Fun K x qual st f fd) (S : FnScope N ps (defScope st)) (hm : N.length = ps.length + m) (hp : ps.length = n + 1) (hnd : (T c).2.Nodup) (hfew : (T c).2.length < 1000)
    (hb : ∀ (cdv : Value) (A : Around) (os : List PySem.Env) (s : Shared) (H : Hp) (E : XK), Room k (A.deeper (envOfC qual (defScope st) s.heap.objs.size f cdv)) → DIn (cxOf CX0 P w K mg base N qual (defScope st) f cdv A os s H E).nox T c (defBody st) (T c).2 g) :
    FnOk P w K mg base CX0 (k + 1) f fd ps (spI K T c n (initF n m g)) := by
  refine F.ok S (fun vs H Q E h => ?_) (fun cdv A outer s H vs Q E hr h => ?_)
  · obtain ⟨G, ds, es, x, dx, as, rfl, hl, _⟩ := h
    rw [List.length_cons]; omega
  · obtain ⟨G, ds, es, x, dx, as, rfl, hl, gh, hG, hx, q, hd, k⟩ := h
    obtain ⟨t, p, gs⟩ := (hb cdv A outer s H E hr).ex
    refine ⟨t, p, ?_⟩
    have hq := q.length
    unfold initF at hd
    rw [if_pos (show ds.length = n by omega)] at hd
    have no_own : ∀ (i : Nat) (es : List Dt), (Sl.no :: ds.map Sl.val ++ List.replicate m Sl.no)[i]? ≠ some (.own es) := fun i es h => by
      have hm := List.mem_of_getElem? h
      simp at hm
    have no_tre : ∀ (i : Nat) (t : OT), (Sl.no :: ds.map Sl.val ++ List.replicate m Sl.no)[i]? ≠ some (Sl.tre t) := fun i t h => by
      have hm := List.mem_of_getElem? h
      simp at hm
    have F0 : Fits K T G H (L2.start N (.ref x :: as)) (Sl.no :: ds.map Sl.val ++ List.replicate m Sl.no) := by
      refine ⟨gh, ?_, fun i d h => ?_, fun i es h => absurd h (no_own i es), fun i j es fs p h => absurd h (no_own i es), Tr.nil no_tre⟩
      · unfold L2.start
        simp only [List.length_append, List.length_map, List.length_replicate, List.length_cons]
        omega
      · cases i with
        | zero => cases h
        | succ i =>
          have h' : (ds.map Sl.val ++ List.replicate m Sl.no)[i]? = some (.val d) := h
          by_cases hi : i < ds.length
          · rw [List.getElem?_append_left (by simpa using hi), List.getElem?_map, List.getElem?_eq_getElem hi] at h'
            cases h'
            obtain ⟨v, hv, rv⟩ := q.get (List.getElem?_eq_getElem hi)
            refine ⟨v, ?_, rv⟩
            unfold L2.start
            show (List.map some as ++ _)[i]? = _
            rw [List.getElem?_append_left (by rw [List.length_map]; omega), List.getElem?_map, hv]
            rfl
          · rw [List.getElem?_append_right (by simpa using hi), List.getElem?_replicate] at h'
            split at h' <;> cases h'
    refine gs G H _ _ es x dx [] F0 no_own no_tre rfl hG hx (by simpa using hnd) (by simpa using hfew) hd _ fun G' H' vs n' g' h' q' l' => ?_
    rw [List.nil_append] at h'
    refine k G' H' _ n' g' h' ?_ ?_
    · rw [List.map_fst_zip (by omega)]
    · rw [List.map_snd_zip (by omega)]
      exact q'
structure MakeOk (P : Program) (w : World) (K : PySem.W.Frag) (mg : Str → Option Value) (base : Heap) (T : CT) (k c : Nat) (x : Str) (g : List Dt → Option (List Dt)) : Prop where
  ex : ∃ (f : Addr) (fd : FuncData) (ps : List Str) (n : Nat), FnOk P w K mg base CX0 k f fd ps (spI K T c n g) ∧ Mk K (T c).1 f ∧ mg x = some (.ref (T c).1) ∧ Binds K fd ps [] ∧ ∀ ds d, g ds = some d → ds.length = n
theorem make_of {x qual y : Str} {st : Stmt} {f : Addr} {fd : FuncData} {ps : List Str} {k n m c : Nat} {g : Env → Option (List Dt)} (F : Fun K y qual st f fd) (O : FnOk P w K mg base CX0 k f fd ps (spI K T c n (initF n m g))) (M : Mk K (T c).1 f) (hm : mg x = some (.ref (T c).1)) (hb : Binds K fd ps []) : MakeOk P w K mg base T k c x (initF n m g) :=
  ⟨f, fd, ps, n, O, M, hm, hb, fun ds d h => (ite_opt (by unfold initF at h; exact h)).1⟩
end
def fMake (c : Nat) (g : List Dt → Option (List Dt)) (a : Env → Option (List Dt)) : Env → Option Dt := fun r => ((a r).bind g).map (Dt.obj c)
theorem made_obj {c : Nat} {g : List Dt → Option (List Dt)} {n : Nat} {G H G1 H1 : Hp} {vs : List V} {ds es : List Dt} {E : XK} {Q : VK} (hn : vs.length = n) (n1 : Nx G H G1 H1) (q1 : RpA K T G1 vs ds) (h : g ds = some es) (q : ∀ v G' H', Nx G H G' H' → Rp K T G' v (.obj c es) → Q v H') :
    ∀ x dx, H1 x = none → H1 dx = none → dx ≠ x → spI K T c n g (.ref x :: (vs ++ [])) (upd (upd H1 dx (.own x)) x (.ins (T c).1 dx [])) (fun v H2 => v = .non ∧ Q (.ref x) H2) E := fun x dx hx hdx ne => by
  have gx : G1 x = none := n1.gh.free hx
  have gdx : G1 dx = none := n1.gh.free hdx
  refine ⟨G1, ds, es, x, dx, vs, by rw [List.append_nil], hn, fun b o e => ?_, gx, upd_same, q1, h, fun G' H' fs n' g' h' hf hr => ⟨rfl, ?_⟩⟩
  · rw [upd_ne (ne_of_none e gx), upd_ne (ne_of_none e gdx)]
    exact n1.gh _ _ e
  · refine q (.ref x) (upd G' x (.ins (T c).1 dx fs)) H' ⟨(n1.gg.trans n'.gg).trans (same_new g'), fun b o e => ?_, same_updL n'.gh h', fun a => ?_⟩ (.obj upd_same hf (RpA.mono (same_new g') _ hr))
    · have e1 := n1.hh _ _ e
      have hb : b ≠ x := ne_of_none e1 hx
      refine n'.hh b o hb ?_
      rw [upd_ne hb, upd_ne (ne_of_none e1 hdx)]
      exact e1
    · by_cases ha : a = x
      · exact .inr (.inr (.inl (by rw [ha]; exact n1.hh.free hx)))
      · rw [upd_ne ha]
        rcases n'.fr a with z | z | z
        · exact .inl z
        · rcases n1.fr a with y | y | y
          · exact absurd y z
          · exact .inr (.inl y)
          · exact .inr (.inr y)
        · exact .inr (.inr (((z.upd (fun _ z => by cases z)).2.upd (fun _ z => by cases z)).2.back n1.hh))
theorem de_make {x : Str} {k c : Nat} {g : List Dt → Option (List Dt)} {p pos : Pos} {e : Expr} {es : List Expr} {fa : Env → Option (List Dt)} (C : MakeOk X.prog X.w X.K X.mg X.base T k c x g) (hr : Room (k + 1) X.A) (ha : DA X T (e :: es) fa) (hg : Gl X x := by rfl)
    (hx : ∀ {f : Addr} {fd : FuncData} {ps : List Str} {sp : Sp} {t : TA}, Mk X.K (T c).1 f → FnOk X.prog X.w X.K X.mg X.base CX0 k f fd ps sp → X.mg x = some (.ref (T c).1) → Binds X.K fd ps [] → PA X (e :: es) t → PE X (.Call (.Name x p) (e :: es) [] pos) (tMake (T c).1 sp [] E0 t)) :
    DE X T (.Call (.Name x p) (e :: es) [] pos) (fMake c g fa) := by
  obtain ⟨f, fd, ps, n, O, M, hm, hb, hn⟩ := C.ex
  obtain ⟨ta, pa, ga⟩ := ha.ex
  refine ⟨_, hx M O hm hb pa, fun G H σ r d F h Q q => ?_⟩
  unfold fMake at h
  cases e1 : fa r with
  | none => rw [e1] at h; cases h
  | some ds =>
    rw [e1] at h
    replace h : (g ds).map (Dt.obj c) = some d := h
    cases e2 : g ds with
    | none => rw [e2] at h; cases h
    | some es' =>
      rw [e2] at h
      cases h
      refine ga G H σ r ds F e1 _ fun vs G1 H1 n1 p1 => ?_
      exact made_obj (by rw [p1.length]; exact hn ds es' e2) n1 p1 e2 q
theorem de_make0 {x : Str} {k c : Nat} {g : List Dt → Option (List Dt)} {p pos : Pos} (C : MakeOk X.prog X.w X.K X.mg X.base T k c x g) (hr : Room (k + 1) X.A)
    (hx : ∀ {f : Addr} {fd : FuncData} {ps : List Str} {sp : Sp}, Mk X.K (T c).1 f → FnOk X.prog X.w X.K X.mg X.base CX0 k f fd ps sp → X.mg x = some (.ref (T c).1) → Binds X.K fd ps [] → PE X (.Call (.Name x p) [] [] pos) (tMake (T c).1 sp [] E0 tNil)) :
    DE X T (.Call (.Name x p) [] [] pos) (fMake c g fNil) := by
  obtain ⟨f, fd, ps, n, O, M, hm, hb, hn⟩ := C.ex
  refine ⟨_, hx M O hm hb, fun G H σ r d F h Q q => ?_⟩
  unfold fMake fNil at h
  replace h : (g []).map (Dt.obj c) = some d := h
  cases e2 : g [] with
  | none => rw [e2] at h; cases h
  | some es' =>
    rw [e2] at h
    cases h
    exact made_obj (vs := []) (hn [] es' e2) (Nx.refl F.gh) .nil e2 q
end
end PL

/-! ### texts and lists a number of times -/
namespace PL
open PySem PySem.Spec PyProof.Rows L2
section
variable {X : Cx} {T : CT}
theorem foldl_arr (a : Array Nat) : ∀ (n : Nat) (b : Array Nat), ((List.replicate n a).foldl (· ++ ·) b).toList = b.toList ++ (List.replicate n a.toList).flatten
  | 0, b => by simp
  | n + 1, b => by
    rw [List.replicate_succ, List.foldl_cons, foldl_arr a n, List.replicate_succ, List.flatten_cons, Array.toList_append, List.append_assoc]
theorem txt_mul (l : List Nat) (n : Int) : Txt.mul ⟨l.toArray⟩ n = ⟨(List.replicate n.toNat l).flatten.toArray⟩ := by
  unfold Txt.mul
  by_cases h1 : n < 1
  · rw [if_pos h1]
    have : n.toNat = 0 := by omega
    rw [this]; rfl
  · rw [if_neg h1]
    by_cases h2 : n = 1
    · subst h2
      rw [if_pos (by simp)]
      simp
    · by_cases h3 : l = []
      · subst h3
        rw [if_pos (by simp [Str.length])]
        simp
      · rw [if_neg (by
          have : l.length ≠ 0 := fun h => h3 (List.eq_nil_of_length_eq_zero h)
          simp [Str.length, h2, h3])]
        congr 1
        refine Array.ext' ?_
        rw [foldl_arr]
        simp
theorem op_repS : OpR X (binaryOp .Mult) (fun x y H Q => ∃ (l : List Nat) (n : Int), x = .str ⟨l.toArray⟩ ∧ y = .int n ∧ l.length ≤ 1000 ∧ -1000 ≤ n ∧ n ≤ 1000 ∧ Q (.str ⟨(List.replicate n.toNat l).flatten.toArray⟩) H) := by
  intro pins s σ H x y v u Q I rx ry h
  obtain ⟨l, n, rfl, rfl, h1, h2, h3, q⟩ := h
  obtain ⟨t, rfl⟩ := rx
  obtain ⟨t', rfl⟩ := ry
  refine SB.mul (mulOk_of 1000 1000 (by simpa [Str.length] using h1) h3 (by omega) (by decide) (by decide)) fun t' tk => ?_
  rw [txt_mul]
  exact ⟨.str ⟨(List.replicate n.toNat l).flatten.toArray⟩, H, I.tok _, ⟨_, rfl⟩, q⟩
def repD (d e : Dt) : Option Dt := match d, e with
  | .str l, .int n => if l.length ≤ 1000 ∧ -1000 ≤ n ∧ n ≤ 1000 then some (.str (List.replicate n.toNat l).flatten) else none
  | .lst l, .int n => if l.length ≤ 1000 ∧ -1000 ≤ n ∧ n ≤ 1000 then some (.lst (List.replicate n.toNat l).flatten) else none
  | _, _ => none
theorem rpa_rep {K : PySem.W.Frag} {G : Hp} {xs : List V} {ds : List Dt} (h : RpA K T G xs ds) : ∀ n : Nat, RpA K T G (List.replicate n xs).flatten (List.replicate n ds).flatten
  | 0 => .nil
  | n + 1 => by rw [List.replicate_succ, List.replicate_succ, List.flatten_cons, List.flatten_cons]; exact h.append (rpa_rep h n)
theorem bd_rep : BinD X T (binaryOp .Mult) repD := by
  refine ⟨_, op_repS.or op_rep, fun G H x y d e z gh p q hz Q k => ?_⟩
  unfold repD at hz
  split at hz
  · rename_i l n
    obtain ⟨hc, rfl⟩ := ite_some hz
    cases p
    cases q
    exact .inl ⟨l, n, rfl, rfl, hc.1, hc.2.1, hc.2.2, k _ G H (Nx.refl gh) (.str _)⟩
  · rename_i l n
    obtain ⟨hc, rfl⟩ := ite_some hz
    cases q
    cases p with
    | @lst _ xs _ p1 p2 =>
      refine .inr ⟨_, _, _, rfl, rfl, gh _ _ p1, by omega, by omega, ?_, fun p hp => ?_⟩
      · have h1 : xs.length ≤ 1000 := by rw [p2.length]; exact hc.1
        have h2 : n.toNat ≤ 1000 := by omega
        exact Nat.le_trans (Nat.mul_le_mul h1 h2) (by decide)
      · have nn := Nx.new (o := .lst (List.replicate n.toNat xs).flatten) gh hp
        exact k _ _ _ nn (.lst upd_same (RpA.mono nn.gg _ (rpa_rep p2 _)))
  · cases hz
/-- a class without an own __init__, made -/
structure MakeO (K : PySem.W.Frag) (mg : Str → Option Value) (C : Addr) (x : Str) : Prop where
  makes : PySem.W.makesIn K C = true
  init : PySem.W.findIn K (.ref C) "__init__" = some (some (.builtin "object.__init__"))
  kp : PySem.W.keepIn K (.ref C) = true
  mg : mg x = some (.ref C)
theorem run_makeO {C : Addr} {x : Str} {pins : List (Addr × Obj)} {σ : L2.St} {H : Hp} {s : Shared} {Q : VK} (M : MakeO X.K X.mg C x) (I : Inv X pins σ H s)
    (h : ∀ y dx, H y = none → H dx = none → dx ≠ y → Q (.ref y) (upd (upd H dx (.own y)) y (.ins C dx []))) :
    wpAny (model X.prog X.w) X.A (call (.ref C) []) (EP X pins σ Q) X.xe s := by
  have hq := h (s.heap.objs.size + 1) s.heap.objs.size (I.hok.fresh (Nat.le_succ _)) (I.hok.fresh (Nat.le_refl _)) (Nat.ne_of_lt (Nat.lt_succ_self _))
  have I2 := Inv.made (C := C) I
  refine wpAny_call (make_map0 I.kIn M.makes M.init (fun self => PySem.W.Looks.of_pure (PySem.W.oi_bind self)) ?_)
  have Y := PySem.W.makes_of (M := model X.prog X.w) I.kIn M.makes
  obtain ⟨hh, g, d, t, os⟩ := s
  have e2 : ((hh.push PySem.W.emptyDict).push (PySem.W.instObj C hh.objs.size)).get? (hh.objs.size + 1) = some (PySem.W.instObj C hh.objs.size) := by
    have := Heap.get?_push_size (hh.push PySem.W.emptyDict) (o := PySem.W.instObj C hh.objs.size) rfl
    rwa [Heap.size_push] at this
  have t1 : PySem.W.Looks (model X.prog X.w) ((hh.push PySem.W.emptyDict).push (PySem.W.instObj C hh.objs.size)) (typeOf (.ref (hh.objs.size + 1))) (.ref C) := (PySem.W.Looks.ld e2).andThen .now
  have t2 : PySem.W.Looks (model X.prog X.w) ((hh.push PySem.W.emptyDict).push (PySem.W.instObj C hh.objs.size)) (isInstance (.ref (hh.objs.size + 1)) (.type "object")) true := t1.andThen (Y.top.keeps fun b o e => Heap.get?_push_of_some _ (Heap.get?_push_of_some _ e))
  refine codeAny_call_builtin PySem.W.oi_plain PySem.W.entry_oi (@PySem.W.check_slot (model X.prog X.w) _ _ _ "object.__init__" "object" "__init__" (.ref (hh.objs.size + 1)) [] [] _ PySem.W.oi_kind PySem.W.oi_split t2 (PySem.W.oi_args (.ref (hh.objs.size + 1))) ?_)
  rw [PySem.W.oi_run]
  exact wpAny_pure (And.intro rfl ⟨V.ref (hh.objs.size + 1), _, I2, rfl, hq⟩)
theorem de_makeO {x : Str} {c : Nat} {p pos : Pos} (M : MakeO X.K X.mg (T c).1 x) (hn : (T c).2 = []) (hg : Gl X x := by rfl) (hdb : (x == ("__debug__" : Str)) = false := by decide) : DE X T (.Call (.Name x p) [] [] pos) (fC (.obj c [])) := by
  refine ⟨fun σ H Q => ∀ y dx, H y = none → H dx = none → dx ≠ y → Q (.ref y) (upd (upd H dx (.own y)) y (.ins (T c).1 dx [])), ⟨fun pins s σ H Q I h => ?_⟩, fun G H σ r d F h Q q => ?_⟩
  · refine wpAny_Call_Name_kw (ld_glob I hg M.mg ?_ hdb)
    exact PySem.W.callWith_K0 I.kIn M.kp (run_makeO M I h)
  · cases h
    intro y dx hy hdx ne
    have gy : G y = none := F.gh.free hy
    have gdx : G dx = none := F.gh.free hdx
    refine q (.ref y) (upd G y (.ins (T c).1 dx [])) _ ⟨same_new gy, fun b o e => ?_, fun b o e => ?_, fun a => ?_⟩ (.obj upd_same (by rw [hn]; rfl) .nil)
    · rw [upd_ne (ne_of_none e hy), upd_ne (ne_of_none e hdx)]; exact e
    · by_cases hb : b = y
      · rw [hb, upd_same] at e ⊢; exact e
      · rw [upd_ne hb] at e ⊢
        rw [upd_ne (ne_of_none e gdx)]
        exact F.gh _ _ e
    · by_cases ha : a = y
      · exact .inr (.inr (by rw [ha]; exact .inl hy))
      · rw [upd_ne ha]
        by_cases z : G a = none
        · exact .inl z
        · exact .inr (.inl z)
end
end PL

/-! ### slices with a step; texts split -/
namespace PL
open PySem PySem.Spec PyProof.Rows L2
/-- the elements at the places of a slice -/
def pickL {α : Type} (l : List α) (lo hi st : Option Int) : List α :=
  (sliceRange (sliceBounds lo hi st l.length).1 (sliceBounds lo hi st l.length).2.1 (sliceBounds lo hi st l.length).2.2).filterMap (l[·]?)
theorem vals_pick {vs : List V} {us : List Value} (h : Vals vs us) : ∀ is : List Nat, Vals (is.filterMap (vs[·]?)) (is.filterMap (us[·]?))
  | [] => .nil
  | i :: is => by
    have hl := h.length
    by_cases hi : i < vs.length
    · obtain ⟨u, hu, r⟩ := h.get (List.getElem?_eq_getElem hi)
      rw [List.filterMap_cons_some (List.getElem?_eq_getElem hi), List.filterMap_cons_some hu]
      exact .cons r (vals_pick h is)
    · rw [List.filterMap_cons_none (List.getElem?_eq_none (by omega)), List.filterMap_cons_none (List.getElem?_eq_none (by omega))]
      exact vals_pick h is
theorem rpa_pick {K : PySem.W.Frag} {T : CT} {G : Hp} {vs : List V} {ds : List Dt} (h : RpA K T G vs ds) : ∀ is : List Nat, RpA K T G (is.filterMap (vs[·]?)) (is.filterMap (ds[·]?))
  | [] => .nil
  | i :: is => by
    have hl := h.length
    by_cases hi : i < ds.length
    · obtain ⟨v, hv, r⟩ := h.get (List.getElem?_eq_getElem hi)
      rw [List.filterMap_cons_some (List.getElem?_eq_getElem hi), List.filterMap_cons_some hv]
      exact .cons r (rpa_pick h is)
    · rw [List.filterMap_cons_none (List.getElem?_eq_none (by omega)), List.filterMap_cons_none (List.getElem?_eq_none (by omega))]
      exact rpa_pick h is
def tStepL (K : PySem.W.Frag) (te : TE) (tl th ts : TO) : TE := fun σ H Q => te σ H fun x H1 => tl σ H1 fun lo H2 => th σ H2 fun hi H3 => ts σ H3 fun st H4 => st ≠ some 0 ∧ ∃ a xs, x = .ref a ∧ SqL K H4 a xs ∧ (pickL xs lo hi st).length ≤ 1000000 ∧ ∀ p, H4 p = none → Q (.ref p) (upd H4 p (.lst (pickL xs lo hi st)))
section
variable {X : Cx} {T : CT}
theorem pe_stepL {e : Expr} {lo hi : Option Expr} {st : Expr} {te : TE} {tl th ts : TO} {p2 pos : Pos} (he : PE X e te) (hl : PO X lo tl) (hh : PO X hi th) (hs : PO X (some st) ts)
    (hsub : ∀ a b, subscripted (.Slice lo hi (some st) p2) false (.ref a) (.ref b) = operate [.ref a, .ref b] (getItem (.ref a) (.ref b)) := by intro _ _; with_unfolding_all rfl) :
    PE X (.Subscript e (.Slice lo hi (some st) p2) pos) (tStepL X.K te tl th ts) := by
  refine ⟨fun pins s σ H Q I h => ?_⟩
  refine Subscript_ (thn (he.run pins s σ H _ I h) fun v s1 ⟨x, H1, I1, r1, q1⟩ => ?_)
  refine wpAny_Slice (thn (hl.run pins s1 σ H1 _ I1 q1) fun vl s2 ⟨l, H2, I2, pl, q2⟩ => ?_)
  refine thn (hh.run pins s2 σ H2 _ I2 q2) fun vu s3 ⟨u, H3, I3, pu, q3⟩ => ?_
  refine thn (hs.run pins s3 σ H3 _ I3 q3) fun vs s4 ⟨o, H4, I4, ps, q4⟩ => ?_
  obtain ⟨h0, a, xs, ex, hx, hlen, q⟩ := q4
  subst ex
  cases r1
  have I5 : Inv X pins σ H4 { s4 with heap := s4.heap.push { cls := .type "slice", data := .fields #[vl, vu, vs] } } := I4.kept (t' := s4.toks) fun b ob q => Heap.get?_push_of_some _ q
  obtain ⟨its, r, ht, hz⟩ := I5.list hx
  have hlen2 := r.length
  show wpAny (model X.prog X.w) X.A (subscriptTail e (.Slice lo hi (some st) p2) (.ref a) (.ref s4.heap.objs.size)) (EP X pins σ Q) X.xe { s4 with heap := s4.heap.push { cls := .type "slice", data := .fields #[vl, vu, vs] } }
  refine tail_any (ops := [.ref a, .ref s4.heap.objs.size]) ht.isList.typeIs (PySem.slot_list_getitem.lookup) ?_ (hsub _ _)
  refine wpAny_getItem_list_slice ht.isList (Heap.IsSliceOf.new _ vl vu vs) pl pu ps h0 ?_ (by rw [List.size_toArray]; omega)
  have hp : slicePick its.toArray l u o = (pickL its l u o).toArray := by
    unfold slicePick pickL
    rw [List.size_toArray]
    have e : (fun i : Nat => its.toArray[i]?) = fun i => its[i]? := funext fun i => List.getElem?_toArray
    rw [e]
  rw [hp]
  refine ⟨.ref _, _, I5.laid (t' := s4.toks) (o := .lst (pickL xs l u o)) (fun b ob q => Heap.get?_push_of_some _ q) (Nat.le_refl _) ?_, rfl, q _ (I5.hok.fresh (Nat.le_refl _))⟩
  refine ⟨Nat.le_trans hlen (by decide), pickL its l u o, 0, ?_, Heap.get?_push_size _ rfl⟩
  unfold pickL
  rw [hlen2]
  exact vals_pick r _
def stepD (d : Dt) (lo hi st : Option Int) : Option Dt := match d with
  | .lst l => if st ≠ some 0 ∧ (pickL l lo hi st).length ≤ 1000000 then some (.lst (pickL l lo hi st)) else none
  | _ => none
def fStep (a : Env → Option Dt) (lo hi st : Env → Option (Option Int)) : Env → Option Dt := fun r => (a r).bind fun d => (lo r).bind fun l => (hi r).bind fun h => (st r).bind fun k => stepD d l h k
theorem pick_len {α β : Type} {l : List α} {m : List β} (h : l.length = m.length) (lo hi st : Option Int) : (pickL l lo hi st).length = (pickL m lo hi st).length := by
  unfold pickL
  rw [h]
  generalize sliceRange _ _ _ = is
  induction is with
  | nil => rfl
  | cons i is ih =>
    by_cases hi : i < m.length
    · rw [List.filterMap_cons_some (List.getElem?_eq_getElem (by omega)), List.filterMap_cons_some (List.getElem?_eq_getElem hi), List.length_cons, List.length_cons, ih]
    · rw [List.filterMap_cons_none (List.getElem?_eq_none (by omega)), List.filterMap_cons_none (List.getElem?_eq_none (by omega)), ih]
theorem de_step {e st : Expr} {lo hi : Option Expr} {fe : Env → Option Dt} {fl fh fs : Env → Option (Option Int)} {pos p2 : Pos} (he : DE X T e fe) (hl : DO X T lo fl) (hh : DO X T hi fh) (hs : DO X T (some st) fs)
    (hsub : ∀ a b, subscripted (.Slice lo hi (some st) p2) false (.ref a) (.ref b) = operate [.ref a, .ref b] (getItem (.ref a) (.ref b)) := by intro _ _; with_unfolding_all rfl) : DE X T (.Subscript e (.Slice lo hi (some st) p2) pos) (fStep fe fl fh fs) := by
  obtain ⟨te, pe, ge⟩ := he.ex
  obtain ⟨tl, pl, gl⟩ := hl.ex
  obtain ⟨th, ph, gh⟩ := hh.ex
  obtain ⟨ts, ps, gs⟩ := hs.ex
  refine ⟨_, pe_stepL pe pl ph ps hsub, fun G H σ r d F h Q q => ?_⟩
  unfold fStep at h
  cases e1 : fe r with
  | none => rw [e1] at h; cases h
  | some x =>
    cases e2 : fl r with
    | none => rw [e1, e2] at h; cases h
    | some l =>
      cases e3 : fh r with
      | none => rw [e1, e2, e3] at h; cases h
      | some u =>
        cases e4 : fs r with
        | none => rw [e1, e2, e3, e4] at h; cases h
        | some k =>
          rw [e1, e2, e3, e4] at h
          replace h : stepD x l u k = some d := h
          refine ge G H σ r _ F e1 _ fun v G1 H1 n1 p1 => ?_
          refine gl G1 H1 σ r _ (F.nx n1) e2 _ fun G2 H2 n2 => ?_
          refine gh G2 H2 σ r _ (F.nx (n1.trans n2)) e3 _ fun G3 H3 n3 => ?_
          refine gs G3 H3 σ r _ (F.nx ((n1.trans n2).trans n3)) e4 _ fun G4 H4 n4 => ?_
          have p3 := Rp.mono ((n2.gg.trans n3.gg).trans n4.gg) _ p1
          have n := ((n1.trans n2).trans n3).trans n4
          unfold stepD at h
          split at h
          · obtain ⟨hc, rfl⟩ := ite_some h
            cases p3 with
            | @lst _ xs _ a1 a2 =>
              refine ⟨hc.1, _, _, rfl, SqL.of (n4.gh _ _ a1), ?_, fun p hp => ?_⟩
              · rw [pick_len a2.length]; exact hc.2
              have n5 := Nx.new (o := .lst (pickL xs l u k)) n4.gh hp
              refine q _ _ _ (n.trans n5) (.lst upd_same (RpA.mono n5.gg _ ?_))
              unfold pickL
              rw [a2.length]
              exact rpa_pick a2 _
          · cases h

/-! ### split at a sign -/
def splitL (c : Nat) : List Nat → List (List Nat)
  | [] => [[]]
  | x :: l => if x = c then [] :: splitL c l else match splitL c l with
    | [] => [[x]]
    | p :: ps => (x :: p) :: ps
theorem splitL_ne (c : Nat) : ∀ l, splitL c l ≠ []
  | [] => by simp [splitL]
  | x :: l => by
    unfold splitL
    split
    · simp
    · split <;> simp
theorem split_uniq {c : Nat} : ∀ (ps : List (List Nat)), ps ≠ [] → (∀ p ∈ ps, c ∉ p) → splitL c (joinL [c] ps) = ps
  | [], h, _ => absurd rfl h
  | [p], _, h => by
    have hp : c ∉ p := h p (.head _)
    show splitL c p = [p]
    clear h
    induction p with
    | nil => rfl
    | cons x p ih =>
      have hx : x ≠ c := fun e => hp (by rw [e]; exact .head _)
      unfold splitL
      rw [if_neg hx, ih (by simp) (fun h => hp (.tail _ h))]
  | p :: q :: ps, _, h => by
    have hp : c ∉ p := h p (.head _)
    have ih := split_uniq (q :: ps) (by simp) (fun r hr => h r (.tail _ hr))
    show splitL c (p ++ [c] ++ joinL [c] (q :: ps)) = _
    rw [List.append_assoc]
    clear h
    induction p with
    | nil =>
      show splitL c (c :: joinL [c] (q :: ps)) = _
      unfold splitL
      rw [if_pos rfl, ih]
    | cons x p ihp =>
      have hx : x ≠ c := fun e => hp (by rw [e]; exact .head _)
      show splitL c (x :: (p ++ ([c] ++ joinL [c] (q :: ps)))) = _
      unfold splitL
      rw [if_neg hx, ihp (by simp) (fun h => hp (.tail _ h))]
theorem txt_split (c : Nat) (l : List Nat) : Txt.split ⟨l.toArray⟩ ⟨#[c]⟩ = (splitL c l).map fun p => (⟨p.toArray⟩ : Str) := by
  obtain ⟨ps, hps⟩ : ∃ ps : List (List Nat), Txt.split ⟨l.toArray⟩ ⟨#[c]⟩ = ps.map fun p => (⟨p.toArray⟩ : Str) := by
    refine ⟨(Txt.split ⟨l.toArray⟩ ⟨#[c]⟩).map fun s => s.cps.toList, ?_⟩
    rw [List.map_map]
    conv => lhs; rw [← List.map_id (Txt.split ⟨l.toArray⟩ ⟨#[c]⟩)]
    refine List.map_congr_left fun s _ => ?_
    cases s; simp
  have h1 := StrLaws.join_split ⟨l.toArray⟩ ⟨#[c]⟩
  have h2 := StrLaws.split_free ⟨l.toArray⟩ c
  have h3 := split_pos ⟨l.toArray⟩ ⟨#[c]⟩
  rw [hps] at h1 h2 h3 ⊢
  have e : (⟨#[c]⟩ : Str) = ⟨[c].toArray⟩ := rfl
  rw [e, join_str] at h1
  have h4 : joinL [c] ps = l := by
    have := congrArg (fun s : Str => s.cps.toList) h1
    simpa using this
  have h5 : splitL c l = ps := by
    rw [← h4]
    refine split_uniq ps (fun h => by rw [h] at h3; simp at h3) fun p hp hc => ?_
    exact h2 _ (List.mem_map_of_mem hp) (by simpa using hc)
  rw [h5]
theorem rpa_strs {K : PySem.W.Frag} {G : Hp} : ∀ bs : List (List Nat), RpA K T G ((bs.map fun l => (⟨l.toArray⟩ : Str)).map V.str) (bs.map Dt.str)
  | [] => .nil
  | b :: bs => .cons (.str b) (rpa_strs bs)
def splitD (d e : Dt) : Option Dt := match d, e with
  | .str l, .str [c] => if l.length ≤ 100000 then some (.lst ((splitL c l).map Dt.str)) else none
  | _, _ => none
theorem de_split {o e : Expr} {fo fe : Env → Option Dt} {apos pos : Pos} (ho : DE X T o fo) (he : DE X T e fe) (hs : starEach [e] X.env = [(false, eval e X.env)] := by rfl) (hbase : attributeBase o "split" X.env (eval o X.env) = eval o X.env := by rfl) (hline : (apos.endLine == pos.line) = true := by rfl) :
    DE X T (.Call (.Attribute o "split" apos) [e] [] pos) (fOp splitD fo fe) := by
  obtain ⟨to, po, go⟩ := ho.ex
  obtain ⟨te, pe, ge⟩ := he.ex
  refine ⟨_, pe_split po pe hs hbase hline, fun G H σ r d F h Q q => ?_⟩
  obtain ⟨x, y, e1, e2, hz⟩ := fOp_some h
  unfold splitD at hz
  split at hz
  · rename_i l c
    obtain ⟨hc, rfl⟩ := ite_some hz
    refine go G H σ r _ F e1 _ fun v G1 H1 n1 p1 => ?_
    cases p1
    refine ⟨⟨_, rfl⟩, ?_⟩
    refine ge G1 H1 σ r _ (F.nx n1) e2 _ fun w G2 H2 n2 p2 => ?_
    cases p2
    refine ⟨_, _, rfl, rfl, rfl, ?_, fun p hp => ?_⟩
    · rw [str_len]; exact Nat.le_trans (Nat.add_le_add_right hc 2) (by decide)
    have e : (⟨[c].toArray⟩ : Str) = ⟨#[c]⟩ := rfl
    rw [e, txt_split]
    have n3 := Nx.new (o := .lst (((splitL c l).map fun p => (⟨p.toArray⟩ : Str)).map V.str)) n2.gh hp
    exact q _ _ _ ((n1.trans n2).trans n3) (.lst upd_same (rpa_strs _))
  · cases hz
end
end PL

/-! ### methods of own objects; how many unlike ints -/
namespace PL
open PySem PySem.Spec PyProof.Rows L2
section
variable {X : Cx} {T : CT} {K : PySem.W.Frag} {mg : Str → Option Value} {P : Program} {w : World} {base : Heap}
/-- class c's method m is a def whose answer is g's -/
structure MethOk (P : Program) (w : World) (K : PySem.W.Frag) (mg : Str → Option Value) (base : Heap) (T : CT) (k c : Nat) (m : Str) (g : List Dt → Option Dt) : Prop where
  ex : ∃ (f : Addr) (fd : FuncData) (ps : List Str) (n : Nat), FnOk P w K mg base CX0 k f fd ps (spF K T n g) ∧ Meth K (T c).1 m f ∧ Cls K (T c).1 ∧ Binds K fd ps [] ∧ m ∉ (T c).2 ∧ ∀ ds d, g ds = some d → ds.length = n
theorem meth_of {x qual m : Str} {st : Stmt} {f : Addr} {fd : FuncData} {ps : List Str} {k n j c : Nat} {g : Env → Option Out} (F : Fun K x qual st f fd) (O : FnOk P w K mg base CX0 k f fd ps (spF K T n (runF n j g))) (M : Meth K (T c).1 m f) (cl : Cls K (T c).1) (hb : Binds K fd ps []) (hm : m ∉ (T c).2) : MethOk P w K mg base T k c m (runF n j g) :=
  ⟨f, fd, ps, n, O, M, cl, hb, hm, fun ds d h => (ite_opt (by unfold runF at h; exact h)).1⟩
/-- all of them, with room for each -/
def AllM (X : Cx) (T : CT) (m : Str) : List (Nat × (List Dt → Option Dt)) → Prop
  | [] => True
  | (c, g) :: l => (∃ k, MethOk X.prog X.w X.K X.mg X.base T k c m g ∧ Room k X.A) ∧ AllM X T m l
theorem allM_nil {m : Str} : AllM X T m [] := trivial
theorem allM_cons {m : Str} {k c : Nat} {g : List Dt → Option Dt} {l : List (Nat × (List Dt → Option Dt))} (M : MethOk X.prog X.w X.K X.mg X.base T k c m g) (hr : Room k X.A) (h : AllM X T m l) : AllM X T m ((c, g) :: l) := ⟨⟨k, M, hr⟩, h⟩
theorem allM_get {m : Str} {c : Nat} {g : List Dt → Option Dt} : ∀ {l : List (Nat × (List Dt → Option Dt))}, AllM X T m l → l.lookup c = some g → ∃ k, MethOk X.prog X.w X.K X.mg X.base T k c m g ∧ Room k X.A
  | [], _, h => by cases h
  | (c', g') :: l, a, h => by
    unfold List.lookup at h
    split at h
    · rename_i e
      cases h
      rw [eq_of_beq e]
      exact a.1
    · exact allM_get a.2 h
def fMeth (cs : List (Nat × (List Dt → Option Dt))) (fo : Env → Option Dt) (fa : Env → Option (List Dt)) : Env → Option Dt := fun r => match fo r with
  | some (.obj c l) => (match cs.lookup c, fa r with
    | some g, some ds => g (.obj c l :: ds)
    | _, _ => none)
  | _ => none
theorem lookup_not {m : Str} : ∀ {fs : List (Str × V)}, m ∉ fs.map Prod.fst → fs.lookup m = none
  | [], _ => rfl
  | (g, v) :: fs, h => by
    have h1 : (m == g) = false := beq_eq_false_iff_ne.mpr fun e => h (by rw [e]; exact List.mem_cons_self)
    unfold List.lookup
    rw [h1]
    exact lookup_not fun q => h (List.mem_cons_of_mem _ q)
theorem de_meth {m : Str} {o e : Expr} {es : List Expr} {apos pos : Pos} {cs : List (Nat × (List Dt → Option Dt))} {fo : Env → Option Dt} {fa : Env → Option (List Dt)} (A : AllM X T m cs) (ho : DE X T o fo) (ha : DA X T (e :: es) fa)
    (hx : ∀ {C f : Addr} {fd : FuncData} {ps : List Str} {sp : Sp} {to : TE} {ta : TA} {k : Nat}, Cls X.K C → Meth X.K C m f → FnOk X.prog X.w X.K X.mg X.base CX0 k f fd ps sp → Room k X.A → Binds X.K fd ps [] → PE X o to → PA X (e :: es) ta → PE X (.Call (.Attribute o m apos) (e :: es) [] pos) (tMeth C m sp [] E0 to ta)) :
    DE X T (.Call (.Attribute o m apos) (e :: es) [] pos) (fMeth cs fo fa) := by
  obtain ⟨to, po, go⟩ := ho.ex
  obtain ⟨ta, pa, ga⟩ := ha.ex
  refine ⟨fun σ H Q => ∃ (C f : Addr) (fd : FuncData) (ps : List Str) (sp : Sp) (k : Nat), (Cls X.K C ∧ Meth X.K C m f ∧ FnOk X.prog X.w X.K X.mg X.base CX0 k f fd ps sp ∧ Room k X.A ∧ Binds X.K fd ps []) ∧ tMeth C m sp [] E0 to ta σ H Q, ⟨fun pins s σ H Q I h => ?_⟩, fun G H σ r d F h Q q => ?_⟩
  · obtain ⟨C, f, fd, ps, sp, k, ⟨h1, h2, h3, h4, h5⟩, h6⟩ := h
    exact (hx h1 h2 h3 h4 h5 po pa).run pins s σ H Q I h6
  · unfold fMeth at h
    split at h
    · rename_i c l e1
      split at h
      · rename_i g ds e2 e3
        obtain ⟨k, M, hr⟩ := allM_get A e2
        obtain ⟨f, fd, ps, n, O, hm, cl, hb, hno, hn⟩ := M.ex
        refine ⟨_, f, fd, ps, _, k, ⟨cl, hm, O, hr, hb⟩, ?_⟩
        refine go G H σ r _ F e1 _ fun v G1 H1 n1 p1 => ?_
        cases p1 with
        | @obj _ a dx fs _ a1 a2 a3 =>
          refine ⟨a, dx, fs, rfl, n1.gh _ _ a1, lookup_not (by rw [a2]; exact hno), ?_⟩
          refine ga G1 H1 σ r ds (F.nx n1) e3 _ fun vs G2 H2 n2 p2 => ?_
          rw [List.append_nil]
          have n := n1.trans n2
          refine ⟨by rw [List.length_cons, p2.length]; exact hn _ d h, G2, .obj c l :: ds, d, n2.gh, .cons (Rp.mono n2.gg (.obj c l) (.obj a1 a2 a3)) p2, h, fun v G3 H3 n3 p3 => q v G3 H3 (n.trans n3) p3⟩
      · cases h
    · cases h
/-! ### len(set(xs)) -/
def intsOf : List Dt → Option (List Int)
  | [] => some []
  | .int i :: l => (intsOf l).map fun is => i :: is
  | _ => none
theorem ints_rp {H : Hp} : ∀ {vs : List V} {ds : List Dt} {is : List Int}, RpA K T H vs ds → intsOf ds = some is → vs = is.map V.int
  | _, _, is, .nil, h => by cases h; rfl
  | _, d :: ds, is, .cons r t, h => by
    cases d with
    | int i =>
      unfold intsOf at h
      cases e : intsOf ds with
      | none => rw [e] at h; cases h
      | some js =>
        rw [e] at h
        cases h
        cases r
        rw [List.map_cons, ints_rp t e]
    | _ => cases h
/-- the unlike ones, as they are met -/
def unlike (is : List Int) : List Int := is.foldl step_dedup []
theorem first_unlike (is : List Int) : firstMet (fun i => is.getD i 0) is.length = unlike is := by
  unfold firstMet unlike
  congr 1
  refine List.ext_getElem (by simp) fun i h1 h2 => ?_
  simp at h1
  rw [List.getElem_map, List.getElem_range, List.getD_eq_getElem?_getD, List.getElem?_eq_getElem h2]
  rfl
theorem unlike_len (is : List Int) : (unlike is).length ≤ is.length := by
  rw [← first_unlike]; exact firstMet_length_le _ _
def tLenU (K : PySem.W.Frag) (ta : TE) : TE := fun σ H Q => ta σ H fun x H1 => ∃ (l : Addr) (is : List Int), x = V.ref l ∧ SqL K H1 l (is.map V.int) ∧ is.length ≤ 4000 ∧ Q (.int (unlike is).length) H1
theorem pe_lenU {a : Expr} {ta : TE} {p p2 q pos : Pos} (hc : X.calm = true) (g1 : Gl X "len") (m1 : X.mg "len" = none) (g2 : Gl X "set") (m2 : X.mg "set" = none) (ha : PE X a ta) (na : starEach [a] X.env = (false, eval a X.env) :: starEach [] X.env := by rfl) :
    PE X (.Call (.Name "len" p) [.Call (.Name "set" p2) [a] [] q] [] pos) (tLenU X.K ta) := by
  constructor
  intro pins s σ H Q I hq
  refine Call_ ?_
  apply ld_blt I g1 m1 PySem.boot_len
  apply PyProof.Rows.callWith_builtin1 ?_ rfl rfl
  apply PyProof.Rows.args_cons ?_ rfl
  refine Call_ ?_
  apply ld_blt I g2 m2 PyProof.Rows.boot_set
  apply PyProof.Rows.callWith_type1 ?_ na rfl
  apply PyProof.Rows.args_cons ?_ na
  refine thn (ha.run pins s σ H _ I hq) fun v s1 h1 => ?_
  obtain ⟨x, H1, I1, r1, l, is, rfl, hl, hb, hQ⟩ := h1
  apply PyProof.Rows.args_nil
  cases r1
  obtain ⟨its, r, pl, hz⟩ := I1.list hl
  have e : its.toArray.size = is.length := by rw [List.size_toArray, ← r.length, List.length_map]
  refine call_set_list (ns := is) (I1.ok.hd hc) pl.isList (by simpa using r.ints) (by rw [e]; unfold scanBound; omega) fun h' tk hS hk => ?_
  rw [e, first_unlike] at hS
  apply PyProof.Rows.args_nil
  obtain ⟨o, es, ep, t, h1, h2, h3, _, _, _, h4, h5⟩ := hS
  have J : Inv X pins σ H1 { s1 with heap := h', toks := tk } := I1.kept fun b o e => hk b o (Heap.lt_size e) e
  have hu := unlike_len is
  have hf : es.size < 4096 := by rw [h5]; omega
  exact call_len_set h1 h2 h3 h4 (by omega) ⟨.int (unlike is).length, H1, J.tok _, ⟨_, by rw [h5]⟩, hQ⟩
def lenUD (d : Dt) : Option Dt := match d with
  | .lst l => (match intsOf l with
    | some is => if is.length ≤ 4000 then some (.int (unlike is).length) else none
    | none => none)
  | _ => none
theorem de_lenU {a : Expr} {fa : Env → Option Dt} {p p2 q pos : Pos} (hc : X.calm = true) (m1 : X.mg "len" = none) (m2 : X.mg "set" = none) (ha : DE X T a fa) (g1 : Gl X "len" := by rfl) (g2 : Gl X "set" := by rfl) (na : starEach [a] X.env = (false, eval a X.env) :: starEach [] X.env := by rfl) :
    DE X T (.Call (.Name "len" p) [.Call (.Name "set" p2) [a] [] q] [] pos) (fUn lenUD fa) := by
  obtain ⟨ta, pa, ga⟩ := ha.ex
  refine ⟨_, pe_lenU hc g1 m1 g2 m2 pa na, fun G H σ r d F h Q k => ?_⟩
  unfold fUn at h
  cases e1 : fa r with
  | none => rw [e1] at h; cases h
  | some x =>
    rw [e1] at h
    replace h : lenUD x = some d := h
    unfold lenUD at h
    split at h
    · rename_i l
      split at h
      · rename_i is e2
        obtain ⟨hb, rfl⟩ := ite_some h
        refine ga G H σ r _ F e1 _ fun v G1 H1 n1 p1 => ?_
        cases p1 with
        | @lst _ xs _ a1 a2 =>
          have := ints_rp a2 e2
          subst this
          exact ⟨_, is, rfl, SqL.of (n1.gh _ _ a1), hb, k _ G1 H1 n1 (.int _)⟩
      · cases h
    · cases h
/-! ### is, is not of truth values -/
def isBD (d e : Dt) : Option Dt := match d, e with
  | .bl a, .bl b => some (.bl (decide (a = b)))
  | _, _ => none
def isnBD (d e : Dt) : Option Dt := match d, e with
  | .bl a, .bl b => some (.bl (!decide (a = b)))
  | _, _ => none
theorem bd_isB : BinD X T (compareOp .Is) isBD := by
  refine ⟨_, op_isBl, fun G H x y d e z gh p q hz Q k => ?_⟩
  unfold isBD at hz
  split at hz
  · cases hz
    cases p
    cases q
    exact ⟨_, _, rfl, rfl, k _ G H (Nx.refl gh) (.bl _)⟩
  · cases hz
theorem bd_isnB : BinD X T (compareOp .IsNot) isnBD := by
  refine ⟨_, op_notBl, fun G H x y d e z gh p q hz Q k => ?_⟩
  unfold isnBD at hz
  split at hz
  · cases hz
    cases p
    cases q
    exact ⟨_, _, rfl, rfl, k _ G H (Nx.refl gh) (.bl _)⟩
  · cases hz
end
end PL

/-! ### defs that are called while no text of a list is under way; str() of data -/
namespace PL
open PySem PySem.Spec PyProof.Rows L2
section
variable {P : Program} {w : World} {K : PySem.W.Frag} {mg : Str → Option Value} {base : Heap} {T : CT}
/-- a def's promise, wherever no guard stands around -/
structure FnG (P : Program) (w : World) (K : PySem.W.Frag) (mg : Str → Option Value) (base : Heap) (k : Nat) (f : Addr) (fd : FuncData) (ps : List Str) (sp : Sp) : Prop where
  len : ∀ vs H Q E, sp vs H Q E → vs.length = ps.length
  go : ∀ (A : Around) (os : List PySem.Env) (s : Shared) (H : Hp) (args : Args) (us : List Value) (vs : List V) (Q : VK) (E : XK), A.guards = some [] → Room k A → Env0 P w K mg base A os s H → BindsTo s fd args (ps.zip us) → Vals vs us → sp vs H Q E →
    codeAny (model P w) A (.call (.ref f) args) (CR CX0 os P w H s Q E) s
theorem fnG_of {k : Nat} {f : Addr} {nm qual : Str} {params : Arguments} {body : List Stmt} {sc : Scope} {dV kV doc pm cdv ct oc : Value} {an od : Option Addr} {osl : Array (Option Value)} {N ps : List Str} {sp : Sp}
    (lk : K.lookup f = some ⟨oc, od, .func (PySem.W.fnOf nm qual params body sc dV kV doc pm an cdv ct), osl⟩) (hcd : PySem.W.codeIn K cdv qual = true) (S : FnScope N ps sc) (len : ∀ vs H Q E, sp vs H Q E → vs.length = ps.length)
    (hb : ∀ (A : Around) (os : List PySem.Env) (s : Shared) (H : Hp) (vs : List V) (Q : VK) (E : XK), (A.deeper (envOfC qual sc s.heap.objs.size f cdv)).guards = some [] → Room k (A.deeper (envOfC qual sc s.heap.objs.size f cdv)) → sp vs H Q E →
      ∃ t, PSs (cxOf CX0 P w K mg base N qual sc f cdv A os s H E) body t ∧ t { nx := fun _ H' => Q .non H', rt := Q } (L2.start N vs) H) :
    FnG P w K mg base (k + 1) f (PySem.W.fnOf nm qual params body sc dV kV doc pm an cdv ct) ps sp := by
  constructor
  · exact len
  intro A os s H args us vs Q E gd room en bd vals hsp
  have kin : K.In s.heap := en.mod.kin.keeps fun c o q => (en.bs c o q).1
  have nol : s.heap.NoLimit := en.mod.nolimit.keeps fun c o q => (en.bs c o q).1
  have kinds : ∀ z ∈ ps.zip us, sc.names.lookup z.1 = some .local ∨ (sc.names.lookup z.1 = some .cell ∧ ((cellsFrom (s.heap.objs.size + 1) sc.names []).lookup z.1).isSome = true) := by
    rintro ⟨n, v⟩ hz
    cases S.par n (List.of_mem_zip hz).1 with
    | inl q => exact .inl q
    | inr q => exact .inr ⟨q, PySem.W.cellsFrom_some _ _ _ (.inl q)⟩
  refine codeAny_call_function room.depth (kin _ _ lk) rfl S.co S.gen rfl (PySem.W.codeRec_of kin hcd) (bd _ _ _ _ (wpAny_newFunctionEnv_cells S.kind kinds fun e he s1 xx => ?_))
  subst he
  refine ⟨nol.keeps xx.toInCall.keep, codeAny_func ?_⟩
  obtain ⟨t, pt, qt⟩ := hb A os s H vs Q E gd (room.deeper _) hsp
  have J : Inv (cxOf CX0 P w K mg base N qual sc f cdv A os s H E) [] (L2.start N vs) H s1 := inv_start S room.hd en (len _ _ _ _ hsp) vals xx
  have ends : ∀ {σ' : L2.St} {H' : Hp} {v : V} {u : Value} {s' : Shared}, Inv (cxOf CX0 P w K mg base N qual sc f cdv A os s H E) [] σ' H' s' → RelV v u → Q v H' → CE os P w H s Q u s' := fun I r q => ⟨_, _, I.os, I.bare, I.base, I.hok, r, q⟩
  refine wpAny_mono (pt.run [] s1 (L2.start N vs) H _ J qt) ?_ fun e s' z => z
  intro fl s' z
  cases fl with
  | next =>
    obtain ⟨σ', H', I, q⟩ := z
    exact ends (v := V.non) (u := Value.none) I rfl q
  | ret u =>
    obtain ⟨v, σ', H', I, r, q⟩ := z
    exact ends I r q
  | brk => exact z.choose_spec.choose_spec.2.elim
  | cont => exact z.choose_spec.choose_spec.2.elim
/-- as a plain def keeps it, so it does there -/
theorem FnG.of {k : Nat} {f : Addr} {fd : FuncData} {ps : List Str} {sp : Sp} (F : FnOk P w K mg base CX0 k f fd ps sp) : FnG P w K mg base k f fd ps sp := ⟨F.len, fun A os s H args us vs Q E _ => F.run A os s H args us vs Q E⟩
theorem FnG.imp {k : Nat} {f : Addr} {fd : FuncData} {ps : List Str} {sp sp' : Sp} (F : FnG P w K mg base k f fd ps sp) (h : ∀ vs H Q E, sp' vs H Q E → sp vs H Q E) : FnG P w K mg base k f fd ps sp' :=
  ⟨fun vs H Q E q => F.len vs H Q E (h vs H Q E q), fun A os s H args us vs Q E g r e b v z => F.go A os s H args us vs Q E g r e b v (h vs H Q E z)⟩
theorem okFG {x qual : Str} {st : Stmt} {f : Addr} {fd : FuncData} {N ps : List Str} {k m : Nat} {g : Env → Option Out} (F : Fun K x qual st f fd) (S : FnScope N ps (defScope st)) (hm : N.length = ps.length + m)
    (hb : ∀ (cdv : Value) (A : Around) (os : List PySem.Env) (s : Shared) (H : Hp) (E : XK), (A.deeper (envOfC qual (defScope st) s.heap.objs.size f cdv)).guards = some [] → Room k (A.deeper (envOfC qual (defScope st) s.heap.objs.size f cdv)) → DSs (cxOf CX0 P w K mg base N qual (defScope st) f cdv A os s H E).nox T (defBody st) g) :
    FnG P w K mg base (k + 1) f fd ps (spF K T ps.length (runF ps.length m g)) := by
  obtain ⟨oc, od, kV, doc, pm, an, cdv, ct, osl, rfl, lk, hcd⟩ := F.ex
  refine fnG_of lk hcd S (fun vs H Q E h => h.1) fun A os s H vs Q E gd hr h => ?_
  obtain ⟨hl, G, ds, d, gh, q, hd, k⟩ := h
  obtain ⟨t, p, gs⟩ := (hb cdv A os s H E gd hr).ex
  refine ⟨t, p.nox, ?_⟩
  have hq := q.length
  unfold runF at hd
  rw [if_pos (show ds.length = ps.length by omega)] at hd
  have S0 := entry (N := N) (m := m) gh q (by omega)
  split at hd
  · rename_i d' e
    cases hd
    exact gs G G H G H _ _ _ S0 e _ fun v G' H' n r => k v G' H' n r
  · rename_i r' e
    cases hd
    exact gs G G H G H _ _ _ S0 e _ fun G' H' σ' S' => k .non G' H' S'.nx .non
  · cases hd
structure CalleeG (P : Program) (w : World) (K : PySem.W.Frag) (mg : Str → Option Value) (base : Heap) (T : CT) (k : Nat) (x : Str) (g : List Dt → Option Dt) : Prop where
  ex : ∃ (f : Addr) (fd : FuncData) (ps : List Str) (n : Nat), FnG P w K mg base k f fd ps (spF K T n g) ∧ mg x = some (.ref f) ∧ PySem.W.keepIn K (.ref f) = true ∧ Binds K fd ps [] ∧ ∀ ds d, g ds = some d → ds.length = n
theorem calleeG_of {x qual y : Str} {st : Stmt} {f : Addr} {fd : FuncData} {ps : List Str} {k n m : Nat} {g : Env → Option Out} (F : Fun K y qual st f fd) (O : FnG P w K mg base k f fd ps (spF K T n (runF n m g))) (hm : mg x = some (.ref f)) (hb : Binds K fd ps []) : CalleeG P w K mg base T k x (runF n m g) :=
  ⟨f, fd, ps, n, O, hm, F.kp, hb, fun ds d h => (ite_opt (by unfold runF at h; exact h)).1⟩
end
section
variable {X : Cx} {T : CT}
theorem run_fnG {k : Nat} {f : Addr} {fd : FuncData} {ps : List Str} {sp : Sp} {pins : List (Addr × Obj)} {σ : L2.St} {H : Hp} {s : Shared} {Q : VK} {us : List Value} {vs : List V} (F : FnG X.prog X.w X.K X.mg X.base k f fd ps sp) (hg : X.A.guards = some []) (hr : Room k X.A) (hb : Binds X.K fd ps []) (I : Inv X pins σ H s) (r : Vals vs us) (h : sp vs H Q E0) :
    wpAny (model X.prog X.w) X.A (call (.ref f) us) (EP X pins σ Q) X.xe s := by
  have hl : us.length = ps.length := by rw [← r.length]; exact F.len _ _ _ _ h
  have bd := hb s us I.kIn (by rw [List.append_nil]; exact hl)
  rw [List.append_nil] at bd
  refine wpAny_call (codeAny_mono (F.go X.A X.stack s H ⟨us, []⟩ us vs Q E0 hg hr I.env0 bd r h) ?_)
  intro z s' hz
  cases z with
  | ok fl => cases fl <;> first | exact I.after hz | exact hz.elim
  | error e => exact pass0 pins σ H s e s' I hz
theorem de_callG {x : Str} {k : Nat} {g : List Dt → Option Dt} {p pos : Pos} {e : Expr} {es : List Expr} {fa : Env → Option (List Dt)} (C : CalleeG X.prog X.w X.K X.mg X.base T k x g) (gd : X.A.guards = some []) (hr : Room k X.A) (ha : DA X T (e :: es) fa) (hg : Gl X x := by rfl)
    (hdb : (x == ("__debug__" : Str)) = false := by decide +kernel) (he : starEach (e :: es) X.env = (false, eval e X.env) :: starEach es X.env := by rfl) (hpl : (backTo pos (starEach es X.env)).any (·.1) = false := by rfl) : DE X T (.Call (.Name x p) (e :: es) [] pos) (fCall g fa) := by
  obtain ⟨f, fd, ps, n, O, hm, hk, hb, hn⟩ := C.ex
  obtain ⟨ta, pa, ga⟩ := ha.ex
  refine ⟨fun σ H Q => ta σ H fun vs H1 => spF X.K T n g vs H1 Q E0, ⟨fun pins s σ H Q I h => ?_⟩, fun G H σ r d F h Q q => ?_⟩
  · refine wpAny_Call_Name_kw (ld_glob I hg hm (PySem.W.callWith_K (h₀ := X.base) I.ok.mod.kin hk (thn (pa.run pos pins s σ H _ I h) ?_) he hpl) hdb)
    rintro us s1 ⟨vs, H1, I1, r, q⟩
    exact ⟨I1.kIn, run_fnG O gd hr hb I1 r q⟩
  · unfold fCall at h
    cases e1 : fa r with
    | none => rw [e1] at h; cases h
    | some ds =>
      rw [e1] at h
      replace h : g ds = some d := h
      refine ga G H σ r ds F e1 _ fun vs G1 H1 n1 p1 => ?_
      exact ⟨by rw [p1.length]; exact hn ds d h, G1, ds, d, n1.gh, p1, h, fun v G2 H2 n2 p2 => q v G2 H2 (n1.trans n2) p2⟩

/-! ### str() -/
def noneL : List Nat := [78, 111, 110, 101]
/-- data whose text is told -/
def strC (p : PyData) : Bool := p.showable && !p.hasDict && p.leavesShort 13 && decide (p.bulk ≤ 1048576)
def strPD (ds : List Dt) : Option Dt := match ds with
  | [.non] => some (.str noneL)
  | [.lst l] => if okD 9 (.lst l) = true ∧ strC (toPy 9 (.lst l)) = true then some (.str (toPy 9 (.lst l)).shown.cps.toList) else none
  | [.tup l] => if okD 9 (.tup l) = true ∧ strC (toPy 9 (.tup l)) = true then some (.str (toPy 9 (.tup l)).shown.cps.toList) else none
  | _ => none
def rStrP (K : PySem.W.Frag) : List V → Hp → VK → Prop := fun vs H Q => (vs = [.non] ∧ Q (.str ⟨noneL.toArray⟩) H) ∨ ∃ (a : Addr) (p : PyData), vs = [.ref a] ∧ Dp K H (.ref a) p ∧ strC p = true ∧ p.depth ≤ 64 ∧ Q (.str p.shown) H
theorem call_strP {k : Nat} (gd : X.A.guards = some []) (hr : Room k X.A) : CallR X (.type "str") (rStrP X.K) := by
  intro pins s σ H xs us Q I r h
  rcases h with ⟨rfl, q⟩ | ⟨a, p, rfl, dp, hc, hd, q⟩
  · cases r with
    | cons r1 r2 =>
      cases r2
      cases r1
      exact PySem.P.str_of_none ⟨.str ⟨noneL.toArray⟩, H, I.tok _, ⟨_, rfl⟩, q⟩
  · cases r with
    | cons r1 r2 =>
      cases r2
      cases (show _ = Value.ref a from r1)
      obtain ⟨as, rd⟩ := Dp.reads I p (.ref a) (.ref a) dp rfl
      unfold strC at hc
      simp only [Bool.and_eq_true, Bool.not_eq_true', decide_eq_true_eq] at hc
      obtain ⟨⟨⟨h1, h2⟩, h3⟩, h4⟩ := hc
      have hu := hr.units
      have hun := hr.un
      refine str_of_reads rd h1 (fun z => by rw [h2] at z; cases z) gd (by omega) (fun b o e => e) (fun h' u tk keep => ?_) (PyData.shown_fits_bulk (B := 13) (by decide) (Nat.le_refl _) h3 h4)
      exact ⟨.str p.shown, H, I.kept (t' := tk) keep, ⟨u, rfl⟩, q⟩
theorem cal_strP {k : Nat} (gd : X.A.guards = some []) (hr : Room k X.A) : CalD X T (.type "str") strPD := by
  refine ⟨_, call_strP gd hr, fun G H xs ds z gh p hz Q k => ?_⟩
  have back : ∀ t : Str, (⟨t.cps.toList.toArray⟩ : Str) = t := fun t => by cases t; simp
  unfold strPD at hz
  split at hz
  · cases hz
    cases p with
    | cons p1 p2 =>
      cases p2
      cases p1
      exact .inl ⟨rfl, k _ G H (Nx.refl gh) (.str noneL)⟩
  · rename_i l
    obtain ⟨hc, rfl⟩ := ite_some hz
    cases p with
    | cons p1 p2 =>
      cases p2
      have dp := dp_of 9 (.lst l) hc.1 (Rp.mono gh (.lst l) p1)
      cases p1 with
      | @lst a _ _ a1 a2 =>
        refine .inr ⟨a, _, rfl, dp, hc.2, Nat.le_trans (depth_of 9 _) (by decide), ?_⟩
        have := k _ G H (Nx.refl gh) (.str (toPy 9 (.lst l)).shown.cps.toList)
        rw [back] at this
        exact this
  · rename_i l
    obtain ⟨hc, rfl⟩ := ite_some hz
    cases p with
    | cons p1 p2 =>
      cases p2
      have dp := dp_of 9 (.tup l) hc.1 (Rp.mono gh (.tup l) p1)
      cases p1 with
      | @tup a _ _ a1 a2 =>
        refine .inr ⟨a, _, rfl, dp, hc.2, Nat.le_trans (depth_of 9 _) (by decide), ?_⟩
        have := k _ G H (Nx.refl gh) (.str (toPy 9 (.tup l)).shown.cps.toList)
        rw [back] at this
        exact this
  · cases hz
end
end PL

/-! ### the law's own call, where no guard stands around -/
namespace PL
open PySem PySem.Spec PyProof.Rows L2
theorem law_callG {P : Program} {w : World} {K : PySem.W.Frag} {mg mb : Str → Option Value} {k : Nat} {fa sa : Addr} {fd : FuncData} {x : Str} {sp : Sp} {s0 : Shared} {us : List Value} {is : List Int} (kin : K.In s0.heap) (ns : s0.heap.Ns mainGlobals mg) (nb : s0.heap.Ns builtinsNs mb)
    (bb : ∀ x : Str, x ≠ "__name__" → mb x = bootBuiltins x) (nol : s0.heap.NoLimit) (gn : s0.gens = #[]) (at_ : s0.heap.get? sa = some { cls := .type "list", data := .seq us.toArray }) (ia : IntsAre us is) (few : is.length ≤ sizeLine) (room : Room k callerA)
    (F : ∀ base : Heap, K.In base → base.Ns mainGlobals mg → FnG P w K mg base k fa fd [x] sp) (bd : ∀ (s : Shared) (u : Value), BindsTo s fd ⟨[u], []⟩ [(x, u)]) (hsp : ∀ H : Hp, Only H → SqL K H sa (is.map V.int) → sp [.ref sa] H (fun v _ => v = .bl true) fun _ _ _ => False)
    (noX : ∀ H e s', CX0 [] H s0 (fun _ _ _ => False) e s' → False) :
    codeAny (model P w) callerA (.call (.ref fa) ⟨[.ref sa], []⟩) (fun r z => r = .ok (.ret (.bool true)) ∧ OldK s0.heap z.heap ∧ z.os = s0.os ∧ AllBare z.gens) s0 := by
  have vals := vals_ints ia
  have same := ia.length
  have main : ∀ H : Hp, Only H → SqL K H sa (is.map V.int) → HOk P w H s0.heap → (∀ c, H c ≠ none → c = sa) → (H sa ≠ none → K.lookup sa = none) →
      codeAny (model P w) callerA (.call (.ref fa) ⟨[.ref sa], []⟩) (fun r z => r = .ok (.ret (.bool true)) ∧ OldK s0.heap z.heap ∧ z.os = s0.os ∧ AllBare z.gens) s0 := by
    intro H only sq ok alone notK
    have keeps : ∀ {c : Addr} {o : Obj}, s0.heap.get? c = some o → H c = none → (hidT s0.heap H).get? c = some o := fun q z => hidT_get q z
    have noDict : ∀ {c : Addr} {o : Obj} {es : Array DictEntry} {n : Nat}, s0.heap.get? c = some o → o.data = .dict es n → H c = none := by
      intro c o es n q d
      cases z : H c with
      | none => rfl
      | some u =>
        have hc := alone c (by rw [z]; simp)
        rw [hc, at_] at q
        cases q
        exact nomatch (show Data.seq us.toArray _ = Data.dict es n from d)
    have spaces : ∀ {c : Addr} {m : Str → Option Value}, s0.heap.Ns c m → (hidT s0.heap H).Ns c m := by
      rintro c m ⟨o, es, n, q, d, r⟩
      exact ⟨o, es, n, keeps q (noDict q d), d, r⟩
    have kinB : K.In (hidT s0.heap H) := by
      intro c o q
      refine keeps (kin c o q) ?_
      cases z : H c with
      | none => rfl
      | some u =>
        have hc := alone c (by rw [z]; simp)
        rw [hc, notK (by rw [← hc, z]; simp)] at q
        cases q
    obtain ⟨mc, n1, n2⟩ := nol
    have md : Mod K mg (hidT s0.heap H) := ⟨kinB, spaces ns, ⟨mb, spaces nb, bb⟩, ⟨mc, spaces n1, n2⟩⟩
    have en : Env0 P w K mg (hidT s0.heap H) callerA [] s0 H := ⟨rfl, md, fun c o q => of_hidT q, Nat.le_of_eq (hidT_size _ _), trivial, fun c hc => (List.not_mem_nil hc).elim, ok, .of_eq gn⟩
    have run := (F _ kinB (spaces ns)).go callerA [] s0 H ⟨[.ref sa], []⟩ [.ref sa] [.ref sa] _ _ rfl room en (bd s0 (.ref sa)) (.cons rfl .nil) (hsp H only sq)
    refine codeAny_mono run ?_
    intro r z hz
    cases r with
    | error e => exact (noX H e z hz).elim
    | ok fl =>
      cases fl with
      | ret u =>
        obtain ⟨v, H', os, bare, un, ok', r', q⟩ := hz
        cases (show v = V.bl true from q)
        cases (show u = Value.bool true from r')
        refine ⟨rfl, OldK.of_keep ?_, os, bare⟩
        intro c o q
        cases h : H c with
        | none => exact un.keep c o q h List.not_mem_nil List.not_mem_nil
        | some t =>
          rcases only c with y | ⟨ob, xs, y⟩
          · rw [h] at y; cases y
          · obtain ⟨e1, _⟩ := ok c _ y
            obtain ⟨e2, _⟩ := ok' c _ (un.frzs c ob _ y)
            rw [q] at e1
            cases e1
            exact e2
      | next => exact hz.elim
      | brk => exact hz.elim
      | cont => exact hz.elim
  cases hk : K.lookup sa with
  | some o =>
    have q := kin sa o hk
    rw [at_] at q
    cases q
    exact main (fun _ => none) (fun _ => .inl rfl) (.inr ⟨_, us.toArray, _, hk, rfl, rfl, rfl, by rw [List.size_toArray, same]; exact few, by simpa using vals⟩) (fun c u z => nomatch z) (fun c z => (z rfl).elim) (fun z => (z rfl).elim)
  | none =>
    obtain ⟨H, hH⟩ : ∃ H : Hp, H = fun c => if c = sa then some (.frz { cls := .type "list", data := .seq us.toArray } (.lst (is.map V.int))) else none := ⟨_, rfl⟩
    have yes : H sa = some (.frz { cls := .type "list", data := .seq us.toArray } (.lst (is.map V.int))) := by rw [hH]; exact if_pos rfl
    have no : ∀ c, c ≠ sa → H c = none := fun c h => by rw [hH]; exact if_neg h
    refine main H (fun c => ?_) (.inl (.inr ⟨_, yes⟩)) (fun c u z => ?_) (fun c z => ?_) fun _ => hk
    · by_cases h : c = sa
      · exact .inr ⟨_, _, by rw [h]; exact yes⟩
      · exact .inl (no c h)
    · by_cases h : c = sa
      · rw [h, yes] at z
        cases z
        rw [h]
        exact ⟨at_, by rw [List.length_map]; exact few, us, _, vals, at_⟩
      · rw [no c h] at z; cases z
    · by_cases h : c = sa
      · exact h
      · exact (z (no c h)).elim
theorem walk_ofG {l : PySem.W.OpenLaw} {n k : Nat} {q : Program} {loose : List Str} {XP : (Str → Option Value) → Heap → Prop} {YP : World → Heap → Prop} {d : DefRec} {K : Params → PySem.W.Frag} {sp : World → Sp} {x : Str} (most : l.most = some n) (few : n ≤ sizeLine) (nodef : d.params.defaults = []) (room : Room k callerA)
    (kin : ∀ (w : World) (h : Heap), YP w h → (K w.params).In h)
    (F : ∀ (w : World) (mg : Str → Option Value) (fa : Addr) (h : Heap), (K w.params).In h → h.Ns mainGlobals mg → mg d.name = some (.ref fa) → ∃ fd : FuncData, (∀ (s : Shared) (u : Value), BindsTo s fd ⟨[u], []⟩ [(x, u)]) ∧ ∀ base : Heap, (K w.params).In base → base.Ns mainGlobals mg → FnG l.prog w (K w.params) mg base k fa fd [x] (sp w))
    (hsp : ∀ (w : World) (H : Hp) (a : Addr) (is : List Int), is.length ≤ n → Only H → SqL (K w.params) H a (is.map V.int) → sp w [.ref a] H (fun v _ => v = .bl true) fun _ _ _ => False) (noX : ∀ (H : Hp) (s : Shared) (e : Value) (s' : Shared), CX0 [] H s (fun _ _ _ => False) e s' → False) :
    PySem.W.WalkO q loose XP YP l.row.toRowW d [] (fun f vs => PySem.call f vs) := by
  refine Att.attach_call most nodef fun w t0 t1 mg mb fa o pm cd doc a us is G Y ho hd hcd hmg hobj hints hlen hg => ?_
  have kx := kin w _ Y
  obtain ⟨fd, hb, hF⟩ := F w mg fa _ kx G.T.g hmg
  refine law_callG kx G.T.g G.T.b G.T.builtins G.T.nolimit hg hobj hints (Nat.le_trans hlen few) room hF hb ?_ ?_
  · intro H hO hS
    exact hsp w H a is hlen hO hS
  · intro H e s'
    exact noX H t1 e s'
end PL

/-! ### defs that answer a new list which nobody else holds -/
namespace PL
open PySem PySem.Spec PyProof.Rows L2
def GSL (K : PySem.W.Frag) (T : CT) (ts : TS) (g : Env → Option (List Dt)) : Prop :=
  ∀ (B G0 H0 G H : Hp) (σ : L2.St) (r : Env) (l : List Dt), St1 K T B G0 H0 G H σ r → g r = some l → ∀ D : Ends, (∀ p vs G' H', Nx G0 H0 G' H' → H0 p = none → G' p = none → H' p = some (.lst vs) → RpA K T G' vs l → D.rt (.ref p) H') → ts D σ H
structure DSsL (X : Cx) (T : CT) (sts : List Stmt) (g : Env → Option (List Dt)) : Prop where
  ex : ∃ ts, PSs X sts ts ∧ GSL X.K T ts g
def fSeqL (a : Env → Option Out) (b : Env → Option (List Dt)) : Env → Option (List Dt) := fun r => match a r with
  | some (.nx r') => b r'
  | _ => none
def spL (K : PySem.W.Frag) (T : CT) (n : Nat) (f : List Dt → Option (List Dt)) : Sp := fun vs H Q _ => vs.length = n ∧ ∃ G ds l, Same G H ∧ RpA K T G vs ds ∧ f ds = some l ∧ ∀ p xs G' H', Nx G H G' H' → H p = none → G' p = none → H' p = some (.lst xs) → RpA K T G' xs l → Q (.ref p) H'
def runL (n m : Nat) (g : Env → Option (List Dt)) (ds : List Dt) : Option (List Dt) := if ds.length = n then g (ds.map Sl.val ++ List.replicate m Sl.no) else none
section
variable {X : Cx} {T : CT}
theorem dssl_cons {st : Stmt} {rest : List Stmt} {a : Env → Option Out} {b : Env → Option (List Dt)} (h1 : DS X T st a) (h2 : DSsL X T rest b) : DSsL X T (st :: rest) (fSeqL a b) := by
  obtain ⟨t, p, g⟩ := h1.ex
  obtain ⟨t2, p2, g2⟩ := h2.ex
  refine ⟨_, pss_cons p p2, fun B G0 H0 G H σ r l S e D m => ?_⟩
  unfold fSeqL at e
  split at e
  · rename_i r' e1
    exact g B G0 H0 G H σ r _ S e1 { D with nx := t2 D } fun G1 H1 σ1 S1 => g2 B G0 H0 G1 H1 σ1 r' l S1 e D m
  · cases e
/-- an own list is given out -/
theorem dssl_own (i : Nat) {x : Str} {p1 pos : Pos} (hi : X.N[i]? = some x := by rfl) (hv : Vis X.env.scope x := by first | exact Or.inl rfl | exact Or.inr (Or.inl rfl)) (hd : (x == ("__debug__" : Str)) = false := by decide +kernel) (hcd : (x == ("__classdict__" : Str)) = false := by decide +kernel) :
    DSsL X T [.Return (some (.Name x p1)) pos] (fun r => gO r i) := by
  refine ⟨_, pss_one (ps_ret (pe_var hi hv hd hcd)), fun B G0 H0 G H σ r l S e D m => ?_⟩
  have hr := gO_iff.mp e
  obtain ⟨p, vs, hσ, hg, hh, q⟩ := S.fits.own i l hr
  exact ⟨.ref p, hσ, m p vs G H S.nx (S.ow i l p hr hσ) hg hh q⟩
/-- a new list is given out -/
theorem dssl_new {e : Expr} {f : Env → Option (List Dt)} {pos : Pos} (he : DL X T e f) : DSsL X T [.Return (some e) pos] f := by
  obtain ⟨te, pe, ge⟩ := he.ex
  refine ⟨_, pss_one (ps_ret pe), fun B G0 H0 G H σ r l S e D m => ?_⟩
  exact ge G H σ r l S.fits e _ fun p vs G1 H1 n1 hp hg hh q => m p vs G1 H1 (S.nx.trans n1) (S.nx.hh.free hp) hg hh q
end
section
variable {P : Program} {w : World} {K : PySem.W.Frag} {mg : Str → Option Value} {base : Heap} {T : CT}
theorem okL {x qual : Str} {st : Stmt} {f : Addr} {fd : FuncData} {N ps : List Str} {k m : Nat} {g : Env → Option (List Dt)} (F : Fun K x qual st f fd) (S : FnScope N ps (defScope st)) (hm : N.length = ps.length + m)
    (hb : ∀ (cdv : Value) (A : Around) (os : List PySem.Env) (s : Shared) (H : Hp) (E : XK), Room k (A.deeper (envOfC qual (defScope st) s.heap.objs.size f cdv)) → DSsL (cxOf CX0 P w K mg base N qual (defScope st) f cdv A os s H E).nox T (defBody st) g) :
    FnOk P w K mg base CX0 (k + 1) f fd ps (spL K T ps.length (runL ps.length m g)) := by
  refine F.ok S (fun vs H Q E h => h.1) (fun cdv A outer s H vs Q E hr h => ?_)
  obtain ⟨hl, G, ds, l, gh, q, hd, k⟩ := h
  obtain ⟨t, p, gs⟩ := (hb cdv A outer s H E hr).ex
  refine ⟨t, p, ?_⟩
  have hq := q.length
  unfold runL at hd
  rw [if_pos (show ds.length = ps.length by omega)] at hd
  exact gs G G H G H _ _ _ (entry (N := N) (m := m) gh q (by omega)) hd _ fun p vs G' H' n h0 h1 h2 h3 => k p vs G' H' n h0 h1 h2 h3
structure CalleeL (P : Program) (w : World) (K : PySem.W.Frag) (mg : Str → Option Value) (base : Heap) (T : CT) (k : Nat) (x : Str) (g : List Dt → Option (List Dt)) : Prop where
  ex : ∃ (f : Addr) (fd : FuncData) (ps : List Str) (n : Nat), FnOk P w K mg base CX0 k f fd ps (spL K T n g) ∧ mg x = some (.ref f) ∧ PySem.W.keepIn K (.ref f) = true ∧ Binds K fd ps [] ∧ ∀ ds d, g ds = some d → ds.length = n
theorem calleeL_of {x qual y : Str} {st : Stmt} {f : Addr} {fd : FuncData} {ps : List Str} {k n m : Nat} {g : Env → Option (List Dt)} (F : Fun K y qual st f fd) (O : FnOk P w K mg base CX0 k f fd ps (spL K T n (runL n m g))) (hm : mg x = some (.ref f)) (hb : Binds K fd ps []) : CalleeL P w K mg base T k x (runL n m g) :=
  ⟨f, fd, ps, n, O, hm, F.kp, hb, fun ds d h => (ite_opt (by unfold runL at h; exact h)).1⟩
end
section
variable {X : Cx} {T : CT}
def fCallL (g : List Dt → Option (List Dt)) (a : Env → Option (List Dt)) : Env → Option (List Dt) := fun r => (a r).bind g
theorem dl_call {x : Str} {k : Nat} {g : List Dt → Option (List Dt)} {p pos : Pos} {e : Expr} {es : List Expr} {fa : Env → Option (List Dt)} (C : CalleeL X.prog X.w X.K X.mg X.base T k x g) (hr : Room k X.A) (ha : DA X T (e :: es) fa) (hg : Gl X x := by rfl)
    (hdb : (x == ("__debug__" : Str)) = false := by decide +kernel) (he : starEach (e :: es) X.env = (false, eval e X.env) :: starEach es X.env := by rfl) (hpl : (backTo pos (starEach es X.env)).any (·.1) = false := by rfl) : DL X T (.Call (.Name x p) (e :: es) [] pos) (fCallL g fa) := by
  obtain ⟨f, fd, ps, n, O, hm, hk, hb, hn⟩ := C.ex
  obtain ⟨ta, pa, ga⟩ := ha.ex
  refine ⟨_, pe_call (E := E0) O hr hg hm hk hb .nil pass0 pa hdb he hpl, fun G H σ r d F h Q q => ?_⟩
  unfold fCallL at h
  cases e1 : fa r with
  | none => rw [e1] at h; cases h
  | some ds =>
    rw [e1] at h
    replace h : g ds = some d := h
    refine ga G H σ r ds F e1 _ fun vs G1 H1 n1 p1 => ?_
    rw [List.append_nil]
    exact ⟨by rw [p1.length]; exact hn ds d h, G1, ds, d, n1.gh, p1, h, fun p xs G2 H2 n2 h0 h1 h2 h3 => q p xs G2 H2 (n1.trans n2) (n1.hh.free h0) h1 h2 h3⟩
end
end PL

/-! ### comprehensions over pairs; zip -/
namespace PL
open PySem PySem.Spec PyProof.Rows L2
def compP (i j : Nat) (c : Env → Option Bool) (e : Env → Option Dt) : List Dt → Env → Option (List Dt)
  | [], _ => some []
  | .tup [x, y] :: xs, r => match c ((r.set i (.val x)).set j (.val y)) with
    | some true => (match e ((r.set i (.val x)).set j (.val y)) with
      | some d => (match compP i j c e xs r with
        | some ds => some (d :: ds)
        | none => none)
      | none => none)
    | some false => compP i j c e xs r
    | none => none
  | _ :: _, _ => none
def fCompP (f : Env → Option (List Dt)) (i j : Nat) (vs : List Nat) (c : Env → Option Bool) (e : Env → Option Dt) : Env → Option (List Dt) := fun r => match f r with
  | some items => if items.length ≤ 100000 then compP i j c e items (wipeE r vs) else none
  | none => none
theorem compP_some {i j : Nat} {c : Env → Option Bool} {e : Env → Option Dt} {r : Env} {d : Dt} {xs ds : List Dt} (h : compP i j c e (d :: xs) r = some ds) : ∃ x y, d = .tup [x, y] ∧
    ((c ((r.set i (.val x)).set j (.val y)) = some false ∧ compP i j c e xs r = some ds) ∨ (c ((r.set i (.val x)).set j (.val y)) = some true ∧ ∃ d' ds', e ((r.set i (.val x)).set j (.val y)) = some d' ∧ compP i j c e xs r = some ds' ∧ ds = d' :: ds')) := by
  unfold compP at h
  split at h
  · rename_i h0; cases h0
  · rename_i x y xs' h0
    cases h0
    refine ⟨x, y, rfl, ?_⟩
    split at h
    · rename_i hc
      split at h
      · rename_i d' he
        split at h
        · rename_i ds' hr
          cases h
          exact .inr ⟨hc, d', ds', he, hr, rfl⟩
        · cases h
      · cases h
    · rename_i hc
      exact .inl ⟨hc, h⟩
    · cases h
  · cases h
theorem compP_len {i j : Nat} {c : Env → Option Bool} {e : Env → Option Dt} {r : Env} {items : List Dt} : ∀ {ds : List Dt}, compP i j c e items r = some ds → ds.length ≤ items.length := by
  induction items with
  | nil => intro ds h; cases h; exact Nat.le_refl _
  | cons x xs ih =>
    intro ds h
    obtain ⟨a, b, _, k | ⟨_, d', ds', _, k, z⟩⟩ := compP_some h
    · have := ih k.2
      rw [List.length_cons]; omega
    · have := ih k
      rw [z, List.length_cons, List.length_cons]; omega
theorem wipe_any {τ : L2.St} {j : Nat} {x : Option V} {vs : List Nat} (h : j ∈ vs) : wipe (τ.set j x) vs = wipe τ vs := by
  apply List.ext_getElem?
  intro i
  by_cases hi : i ∈ vs
  · by_cases hl : i < τ.length
    · rw [wipe_in hi (by rw [List.length_set]; exact hl), wipe_in hi hl]
    · rw [List.getElem?_eq_none (by rw [wipe_length, List.length_set]; omega), List.getElem?_eq_none (by rw [wipe_length]; omega)]
  · rw [wipe_out hi, wipe_out hi, List.getElem?_set_ne (fun e => hi (by rw [← e]; exact h))]
section
variable {X : Cx} {T : CT} {K : PySem.W.Frag}
theorem gl_lcP {wi : TI} {f : Env → Option (List Dt)} {a b : Nat} {vs : List Nat} {c : Env → Option Bool} {e : Env → Option Dt} (hi : GI K T wi f) (ha : a ∈ vs) (hb : b ∈ vs) :
    GL K T (tLc wi (gTup K 2 (gCons (gName a) (gCons (gName b) gNil))) (cT K T c) (cE K T e) vs) (fCompP f a b vs c e) := fun G H σ r total F h Q q => by
  unfold fCompP at h
  cases e1 : f r with
  | none => rw [e1] at h; cases h
  | some items =>
    rw [e1] at h
    obtain ⟨hlen, h⟩ := ite_opt h
    refine hi G H σ r items F e1 _ fun J G1 H1 n1 ok D hD => ?_
    have hHD : H D = none := n1.hh.free hD
    have F1 : Fits K T G1 H1 (wipe σ vs) (wipeE r vs) := (F.nx n1).wipe vs
    have tl : total.length ≤ items.length := compP_len h
    refine ⟨fun i m H' => m = items.length - i ∧ i ≤ items.length ∧ ∃ (G' : Hp) (acc : List V) (dsA dsB : List Dt), Nx G1 H1 G' H' ∧ G' D = none ∧ H' D = some (.lst acc) ∧ RpA K T G' acc dsA ∧ compP a b c e (items.drop i) (wipeE r vs) = some dsB ∧ dsA ++ dsB = total,
      ⟨items.length, by simp, Nat.zero_le _, G1, [], [], total, Nx.newH n1.gh hD, n1.gh.free hD, upd_same, .nil, by simpa using h, rfl⟩, ?_⟩
    rintro i m H' ⟨rfl, hi', G', acc, dsA, dsB, n, hGD, hHD', ra, hc, happ⟩
    by_cases hlt : i < items.length
    · refine .inr ⟨ok.goes i H' hlt (n.gg.trans n.gh), fun H2 => ∃ (G' : Hp) (acc : List V) (dsA dsB : List Dt), Nx G1 H1 G' H2 ∧ G' D = none ∧ H2 D = some (.lst acc) ∧ RpA K T G' acc dsA ∧ compP a b c e (items.drop (i + 1)) (wipeE r vs) = some dsB ∧ dsA ++ dsB = total,
        fun H2 w => ⟨items.length - (i + 1), by omega, rfl, hlt, w⟩, fun x H2 y => ?_⟩
      rw [List.drop_eq_getElem_cons hlt] at hc
      obtain ⟨u, v, hd, hc⟩ := compP_some hc
      obtain ⟨G2, n2, rx⟩ := ok.yields i H' x H2 items[i] (List.getElem?_eq_getElem hlt) (n.gg.trans n.gh) y G' n.gg n.gh
      have hGD2 : G2 D = none := n2.out hGD hHD'
      have hHD2 : H2 D = some (.lst acc) := n2.hh _ _ hHD'
      rw [hd] at rx
      cases rx with
      | @tup p ws _ s1 s2 =>
        cases s2 with
        | @cons v1 _ _ _ r1 s2 =>
          cases s2 with
          | @cons v2 _ _ _ r2 s2 =>
            cases s2
            refine ⟨p, [v1, v2], rfl, SqT.mono n2.gh s1, rfl, v1, [v2], rfl, v2, [], rfl, rfl, ?_⟩
            have F2 : Fits K T G2 H2 (((wipe σ vs).set a (some v1)).set b (some v2)) (((wipeE r vs).set a (.val u)).set b (.val v)) := ((F1.nx (n.trans n2)).set r1).set r2
            refine ⟨by rw [wipe_any hb, wipe_set ha], ?_⟩
            have accl : acc.length < sizeLine := by
              have e1 := ra.length
              have e2 : dsA.length ≤ total.length := by rw [← happ, List.length_append]; omega
              have : (100000 : Nat) < sizeLine := by decide
              omega
            rcases hc with ⟨hb', hrest⟩ | ⟨hb', d, ds, he, hrest, rfl⟩
            · refine ⟨G2, _, false, F2, hb', fun G3 H3 n3 => ?_⟩
              dsimp only
              rw [if_neg Bool.false_ne_true]
              exact ⟨G3, acc, dsA, dsB, (n.trans n2).trans n3, n3.out hGD2 hHD2, n3.hh _ _ hHD2, RpA.mono (n2.gg.trans n3.gg) _ ra, hrest, happ⟩
            · refine ⟨G2, _, true, F2, hb', fun G3 H3 n3 => ?_⟩
              dsimp only
              rw [if_pos rfl]
              refine ⟨G3, _, d, F2.nx n3, he, fun v G4 H4 n4 r4 => ⟨acc, n4.hh _ _ (n3.hh _ _ hHD2), accl, ?_⟩⟩
              have hGD4 : G4 D = none := (n3.trans n4).out hGD2 hHD2
              have n14 := ((n.trans n2).trans n3).trans n4
              refine ⟨G4, acc ++ [v], dsA ++ [d], ds, ⟨n14.gg, fun b o hb => ?_, same_updR n14.gh hGD4, n14.fr⟩, hGD4, upd_same, (RpA.mono ((n2.gg.trans n3.gg).trans n4.gg) _ ra).append (.cons r4 .nil), hrest, by rw [List.append_assoc]; exact happ⟩
              rw [upd_ne (ne_of_none hb hD)]
              exact n14.hh _ _ hb
    · have e : i = items.length := by omega
      subst e
      refine .inl ⟨ok.stops H' (n.gg.trans n.gh), ?_⟩
      rw [List.drop_length] at hc
      cases hc
      rw [List.append_nil] at happ
      subst happ
      exact q D acc G' H' (n1.trans n) hHD hGD hHD' ra
theorem pg_pair {a b : Nat} {x y : Str} {k : Nat} {px py pos : Pos} (hc : X.calm = true) (h1 : PG X (.Name x px) (gName a)) (h2 : PG X (.Name y py) (gName b)) : PG X (.Tuple [.Name x px, .Name y py] k pos) (gTup X.K 2 (gCons (gName a) (gCons (gName b) gNil))) :=
  pg_tup hc (pgs_cons h1 (pgs_cons h2 pgs_nil))
theorem dl_lcP {elt iter : Expr} {x y : Str} {px py tpos : Pos} {tk : Nat} {ifs : List Expr} {scope : Scope} {own : List (Str × Nat)} {pos : Pos} {f : Env → Option (List Dt)} {c : Env → Option Bool} {e : Env → Option Dt} {a b : Nat} (hc : X.calm = true) (hN : X.N.Nodup) (hi : DI X T (.Tuple [.Name x px, .Name y py] tk tpos) iter f) (ok : BlkOk X.N X.env.scope scope own) (ha : a ∈ own.map (·.2)) (hb : b ∈ own.map (·.2))
    (hg : ∀ (s : Shared) (H : Hp) (C : Addr) (cl : List (Str × Addr)) (fp : List Addr), PG (X.blk s H scope (compEnvC scope cl C X.env) fp) (.Tuple [.Name x px, .Name y py] tk tpos) (gTup X.K 2 (gCons (gName a) (gCons (gName b) gNil)))) (ht : ∀ (s : Shared) (H : Hp) (C : Addr) (cl : List (Str × Addr)) (fp : List Addr), DTs (X.blk s H scope (compEnvC scope cl C X.env) fp) T ifs c)
    (he : ∀ (s : Shared) (H : Hp) (C : Addr) (cl : List (Str × Addr)) (fp : List Addr), DE (X.blk s H scope (compEnvC scope cl C X.env) fp) T elt e) (hs : ∀ x, foldedSetIterable iter X.env x = pure x := by intro _; rfl) :
    DL X T (.ListComp elt [⟨.Tuple [.Name x px, .Name y py] tk tpos, iter, ifs, 0⟩] scope pos) (fCompP f a b (own.map (·.2)) c e) := by
  obtain ⟨ti, pi, gi⟩ := hi.ex
  exact ⟨_, pe_lc hc hN pi ok hg (fun s H C cl fp => (ht s H C cl fp).pt) (fun s H C cl fp => (he s H C cl fp).pe) hs, gl_lcP gi ha hb⟩
theorem ds_setLcP (i : Nat) {z : Str} {pz : Pos} {elt iter : Expr} {x y : Str} {px py tpos : Pos} {tk : Nat} {ifs : List Expr} {scope : Scope} {own : List (Str × Nat)} {pos spos : Pos} {f : Env → Option (List Dt)} {c : Env → Option Bool} {e : Env → Option Dt} {a b : Nat} (hc : X.calm = true) (hN : X.N.Nodup) (hi : DI X T (.Tuple [.Name x px, .Name y py] tk tpos) iter f) (ok : BlkOk X.N X.env.scope scope own) (ha : a ∈ own.map (·.2)) (hb : b ∈ own.map (·.2))
    (hg : ∀ (s : Shared) (H : Hp) (C : Addr) (cl : List (Str × Addr)) (fp : List Addr), PG (X.blk s H scope (compEnvC scope cl C X.env) fp) (.Tuple [.Name x px, .Name y py] tk tpos) (gTup X.K 2 (gCons (gName a) (gCons (gName b) gNil)))) (ht : ∀ (s : Shared) (H : Hp) (C : Addr) (cl : List (Str × Addr)) (fp : List Addr), DTs (X.blk s H scope (compEnvC scope cl C X.env) fp) T ifs c)
    (he : ∀ (s : Shared) (H : Hp) (C : Addr) (cl : List (Str × Addr)) (fp : List Addr), DE (X.blk s H scope (compEnvC scope cl C X.env) fp) T elt e)
    (hsw : swapsWith (.ListComp elt [⟨.Tuple [.Name x px, .Name y py] tk tpos, iter, ifs, 0⟩] scope pos) (some (.Name z pz)) spos.line X.env = pure true) (hy : X.N[i]? = some z := by rfl) (hyl : X.env.scope.names.lookup z = some .local := by rfl) (hs : ∀ x, foldedSetIterable iter X.env x = pure x := by intro _; rfl) :
    DS X T (.Assign [.Name z pz] (.ListComp elt [⟨.Tuple [.Name x px, .Name y py] tk tpos, iter, ifs, 0⟩] scope pos) spos) (fSet i (fL (fCompP f a b (own.map (·.2)) c e))) := by
  obtain ⟨ti, pi, gi⟩ := hi.ex
  exact ⟨_, ps_setLc hc hN hy hyl hsw pi ok hg (fun s H C cl fp => (ht s H C cl fp).pt) (fun s H C cl fp => (he s H C cl fp).pe) hs, gs_set (ge_l (gl_lcP gi ha hb))⟩
/-! zip -/
def zipL (as bs : List Dt) : List Dt := List.zipWith (fun x y => .tup [x, y]) as bs
def zipD (ds : List Dt) : Option (List Dt) := match ds with
  | [.lst as, .lst bs] => some (zipL as bs)
  | _ => none
theorem itok_zip {p q : Addr} {xs ys : List V} {as bs : List Dt} {B : Hp} (h1 : SqL K B p xs) (h2 : SqL K B q ys) (r1 : RpA K T B xs as) (r2 : RpA K T B ys bs) : ItOk K T (Itz K p q) B (zipL as bs) := by
  have hl : (zipL as bs).length = min xs.length ys.length := by unfold zipL; rw [List.length_zipWith, r1.length, r2.length]
  refine ⟨fun i H hi e => ?_, fun H e => ⟨xs, ys, e.seq h1, e.seq h2, by rw [hl]; omega⟩, fun i H v H' d hd e y G g1 g2 => ?_⟩
  · rw [hl] at hi
    exact ⟨xs, ys, xs[i]'(by omega), ys[i]'(by omega), e.seq h1, e.seq h2, List.getElem?_eq_getElem (by omega), List.getElem?_eq_getElem (by omega)⟩
  · obtain ⟨A, x, z, rfl, hA, rfl, y1, y2⟩ := y
    have e1 := y1 xs (e.seq h1)
    have e2 := y2 ys (e.seq h2)
    obtain ⟨da, k1, q1⟩ := r1.getV e1
    obtain ⟨db, k2, q2⟩ := r2.getV e2
    unfold zipL at hd
    rw [List.getElem?_zipWith, k1, k2] at hd
    cases hd
    have n := Nx.new (o := .tup [x, z]) g2 hA
    exact ⟨_, n, .tup (SqT.of upd_same) (.cons (Rp.mono (g1.trans n.gg) _ q1) (.cons (Rp.mono (g1.trans n.gg) _ q2) .nil)) (fun _ _ _ => upd_same)⟩
theorem di_zip {e e2 : Expr} {f : Env → Option (List Dt)} {p pos tpos : Pos} {elts : List Expr} {kk : Nat} (hm : X.mg "zip" = none) (ha : DA X T [e, e2] f) (hg : Gl X "zip" := by rfl) (hs : starEach [e, e2] X.env = (false, eval e X.env) :: starEach [e2] X.env := by rfl) (hpl : (backTo pos (starEach [e2] X.env)).any (·.1) = false := by rfl) :
    DI X T (.Tuple elts kk tpos) (.Call (.Name "zip" p) [e, e2] [] pos) (fArgs zipD f) := by
  obtain ⟨ta, pa, ga⟩ := ha.ex
  refine ⟨_, pi_zip hg hm pa hs hpl, fun G H σ r items F e R q => ?_⟩
  unfold fArgs at e
  cases e1 : f r with
  | none => rw [e1] at e; cases e
  | some ds =>
    rw [e1] at e
    replace e : zipD ds = some items := e
    unfold zipD at e
    split at e
    · cases e
      refine ga G H σ r _ F e1 _ fun vs G1 H1 n1 p1 => ?_
      cases p1 with
      | cons p1 p2 =>
        cases p2 with
        | cons p2 p3 =>
          cases p3
          cases p1 with
          | lst a1 a2 =>
            cases p2 with
            | lst b1 b2 => exact ⟨_, _, _, _, rfl, SqL.of (n1.gh _ _ a1), SqL.of (n1.gh _ _ b1), q _ G1 H1 n1 (itok_zip (SqL.of a1) (SqL.of b1) a2 b2)⟩
    · cases e
end
end PL

/-! ### own trees: places within, changes -/
namespace PL
open PySem PySem.Spec PyProof.Rows L2
section
variable {K : PySem.W.Frag} {T : CT} {G H G' H' : Hp}

def kids (H : Hp) : V → Option (List V)
  | .ref a => (match H a with
    | some (.lst vs) => some vs
    | some (.ins _ _ fs) => some (fs.map Prod.snd)
    | _ => none)
  | _ => none
def vAt (H : Hp) : V → List Nat → Option V
  | v, [] => some v
  | v, k :: ks => match kids H v with
    | some vs => (match vs[k]? with
      | some w => vAt H w ks
      | none => none)
    | none => none
def OT.kids : OT → Option (List OT)
  | .node l => some l
  | .ob _ l => some l
  | .leaf _ => none
  | .dic _ _ => none
def OT.withKids : OT → List OT → OT
  | .node _, l => .node l
  | .ob c _, l => .ob c l
  | .leaf d, _ => .leaf d
  | .dic ks l, _ => .dic ks l
def OT.at : OT → List Nat → Option OT
  | t, [] => some t
  | t, k :: ks => match t.kids with
    | some l => (match l[k]? with
      | some u => OT.at u ks
      | none => none)
    | none => none
def OT.put : OT → List Nat → OT → OT
  | _, [], u => u
  | t, k :: ks, u => match t.kids with
    | some l => (match l[k]? with
      | some w => t.withKids (l.set k (OT.put w ks u))
      | none => t)
    | none => t
theorem kids_mono (e : Same H H') {v : V} {vs : List V} (h : kids H v = some vs) : kids H' v = some vs := by
  unfold kids at h ⊢
  split at h
  · rename_i a
    split at h
    · rename_i ws h1
      rw [e _ _ h1]; exact h
    · rename_i h1
      rw [e _ _ h1]; exact h
    · cases h
  · cases h
theorem vAt_mono (e : Same H H') : ∀ {ks : List Nat} {v w : V}, vAt H v ks = some w → vAt H' v ks = some w
  | [], v, w, h => h
  | k :: ks, v, w, h => by
    unfold vAt at h ⊢
    split at h
    · rename_i vs h1
      rw [kids_mono e h1]
      try dsimp only
      split at h
      · rename_i x h2
        first | exact vAt_mono e h | (rw [h2]; exact vAt_mono e h)
      · cases h
    · cases h
theorem vAt_snoc : ∀ {ks : List Nat} {k : Nat} {v w x : V} {vs : List V}, vAt H v ks = some w → kids H w = some vs → vs[k]? = some x → vAt H v (ks ++ [k]) = some x
  | [], k, v, w, x, vs, h, h1, h2 => by
    cases h
    show vAt H v [k] = some x
    unfold vAt
    rw [h1]
    dsimp only
    rw [h2]
    rfl
  | j :: ks, k, v, w, x, vs, h, h1, h2 => by
    show vAt H v (j :: (ks ++ [k])) = some x
    unfold vAt at h ⊢
    split at h
    · rename_i us h3
      try dsimp only
      split at h
      · rename_i y h4
        exact vAt_snoc h h1 h2
      · cases h
    · cases h
theorem OT.at_snoc : ∀ {ks : List Nat} {k : Nat} {t u x : OT} {l : List OT}, t.at ks = some u → u.kids = some l → l[k]? = some x → t.at (ks ++ [k]) = some x
  | [], k, t, u, x, l, h, h1, h2 => by
    cases h
    show OT.at t [k] = some x
    unfold OT.at
    rw [h1]
    dsimp only
    rw [h2]
    rfl
  | j :: ks, k, t, u, x, l, h, h1, h2 => by
    show OT.at t (j :: (ks ++ [k])) = some x
    unfold OT.at at h ⊢
    split at h
    · rename_i us h3
      try dsimp only
      split at h
      · rename_i y h4
        exact OT.at_snoc h h1 h2
      · cases h
    · cases h
mutual
theorem Ow.uniq : ∀ (t : OT) {v : V} {as bs : List Addr}, Ow K T G H v t as → Ow K T G H v t bs → as = bs
  | .leaf d, _, _, _, h, k => by cases h; cases k; rfl
  | .node l, _, _, _, h, k => by
    cases h with
    | node h1 h2 h3 =>
      cases k with
      | node k1 k2 k3 =>
        rw [h1] at k1
        cases k1
        rw [OwA.uniq l h3 k3]
  | .ob c l, _, _, _, h, k => by
    cases h with
    | ob h1 h2 h3 h4 =>
      cases k with
      | ob k1 k2 k3 k4 =>
        rw [h1] at k1
        cases k1
        rw [OwA.uniq l h4 k4]
  | .dic ks l, _, _, _, h, k => by cases h; cases k; rfl
theorem OwA.uniq : ∀ (ts : List OT) {vs : List V} {as bs : List Addr}, OwA K T G H vs ts as → OwA K T G H vs ts bs → as = bs
  | [], _, _, _, h, k => by cases h; cases k; rfl
  | t :: ts, _, _, _, h, k => by
    cases h with
    | cons h1 h2 =>
      cases k with
      | cons k1 k2 => rw [Ow.uniq t h1 k1, OwA.uniq ts h2 k2]
end
/-- one of several -/
theorem OwA.split : ∀ {ts : List OT} {vs : List V} {as : List Addr} {k : Nat} {t : OT}, OwA K T G H vs ts as → ts[k]? = some t →
    ∃ v l1 m l2, vs[k]? = some v ∧ Ow K T G H v t m ∧ as = l1 ++ (m ++ l2) ∧ ∀ H' t' m', Ow K T G H' v t' m' → (∀ a, a ∈ l1 ∨ a ∈ l2 → H' a = H a) → OwA K T G H' vs (ts.set k t') (l1 ++ (m' ++ l2))
  | [], _, _, k, t, h, e => by simp at e
  | u :: us, _, _, 0, t, .cons (v := v) (as := m) (bs := bs) h1 h2, e => by
    simp at e
    subst e
    refine ⟨v, [], m, bs, rfl, h1, rfl, fun H' t' m' q k => ?_⟩
    exact OwA.cons (as := m') (bs := bs) q (OwA.mv (Same.refl G) us h2 (fun a ha => (OwA.inn us h2 a ha).1) (fun a ha => k a (.inr ha)))
  | u :: us, _, _, k + 1, t, .cons (v := v) (as := m0) (bs := bs) h1 h2, e => by
    obtain ⟨w, l1, m, l2, e1, q, rfl, kk⟩ := OwA.split (k := k) (t := t) h2 (by simpa using e)
    refine ⟨w, m0 ++ l1, m, l2, by simpa using e1, q, by simp [List.append_assoc], fun H' t' m' q' hk => ?_⟩
    have r := OwA.cons (Ow.mv (Same.refl G) u h1 (fun a ha => (Ow.inn u h1 a ha).1) (fun a ha => hk a (.inl (List.mem_append_left _ ha)))) (kk H' t' m' q' fun a ha => hk a (ha.imp (List.mem_append_right _) id))
    rw [List.append_assoc]
    exact r
theorem nodup_mid {α : Type} {l1 m l2 m' : List α} {B : α → Prop} (h : (l1 ++ (m ++ l2)).Nodup) (hm : m'.Nodup) (k : ∀ a ∈ m', a ∈ m ∨ a ∉ l1 ++ (m ++ l2)) : (l1 ++ (m' ++ l2)).Nodup := by
  rw [List.nodup_append] at h ⊢
  obtain ⟨h1, h2, h3⟩ := h
  rw [List.nodup_append] at h2 ⊢
  obtain ⟨h4, h5, h6⟩ := h2
  refine ⟨h1, ⟨hm, h5, fun a ha b hb e => ?_⟩, fun a ha b hb e => ?_⟩
  · subst e
    rcases k a ha with z | z
    · exact h6 a z a hb rfl
    · exact z (List.mem_append_right _ (List.mem_append_right _ hb))
  · subst e
    rcases List.mem_append.mp hb with z | z
    · rcases k a z with y | y
      · exact h3 a ha a (List.mem_append_left _ y) rfl
      · exact y (List.mem_append_left _ ha)
    · exact h3 a ha a (List.mem_append_right _ z) rfl
/-- a place within an own tree: what stands there, and how the whole changes with it -/
theorem Ow.place : ∀ {ks : List Nat} {t u : OT} {v : V} {as : List Addr}, Ow K T G H v t as → as.Nodup → t.at ks = some u →
    ∃ w bs, vAt H v ks = some w ∧ Ow K T G H w u bs ∧ (∀ a ∈ bs, a ∈ as) ∧ bs.Nodup ∧
      ∀ H' u' bs', (∀ a ∈ as, a ∉ bs → H' a = H a) → Ow K T G H' w u' bs' → bs'.Nodup → (∀ a ∈ bs', a ∈ bs ∨ a ∉ as) → ∃ as', Ow K T G H' v (t.put ks u') as' ∧ as'.Nodup ∧ ∀ a ∈ as', a ∈ as ∨ a ∈ bs'
  | [], t, u, v, as, h, nd, e => by
    cases e
    exact ⟨v, as, rfl, h, fun a ha => ha, nd, fun H' u' bs' _ q nd' _ => ⟨bs', q, nd', fun a ha => .inr ha⟩⟩
  | k :: ks, .leaf d, u, v, as, h, nd, e => by cases e
  | k :: ks, .dic _ _, u, v, as, h, nd, e => by cases e
  | k :: ks, .node l, u, _, _, .node (a := p) (vs := vs) (as := bs) h1 h2 h3, nd, e => by
    have e' : (match l[k]? with | some u => OT.at u ks | none => none) = some u := e
    split at e'
    · rename_i x hx
      obtain ⟨w0, l1, m, l2, ew, q, rfl, kk⟩ := h3.split hx
      rw [List.nodup_cons] at nd
      obtain ⟨np, nd⟩ := nd
      have ndm : m.Nodup := (List.nodup_append.mp (List.nodup_append.mp nd).2.1).1
      obtain ⟨w, cs, e1, q1, sub, ndc, big⟩ := Ow.place (ks := ks) q ndm e'
      have subm : ∀ a ∈ cs, a ∈ l1 ++ (m ++ l2) := fun a ha => List.mem_append_right _ (List.mem_append_left _ (sub a ha))
      refine ⟨w, cs, ?_, q1, fun a ha => List.mem_cons_of_mem _ (subm a ha), ndc, fun H' u' bs' same q' nd' inn => ?_⟩
      · have hk : kids H (.ref p) = some vs := by
          show (match H p with | some (.lst vs) => some vs | some (.ins _ _ fs) => some (fs.map Prod.snd) | _ => none) = _
          rw [h1]
        unfold vAt
        rw [hk]
        dsimp only
        rw [ew]
        exact e1
      · have out : ∀ a, a ∈ l1 ∨ a ∈ l2 → a ∉ m := fun a ha hm => by
          rw [List.nodup_append] at nd
          rcases ha with ha | ha
          · exact nd.2.2 a ha a (List.mem_append_left _ hm) rfl
          · exact (List.nodup_append.mp nd.2.1).2.2 a hm a ha rfl
        obtain ⟨m', q2, nd2, sub2⟩ := big H' u' bs' (fun a ha hc => same a (List.mem_cons_of_mem _ (List.mem_append_right _ (List.mem_append_left _ ha))) hc) q' nd' (fun a ha => (inn a ha).imp id fun z hm => z (List.mem_cons_of_mem _ (List.mem_append_right _ (List.mem_append_left _ hm))))
        have keep : ∀ a, a ∈ l1 ∨ a ∈ l2 → H' a = H a := fun a ha => same a (List.mem_cons_of_mem _ (ha.elim (List.mem_append_left _) fun z => List.mem_append_right _ (List.mem_append_right _ z))) fun hc => out a ha (sub a hc)
        have hp : p ∉ cs := fun hc => np (subm p hc)
        have far : ∀ a ∈ m', a ∈ m ∨ a ∉ l1 ++ (m ++ l2) := fun a ha => by
          rcases sub2 a ha with z | z
          · exact .inl z
          · rcases inn a z with y | y
            · exact .inl (sub a y)
            · exact .inr fun w => y (List.mem_cons_of_mem _ w)
        refine ⟨p :: (l1 ++ (m' ++ l2)), ?_, ?_, fun a ha => ?_⟩
        · have e2 : (OT.node l).put (k :: ks) u' = .node (l.set k (x.put ks u')) := by
            show (match l[k]? with | some w => (OT.node l).withKids (l.set k (OT.put w ks u')) | none => OT.node l) = _
            rw [hx]
            rfl
          rw [e2]
          exact .node ((same p List.mem_cons_self hp).trans h1) h2 (kk H' _ m' q2 keep)
        · rw [List.nodup_cons]
          refine ⟨fun hm => ?_, nodup_mid (B := fun _ => True) nd nd2 far⟩
          rcases List.mem_append.mp hm with z | z
          · exact np (List.mem_append_left _ z)
          · rcases List.mem_append.mp z with z | z
            · rcases sub2 p z with y | y
              · exact np (List.mem_append_right _ (List.mem_append_left _ y))
              · rcases inn p y with x | x
                · exact hp x
                · exact x List.mem_cons_self
            · exact np (List.mem_append_right _ (List.mem_append_right _ z))
        · rcases List.mem_cons.mp ha with rfl | ha
          · exact .inl List.mem_cons_self
          · rcases List.mem_append.mp ha with z | z
            · exact .inl (List.mem_cons_of_mem _ (List.mem_append_left _ z))
            · rcases List.mem_append.mp z with z | z
              · exact (sub2 a z).imp (fun y => List.mem_cons_of_mem _ (List.mem_append_right _ (List.mem_append_left _ y))) id
              · exact .inl (List.mem_cons_of_mem _ (List.mem_append_right _ (List.mem_append_right _ z)))
    · cases e'
  | k :: ks, .ob c l, u, _, _, .ob (a := p) (dx := dx) (fs := fs) (as := bs) h1 hf h2 h3, nd, e => by
    have e' : (match l[k]? with | some u => OT.at u ks | none => none) = some u := e
    split at e'
    · rename_i x hx
      obtain ⟨w0, l1, m, l2, ew, q, rfl, kk⟩ := h3.split hx
      rw [List.nodup_cons] at nd
      obtain ⟨np, nd⟩ := nd
      have ndm : m.Nodup := (List.nodup_append.mp (List.nodup_append.mp nd).2.1).1
      obtain ⟨w, cs, e1, q1, sub, ndc, big⟩ := Ow.place (ks := ks) q ndm e'
      have subm : ∀ a ∈ cs, a ∈ l1 ++ (m ++ l2) := fun a ha => List.mem_append_right _ (List.mem_append_left _ (sub a ha))
      refine ⟨w, cs, ?_, q1, fun a ha => List.mem_cons_of_mem _ (subm a ha), ndc, fun H' u' bs' same q' nd' inn => ?_⟩
      · have hk : kids H (.ref p) = some (fs.map Prod.snd) := by
          show (match H p with | some (.lst vs) => some vs | some (.ins _ _ fs) => some (fs.map Prod.snd) | _ => none) = _
          rw [h1]
        unfold vAt
        rw [hk]
        dsimp only
        rw [ew]
        exact e1
      · have out : ∀ a, a ∈ l1 ∨ a ∈ l2 → a ∉ m := fun a ha hm => by
          rw [List.nodup_append] at nd
          rcases ha with ha | ha
          · exact nd.2.2 a ha a (List.mem_append_left _ hm) rfl
          · exact (List.nodup_append.mp nd.2.1).2.2 a hm a ha rfl
        obtain ⟨m', q2, nd2, sub2⟩ := big H' u' bs' (fun a ha hc => same a (List.mem_cons_of_mem _ (List.mem_append_right _ (List.mem_append_left _ ha))) hc) q' nd' (fun a ha => (inn a ha).imp id fun z hm => z (List.mem_cons_of_mem _ (List.mem_append_right _ (List.mem_append_left _ hm))))
        have keep : ∀ a, a ∈ l1 ∨ a ∈ l2 → H' a = H a := fun a ha => same a (List.mem_cons_of_mem _ (ha.elim (List.mem_append_left _) fun z => List.mem_append_right _ (List.mem_append_right _ z))) fun hc => out a ha (sub a hc)
        have hp : p ∉ cs := fun hc => np (subm p hc)
        have far : ∀ a ∈ m', a ∈ m ∨ a ∉ l1 ++ (m ++ l2) := fun a ha => by
          rcases sub2 a ha with z | z
          · exact .inl z
          · rcases inn a z with y | y
            · exact .inl (sub a y)
            · exact .inr fun w => y (List.mem_cons_of_mem _ w)
        refine ⟨p :: (l1 ++ (m' ++ l2)), ?_, ?_, fun a ha => ?_⟩
        · have e2 : (OT.ob c l).put (k :: ks) u' = .ob c (l.set k (x.put ks u')) := by
            show (match l[k]? with | some w => (OT.ob c l).withKids (l.set k (OT.put w ks u')) | none => OT.ob c l) = _
            rw [hx]
            rfl
          rw [e2]
          exact .ob ((same p List.mem_cons_self hp).trans h1) hf h2 (kk H' _ m' q2 keep)
        · rw [List.nodup_cons]
          refine ⟨fun hm => ?_, nodup_mid (B := fun _ => True) nd nd2 far⟩
          rcases List.mem_append.mp hm with z | z
          · exact np (List.mem_append_left _ z)
          · rcases List.mem_append.mp z with z | z
            · rcases sub2 p z with y | y
              · exact np (List.mem_append_right _ (List.mem_append_left _ y))
              · rcases inn p y with x | x
                · exact hp x
                · exact x List.mem_cons_self
            · exact np (List.mem_append_right _ (List.mem_append_right _ z))
        · rcases List.mem_cons.mp ha with rfl | ha
          · exact .inl List.mem_cons_self
          · rcases List.mem_append.mp ha with z | z
            · exact .inl (List.mem_cons_of_mem _ (List.mem_append_left _ z))
            · rcases List.mem_append.mp z with z | z
              · exact (sub2 a z).imp (fun y => List.mem_cons_of_mem _ (List.mem_append_right _ (List.mem_append_left _ y))) id
              · exact .inl (List.mem_cons_of_mem _ (List.mem_append_right _ (List.mem_append_right _ z)))
    · cases e'
end

section
variable {K : PySem.W.Frag} {T : CT} {B G0 H0 G H : Hp} {σ : L2.St} {r : Env}
/-- an own tree changes at a place -/
theorem St1.mutAt (S : St1 K T B G0 H0 G H σ r) {N : Addr → Prop} (htr : Tr K T G H (fun a => H0 a = none ∧ ¬ N a) σ r) (hN : ∀ a, N a → H0 a = none ∧ G a = none ∧ ∀ (j : Nat) (ds : List Dt), r[j]? = some (.own ds) → σ[j]? ≠ some (some (.ref a)))
    {i : Nat} {t u : OT} {ks : List Nat} (hr : r[i]? = some (.tre t)) (hu : t.at ks = some u) :
    ∃ v w bs, σ[i]? = some (some v) ∧ vAt H v ks = some w ∧ Ow K T G H w u bs ∧ bs.Nodup ∧ ∀ H' u' bs', (∀ a, a ∉ bs → ¬ N a → H' a = H a) → Same G H' → Ow K T G H' w u' bs' → bs'.Nodup → (∀ a ∈ bs', a ∈ bs ∨ N a) → (∀ a, N a → a ∉ bs) → St1 K T B G0 H0 G H' σ (r.set i (.tre (t.put ks u'))) := by
  obtain ⟨m, k1, k2, k3⟩ := htr
  obtain ⟨⟨v, hv, q⟩, nd, hP⟩ := k1 i t hr
  obtain ⟨w, bs, e1, q1, sub, ndb, big⟩ := Ow.place q nd hu
  have hi : i < r.length := (List.getElem?_eq_some_iff.mp hr).1
  refine ⟨v, w, bs, hv, e1, q1, ndb, fun H' u' bs' same gh q' nd' inn nb => ?_⟩
  have same' : ∀ a, a ∉ bs → H' a ≠ H a → N a := fun a ha hne => Classical.byContradiction fun hn => hne (same a ha hn)
  obtain ⟨as', q2, nd2, sub2⟩ := big H' u' bs' (fun a ha hb => same a hb (hP a ha).2) q' nd' (fun a ha => (inn a ha).imp id fun hn hm => (hP a hm).2 hn)
  have H0bs : ∀ a ∈ bs, H0 a = none := fun a ha => (hP a (sub a ha)).1
  have backT : ∀ (j : Nat) (x : OT), j ≠ i → (r.set i (.tre (t.put ks u')))[j]? = some (.tre x) → r[j]? = some (.tre x) := fun j x hj e => by
    rw [List.getElem?_set_ne (Ne.symm hj)] at e
    exact e
  have selfT : ∀ (x : OT), (r.set i (.tre (t.put ks u')))[i]? = some (.tre x) → x = t.put ks u' := fun x e => by
    rw [List.getElem?_set_self hi] at e
    cases e; rfl
  have backO : ∀ (j : Nat) (ds : List Dt), (r.set i (.tre (t.put ks u')))[j]? = some (.own ds) → j ≠ i ∧ r[j]? = some (.own ds) := fun j ds e => by
    by_cases hj : j = i
    · subst hj; rw [List.getElem?_set_self hi] at e; cases e
    · rw [List.getElem?_set_ne (Ne.symm hj)] at e
      exact ⟨hj, e⟩
  have as0 : ∀ a ∈ as', a ∈ m i ∨ N a := fun a ha => by
    rcases sub2 a ha with z | z
    · exact .inl z
    · exact (inn a z).imp (sub a) id
  have tr' : Tr K T G H' (fun a => H0 a = none) σ (r.set i (.tre (t.put ks u'))) := by
    refine ⟨fun j => if j = i then as' else m j, fun j x e => ?_, fun j k x y hjk ej ek a ha => ?_, fun j k x ds p ej ek ep => ?_⟩
    · by_cases hj : j = i
      · subst hj
        rw [selfT x e]
        simp only [if_true]
        refine ⟨⟨v, hv, q2⟩, nd2, fun a ha => ?_⟩
        rcases as0 a ha with z | z
        · exact (hP a z).1
        · exact (hN a z).1
      · simp only [hj, if_false]
        obtain ⟨⟨v', hv', q3⟩, nd3, hP3⟩ := k1 j x (backT j x hj e)
        refine ⟨⟨v', hv', Ow.mv (Same.refl G) x q3 (fun a ha => (Ow.inn x q3 a ha).1) fun a ha => same a (fun hb => k2 i j t x (Ne.symm hj) hr (backT j x hj e) a (sub a hb) ha) (hP3 a ha).2⟩, nd3, fun a ha => (hP3 a ha).1⟩
    · by_cases hj : j = i
      · subst hj
        have hk : k ≠ j := Ne.symm hjk
        simp only [if_true] at ha
        simp only [hk, if_false]
        rcases as0 a ha with z | z
        · exact k2 j k t y hjk hr (backT k y hk ek) a z
        · exact fun hm => ((k1 k y (backT k y hk ek)).2.2 a hm).2 z
      · simp only [hj, if_false] at ha
        by_cases hk : k = i
        · subst hk
          simp only [if_true]
          intro hm
          rcases as0 a hm with z | z
          · exact k2 j k x t hjk (backT j x hj ej) hr a ha z
          · exact ((k1 j x (backT j x hj ej)).2.2 a ha).2 z
        · simp only [hk, if_false]
          exact k2 j k x y hjk (backT j x hj ej) (backT k y hk ek) a ha
    · obtain ⟨hk, ek'⟩ := backO k ds ek
      by_cases hj : j = i
      · subst hj
        simp only [if_true]
        intro hm
        rcases as0 p hm with z | z
        · exact k3 j k t ds p hr ek' ep z
        · exact (hN p z).2.2 k ds ek' ep
      · simp only [hj, if_false]
        exact k3 j k x ds p (backT j x hj ej) ek' ep
  refine ⟨⟨gh, by rw [List.length_set]; exact S.fits.len, fun j d h => ?_, fun j ds h => ?_, fun j k ds es p h1 h2 h3 h4 => ?_, tr'.imp fun _ _ => trivial⟩, S.base, ⟨S.nx.gg, fun a o ha => ?_, gh, S.nx.fr⟩, fun j ds p h1 h2 => ?_, tr'⟩
  · by_cases hj : j = i
    · subst hj; rw [List.getElem?_set_self hi] at h; cases h
    · rw [List.getElem?_set_ne (Ne.symm hj)] at h
      exact S.fits.val j d h
  · obtain ⟨hj, h⟩ := backO j ds h
    obtain ⟨p, vs, e2, hg, hh, q3⟩ := S.fits.own j ds h
    refine ⟨p, vs, e2, hg, ?_, q3⟩
    rw [same p (fun hb => k3 i j t ds p hr h e2 (sub p hb)) (fun hn => (hN p hn).2.2 j ds h e2)]
    exact hh
  · exact S.fits.sep j k ds es p (backO j ds h1).2 (backO k es h2).2 h3 h4
  · rw [same a (fun hb => by rw [H0bs a hb] at ha; cases ha) (fun hn => by rw [(hN a hn).1] at ha; cases ha)]
    exact S.nx.hh a o ha
  · exact S.ow j ds p (backO j ds h1).2 h2
end
end PL

/-! ### own trees: how they are made -/
namespace PL
open PySem PySem.Spec PyProof.Rows L2
section
variable {K : PySem.W.Frag} {T : CT} {G H G' H' : Hp}
theorem owA_leaves : ∀ {vs : List V} {ds : List Dt}, RpA K T G vs ds → OwA K T G H vs (ds.map .leaf) []
  | _, _, .nil => .nil
  | _, _, .cons r t => OwA.cons (as := []) (bs := []) (.leaf r) (owA_leaves t)
def GU (K : PySem.W.Frag) (T : CT) (te : TE) (f : Env → Option OT) : Prop :=
  ∀ (G H : Hp) (σ : L2.St) (r : Env) (t : OT), Fits K T G H σ r → f r = some t → ∀ Q : VK, (∀ v as G' H', Nx G H G' H' → Ow K T G' H' v t as → as.Nodup → (∀ a ∈ as, H a = none) → Q v H') → te σ H Q
def GUA (K : PySem.W.Frag) (T : CT) (ta : TA) (f : Env → Option (List OT)) : Prop :=
  ∀ (G H : Hp) (σ : L2.St) (r : Env) (ts : List OT), Fits K T G H σ r → f r = some ts → ∀ Q : List V → Hp → Prop, (∀ vs as G' H', Nx G H G' H' → OwA K T G' H' vs ts as → as.Nodup → (∀ a ∈ as, H a = none) → Q vs H') → ta σ H Q
structure DU (X : Cx) (T : CT) (e : Expr) (f : Env → Option OT) : Prop where
  ex : ∃ te, PE X e te ∧ GU X.K T te f
structure DUA (X : Cx) (T : CT) (es : List Expr) (f : Env → Option (List OT)) : Prop where
  ex : ∃ ta, PA X es ta ∧ GUA X.K T ta f
variable {X : Cx}
def uL (f : Env → Option (List Dt)) : Env → Option OT := fun r => (f r).map fun ds => .node (ds.map .leaf)
theorem gu_l {te : TE} {f : Env → Option (List Dt)} (h : GL K T te f) : GU K T te (uL f) := fun G H σ r t F e Q q => by
  unfold uL at e
  cases e1 : f r with
  | none => rw [e1] at e; cases e
  | some ds =>
    rw [e1] at e
    cases e
    refine h G H σ r ds F e1 _ fun p vs G1 H1 n1 hp hg hh q1 => ?_
    exact q (.ref p) [p] G1 H1 n1 (.node hh hg (owA_leaves q1)) (by simp) (fun a ha => by rw [List.mem_singleton.mp ha]; exact hp)
theorem du_l {e : Expr} {f : Env → Option (List Dt)} (h : DL X T e f) : DU X T e (uL f) := by
  obtain ⟨te, pe, ge⟩ := h.ex
  exact ⟨te, pe, gu_l ge⟩
def uNil : Env → Option (List OT) := fun _ => some []
def uCons (a : Env → Option OT) (b : Env → Option (List OT)) : Env → Option (List OT) := fun r => match a r with
  | some t => (match b r with
    | some ts => some (t :: ts)
    | none => none)
  | none => none
theorem dua_nil : DUA X T [] uNil := ⟨_, pa_nil, fun G H σ r ts F e Q q => by
  cases e
  exact q [] [] G H (Nx.refl F.gh) .nil .nil (fun a ha => by cases ha)⟩
theorem dua_cons {e : Expr} {es : List Expr} {a : Env → Option OT} {b : Env → Option (List OT)} (ha : DU X T e a) (hb : DUA X T es b) (hs : starEach (e :: es) X.env = (false, eval e X.env) :: starEach es X.env := by rfl) : DUA X T (e :: es) (uCons a b) := by
  obtain ⟨ta, pa, ga⟩ := ha.ex
  obtain ⟨tb, pb, gb⟩ := hb.ex
  refine ⟨_, pa_cons pa pb hs, fun G H σ r ts F h Q q => ?_⟩
  unfold uCons at h
  split at h
  · rename_i t h1
    split at h
    · rename_i us h2
      cases h
      refine ga G H σ r t F h1 _ fun v as G1 H1 n1 q1 nd1 f1 => ?_
      refine gb G1 H1 σ r us (F.nx n1) h2 _ fun vs bs G2 H2 n2 q2 nd2 f2 => ?_
      refine q (v :: vs) (as ++ bs) G2 H2 (n1.trans n2) (.cons (q1.nx n2) q2) ?_ (fun a ha => ?_)
      · rw [List.nodup_append]
        refine ⟨nd1, nd2, fun a ha b hb e => ?_⟩
        subst e
        obtain ⟨_, o, ho⟩ := Ow.inn t q1 a ha
        rw [f2 a hb] at ho
        cases ho
      · rcases List.mem_append.mp ha with z | z
        · exact f1 a z
        · exact n1.hh.free (f2 a z)
    · cases h
  · cases h
def uLst (a : Env → Option (List OT)) : Env → Option OT := fun r => match a r with
  | some l => if l.length ≤ 100000 then some (.node l) else none
  | none => none
theorem du_lst {es : List Expr} {a : Env → Option (List OT)} {pos : Pos} (ha : DUA X T es a) : DU X T (.List es pos) (uLst a) := by
  obtain ⟨ta, pa, ga⟩ := ha.ex
  refine ⟨_, pe_lst pa, fun G H σ r d F e Q q => ?_⟩
  unfold uLst at e
  split at e
  · rename_i l e1
    obtain ⟨hl, e⟩ := ite_opt e
    cases e
    refine ga G H σ r _ F e1 _ fun vs as G1 H1 n1 p1 nd f1 => ⟨sz5 (by rw [p1.length]; exact hl), fun p hp => ?_⟩
    have n2 := Nx.newH (o := .lst vs) n1.gh hp
    have np : p ∉ as := fun hm => by
      obtain ⟨_, o, ho⟩ := OwA.inn l p1 p hm
      rw [hp] at ho
      cases ho
    exact q (.ref p) (p :: as) G1 _ (n1.trans n2) (.node upd_same (n1.gh.free hp) (p1.nx n2)) (List.nodup_cons.mpr ⟨np, nd⟩) (fun a ha => by
      rcases List.mem_cons.mp ha with rfl | ha
      · exact n1.hh.free hp
      · exact f1 a ha)
  · cases e
/-! ### comprehensions of new things -/
def compU (j : Nat) (c : Env → Option Bool) (e : Env → Option OT) : List Dt → Env → Option (List OT)
  | [], _ => some []
  | x :: xs, r => match c (r.set j (.val x)) with
    | some true => (match e (r.set j (.val x)) with
      | some d => (match compU j c e xs r with
        | some ds => some (d :: ds)
        | none => none)
      | none => none)
    | some false => compU j c e xs r
    | none => none
def uComp (f : Env → Option (List Dt)) (j : Nat) (vs : List Nat) (c : Env → Option Bool) (e : Env → Option OT) : Env → Option OT := fun r => match f r with
  | some items => if items.length ≤ 100000 then (compU j c e items (wipeE r vs)).map .node else none
  | none => none
theorem compU_len {j : Nat} {c : Env → Option Bool} {e : Env → Option OT} {r : Env} : ∀ {items : List Dt} {ds : List OT}, compU j c e items r = some ds → ds.length ≤ items.length
  | [], ds, h => by cases h; exact Nat.le_refl _
  | x :: xs, ds, h => by
    unfold compU at h
    split at h
    · split at h
      · split at h
        · rename_i h2
          cases h
          have := compU_len h2
          rw [List.length_cons, List.length_cons]
          omega
        · cases h
      · cases h
    · have := compU_len h
      rw [List.length_cons]
      omega
    · cases h
def cU (K : PySem.W.Frag) (T : CT) (f : Env → Option OT) : TE := fun σ H Q => ∃ G r t, Fits K T G H σ r ∧ f r = some t ∧ ∀ v as G' H', Nx G H G' H' → Ow K T G' H' v t as → as.Nodup → (∀ a ∈ as, H a = none) → Q v H'
theorem DU.pe {e : Expr} {f : Env → Option OT} (h : DU X T e f) : PE X e (cU X.K T f) := by
  obtain ⟨te, pe, ge⟩ := h.ex
  exact ⟨fun pins s σ H Q I ⟨G, r, d, F, e, q⟩ => pe.run pins s σ H Q I (ge G H σ r d F e Q q)⟩
theorem owA_snoc : ∀ {vs : List V} {ts : List OT} {as bs : List Addr} {v : V} {t : OT}, OwA K T G H vs ts as → Ow K T G H v t bs → OwA K T G H (vs ++ [v]) (ts ++ [t]) (as ++ bs)
  | _, _, _, bs, v, t, .nil, q => by
    have := OwA.cons q OwA.nil
    rw [List.append_nil] at this
    exact this
  | _, _, _, bs, v, t, .cons a b, q => by
    have := OwA.cons a (owA_snoc b q)
    rw [← List.append_assoc] at this
    exact this
theorem gu_lc {wi : TI} {f : Env → Option (List Dt)} {j : Nat} {vs : List Nat} {c : Env → Option Bool} {e : Env → Option OT} (hi : GI K T wi f) (hj : j ∈ vs) : GU K T (tLc wi (gName j) (cT K T c) (cU K T e) vs) (uComp f j vs c e) := fun G H σ r total F h Q q => by
  unfold uComp at h
  cases e1 : f r with
  | none => rw [e1] at h; cases h
  | some items =>
    rw [e1] at h
    obtain ⟨hlen, h⟩ := ite_opt h
    cases e2 : compU j c e items (wipeE r vs) with
    | none => rw [e2] at h; cases h
    | some total' =>
    rw [e2] at h
    cases h
    refine hi G H σ r items F e1 _ fun J G1 H1 n1 ok D hD => ?_
    have hHD : H D = none := n1.hh.free hD
    have F1 : Fits K T G1 H1 (wipe σ vs) (wipeE r vs) := (F.nx n1).wipe vs
    have tl : total'.length ≤ items.length := compU_len e2
    refine ⟨fun i m H' => m = items.length - i ∧ i ≤ items.length ∧ ∃ (G' : Hp) (acc : List V) (as : List Addr) (dsA dsB : List OT), Nx G1 H1 G' H' ∧ G' D = none ∧ H' D = some (.lst acc) ∧ OwA K T G' H' acc dsA as ∧ as.Nodup ∧ (∀ a ∈ as, H1 a = none ∧ a ≠ D) ∧ compU j c e (items.drop i) (wipeE r vs) = some dsB ∧ dsA ++ dsB = total',
      ⟨items.length, by simp, Nat.zero_le _, G1, [], [], [], total', Nx.newH n1.gh hD, n1.gh.free hD, upd_same, .nil, .nil, (fun a ha => by cases ha), by simpa using e2, rfl⟩, ?_⟩
    rintro i m H' ⟨rfl, hi', G', acc, as, dsA, dsB, n, hGD, hHD', ra, nd, fr, hc, happ⟩
    by_cases hlt : i < items.length
    · refine .inr ⟨ok.goes i H' hlt (n.gg.trans n.gh), fun H2 => ∃ (G' : Hp) (acc : List V) (as : List Addr) (dsA dsB : List OT), Nx G1 H1 G' H2 ∧ G' D = none ∧ H2 D = some (.lst acc) ∧ OwA K T G' H2 acc dsA as ∧ as.Nodup ∧ (∀ a ∈ as, H1 a = none ∧ a ≠ D) ∧ compU j c e (items.drop (i + 1)) (wipeE r vs) = some dsB ∧ dsA ++ dsB = total',
        fun H2 w => ⟨items.length - (i + 1), by omega, rfl, hlt, w⟩, fun x H2 y => ?_⟩
      rw [List.drop_eq_getElem_cons hlt] at hc
      obtain ⟨G2, n2, rx⟩ := ok.yields i H' x H2 items[i] (List.getElem?_eq_getElem hlt) (n.gg.trans n.gh) y G' n.gg n.gh
      have hGD2 : G2 D = none := n2.out hGD hHD'
      have hHD2 : H2 D = some (.lst acc) := n2.hh _ _ hHD'
      have F2 : Fits K T G2 H2 ((wipe σ vs).set j (some x)) ((wipeE r vs).set j (.val items[i])) := (F1.nx (n.trans n2)).set rx
      refine ⟨wipe_set hj, ?_⟩
      unfold compU at hc
      have accl : acc.length < sizeLine := by
        have e1 := ra.length
        have e2 : dsA.length ≤ total'.length := by rw [← happ, List.length_append]; omega
        have : (100000 : Nat) < sizeLine := by decide
        omega
      split at hc
      · rename_i hb
        split at hc
        · rename_i d he
          split at hc
          · rename_i ds hrest
            cases hc
            refine ⟨G2, _, true, F2, hb, fun G3 H3 n3 => ?_⟩
            dsimp only
            rw [if_pos rfl]
            refine ⟨G3, _, d, F2.nx n3, he, fun v bs G4 H4 n4 r4 nd4 f4 => ⟨acc, n4.hh _ _ (n3.hh _ _ hHD2), accl, ?_⟩⟩
            have hGD4 : G4 D = none := (n3.trans n4).out hGD2 hHD2
            have n14 := ((n.trans n2).trans n3).trans n4
            have ra4 := ra.nx ((n2.trans n3).trans n4)
            have bD : ∀ a ∈ bs, a ≠ D := fun a ha e => by
              have := f4 a ha
              rw [e, n3.hh _ _ hHD2] at this
              cases this
            have all := owA_snoc ra4 r4
            refine ⟨G4, acc ++ [v], as ++ bs, dsA ++ [d], ds, ⟨n14.gg, fun b o hb => ?_, same_updR n14.gh hGD4, n14.fr⟩, hGD4, upd_same, OwA.mv (Same.refl G4) _ all (fun a ha => (OwA.inn _ all a ha).1) (fun a ha => upd_ne ?_), ?_, fun a ha => ?_, hrest, by rw [List.append_assoc]; exact happ⟩
            · rw [upd_ne (ne_of_none hb hD)]
              exact n14.hh _ _ hb
            · rcases List.mem_append.mp ha with z | z
              · exact (fr a z).2
              · exact bD a z
            · rw [List.nodup_append]
              refine ⟨nd, nd4, fun a ha b hb e => ?_⟩
              subst e
              obtain ⟨_, o, ho⟩ := OwA.inn _ ra a ha
              have := (n2.trans n3).hh _ _ ho
              rw [f4 a hb] at this
              cases this
            · rcases List.mem_append.mp ha with z | z
              · exact fr a z
              · exact ⟨((n.trans n2).trans n3).hh.free (f4 a z), bD a z⟩
          · cases hc
        · cases hc
      · rename_i hb
        refine ⟨G2, _, false, F2, hb, fun G3 H3 n3 => ?_⟩
        dsimp only
        rw [if_neg Bool.false_ne_true]
        exact ⟨G3, acc, as, dsA, dsB, (n.trans n2).trans n3, n3.out hGD2 hHD2, n3.hh _ _ hHD2, ra.nx (n2.trans n3), nd, fr, hc, happ⟩
      · cases hc
    · have e : i = items.length := by omega
      subst e
      refine .inl ⟨ok.stops H' (n.gg.trans n.gh), ?_⟩
      rw [List.drop_length] at hc
      cases hc
      rw [List.append_nil] at happ
      subst happ
      refine q (.ref D) (D :: as) G' H' (n1.trans n) (.node hHD' hGD ra) (List.nodup_cons.mpr ⟨fun hm => (fr D hm).2 rfl, nd⟩) (fun a ha => ?_)
      rcases List.mem_cons.mp ha with rfl | ha
      · exact hHD
      · exact n1.hh.free (fr a ha).1
theorem du_lc {elt iter : Expr} {x : Str} {px : Pos} {ifs : List Expr} {scope : Scope} {own : List (Str × Nat)} {pos : Pos} {f : Env → Option (List Dt)} {c : Env → Option Bool} {e : Env → Option OT} {j : Nat} (hc : X.calm = true) (hN : X.N.Nodup) (hi : DI X T (.Name x px) iter f) (ok : BlkOk X.N X.env.scope scope own) (hj : j ∈ own.map (·.2))
    (hg : ∀ (s : Shared) (H : Hp) (C : Addr) (cl : List (Str × Addr)) (fp : List Addr), PG (X.blk s H scope (compEnvC scope cl C X.env) fp) (.Name x px) (gName j)) (ht : ∀ (s : Shared) (H : Hp) (C : Addr) (cl : List (Str × Addr)) (fp : List Addr), DTs (X.blk s H scope (compEnvC scope cl C X.env) fp) T ifs c)
    (he : ∀ (s : Shared) (H : Hp) (C : Addr) (cl : List (Str × Addr)) (fp : List Addr), DU (X.blk s H scope (compEnvC scope cl C X.env) fp) T elt e) (hs : ∀ x, foldedSetIterable iter X.env x = pure x := by intro _; rfl) :
    DU X T (.ListComp elt [⟨.Name x px, iter, ifs, 0⟩] scope pos) (uComp f j (own.map (·.2)) c e) := by
  obtain ⟨ti, pi, gi⟩ := hi.ex
  exact ⟨_, pe_lc hc hN pi ok hg (fun s H C cl fp => (ht s H C cl fp).pt) (fun s H C cl fp => (he s H C cl fp).pe) hs, gu_lc gi hj⟩
/-! ### read while own lists stand still -/
def flatD : Dt → Bool
  | .non => true
  | .bl _ => true
  | .int _ => true
  | .str _ => true
  | _ => false
mutual
def OT.flat : OT → Bool
  | .leaf d => flatD d
  | .node l => OT.flats l
  | .ob _ l => OT.flats l
  | .dic _ _ => false
def OT.flats : List OT → Bool
  | [] => true
  | t :: l => t.flat && OT.flats l
end
theorem Rp.reG {d : Dt} {v : V} (h : Rp K T G v d) (f : flatD d = true) : Rp K T G' v d := by
  cases h with
  | non => exact .non
  | bl b => exact .bl b
  | int i => exact .int i
  | str l => exact .str l
  | _ => cases f
mutual
theorem Ow.reG : ∀ (t : OT) {v : V} {as : List Addr}, Ow K T G H v t as → t.flat = true → (∀ a ∈ as, G' a = none) → Ow K T G' H v t as
  | .leaf d, _, _, h, f, g => by cases h with | leaf q => exact .leaf (q.reG (by rw [OT.flat] at f; exact f))
  | .node l, _, _, h, f, g => by
    cases h with
    | node h1 h2 h3 => exact .node h1 (g _ List.mem_cons_self) (OwA.reG l h3 (by rw [OT.flat] at f; exact f) fun a ha => g a (List.mem_cons_of_mem _ ha))
  | .ob c l, _, _, h, f, g => by
    cases h with
    | ob h1 h2 h3 h4 => exact .ob h1 h2 (g _ List.mem_cons_self) (OwA.reG l h4 (by rw [OT.flat] at f; exact f) fun a ha => g a (List.mem_cons_of_mem _ ha))
  | .dic ks l, _, _, h, f, g => by rw [OT.flat] at f; cases f
theorem OwA.reG : ∀ (ts : List OT) {vs : List V} {as : List Addr}, OwA K T G H vs ts as → OT.flats ts = true → (∀ a ∈ as, G' a = none) → OwA K T G' H vs ts as
  | [], _, _, h, f, g => by cases h; exact .nil
  | t :: ts, _, _, h, f, g => by
    cases h with
    | cons h1 h2 =>
      rw [OT.flats, Bool.and_eq_true] at f
      exact .cons (Ow.reG t h1 f.1 fun a ha => g a (List.mem_append_left _ ha)) (OwA.reG ts h2 f.2 fun a ha => g a (List.mem_append_right _ ha))
end
def uFrz (f : Env → Option OT) : Env → Option OT := fun r => match f (frzE r) with
  | some t => if t.flat then some t else none
  | none => none
theorem du_frz {e : Expr} {f : Env → Option OT} (h : DU X T e f) : DU X T e (uFrz f) := by
  obtain ⟨te, pe, ge⟩ := h.ex
  refine ⟨te, pe, fun G H σ r t F e Q q => ?_⟩
  unfold uFrz at e
  split at e
  · rename_i t' e1
    obtain ⟨hf, e⟩ := ite_opt e
    cases e
    refine ge H H σ (frzE r) _ F.frz e1 _ fun v as G1 H1 n1 q1 nd f1 => ?_
    exact q v as G H1 ((Nx.refl F.gh).growH n1.hh) (Ow.reG _ q1 hf fun a ha => F.gh.free (f1 a ha)) nd f1
  · cases e
def fFrzF (f : Env → Option Dt) : Env → Option Dt := fun r => match f (frzE r) with
  | some d => if flatD d then some d else none
  | none => none
theorem de_frzF {e : Expr} {f : Env → Option Dt} (h : DE X T e f) : DE X T e (fFrzF f) := by
  obtain ⟨te, pe, ge⟩ := h.ex
  refine ⟨te, pe, fun G H σ r d F e Q q => ?_⟩
  unfold fFrzF at e
  split at e
  · rename_i d' e1
    obtain ⟨hf, e⟩ := ite_opt e
    cases e
    exact ge H H σ (frzE r) _ F.frz e1 _ fun v G1 H1 n1 q1 => q v G H1 ((Nx.refl F.gh).growH n1.hh) (q1.reG hf)
  · cases e
/-- only the own trees stand still -/
def frzT1 : Sl → Sl
  | .tre t => .val t.toD
  | s => s
def frzTE (r : Env) : Env := r.map frzT1
theorem frzTE_get {r : Env} (i : Nat) : (frzTE r)[i]? = (r[i]?).map frzT1 := by
  unfold frzTE
  rw [List.getElem?_map]
mutual
theorem Ow.rpG (e : Same G G') : ∀ (t : OT) {v : V} {as : List Addr}, Ow K T G H v t as → (∀ a ∈ as, G' a = H a) → Rp K T G' v t.toD
  | .leaf d, _, _, h, _ => by cases h with | leaf q => rw [OT.toD]; exact Rp.mono e d q
  | .node l, _, _, h, k => by cases h with | node h1 h2 h3 => rw [OT.toD]; exact .lst ((k _ List.mem_cons_self).trans h1) (OwA.rpG e l h3 fun a ha => k a (List.mem_cons_of_mem _ ha))
  | .ob c l, _, _, h, k => by cases h with | ob h1 h2 h3 h4 => rw [OT.toD]; exact .obj ((k _ List.mem_cons_self).trans h1) h2 (OwA.rpG e l h4 fun a ha => k a (List.mem_cons_of_mem _ ha))
  | .dic ks l, _, _, h, k => by cases h with | dic h1 h2 h3 h4 => rw [OT.toD]; exact .dic (.inl ((k _ List.mem_cons_self).trans h1)) h3 (RpA.mono e l h4)
theorem OwA.rpG (e : Same G G') : ∀ (ts : List OT) {vs : List V} {as : List Addr}, OwA K T G H vs ts as → (∀ a ∈ as, G' a = H a) → RpA K T G' vs (OT.toDs ts)
  | [], _, _, h, _ => by cases h; rw [OT.toDs]; exact .nil
  | t :: ts, _, _, h, k => by cases h with | cons h1 h2 => rw [OT.toDs]; exact .cons (Ow.rpG e t h1 fun a ha => k a (List.mem_append_left _ ha)) (OwA.rpG e ts h2 fun a ha => k a (List.mem_append_right _ ha))
end
theorem Fits.frzT {σ : L2.St} {r : Env} (F : Fits K T G H σ r) : ∃ G', Same G G' ∧ Fits K T G' H σ (frzTE r) ∧ ∀ a, G' a = G a ∨ ∃ o, G' a = some o ∧ isMut o := by
  classical
  obtain ⟨m, k1, k2, k3⟩ := F.tr
  let W : Addr → Prop := fun a => ∃ i t, r[i]? = some (Sl.tre t) ∧ a ∈ m i
  have inH : ∀ a, W a → G a = none ∧ ∃ o, H a = some o ∧ isMut o := fun a ⟨i, t, e, ha⟩ => by
    obtain ⟨⟨v, _, q⟩, _⟩ := k1 i t e
    exact ⟨(Ow.inn t q a ha).1, Ow.muts t q a ha⟩
  let G' : Hp := fun a => if W a then H a else G a
  have gW : ∀ a, W a → G' a = H a := fun a h => if_pos h
  have gN : ∀ a, ¬ W a → G' a = G a := fun a h => if_neg h
  have gg : Same G G' := fun a o h => by
    rw [gN a fun w => by rw [(inH a w).1] at h; cases h]
    exact h
  have gh : Same G' H := fun a o h => by
    by_cases w : W a
    · rw [gW a w] at h; exact h
    · rw [gN a w] at h; exact F.gh _ _ h
  have backO : ∀ (i : Nat) (ds : List Dt), (frzTE r)[i]? = some (.own ds) → r[i]? = some (.own ds) := fun i ds h => by
    rw [frzTE_get] at h
    cases e : r[i]? with
    | none => rw [e] at h; cases h
    | some s => rw [e] at h; cases s <;> cases h; rfl
  refine ⟨G', gg, ⟨gh, by unfold frzTE; rw [List.length_map]; exact F.len, fun i d h => ?_, fun i ds h => ?_, fun i j ds es p h1 h2 => F.sep i j ds es p (backO i ds h1) (backO j es h2), Tr.nil fun i t h => ?_⟩, fun a => ?_⟩
  · rw [frzTE_get] at h
    cases e : r[i]? with
    | none => rw [e] at h; cases h
    | some s =>
      rw [e] at h
      cases s with
      | no => cases h
      | own l => cases h
      | val d' =>
        cases h
        obtain ⟨v, e1, q⟩ := F.val i d e
        exact ⟨v, e1, Rp.mono gg d q⟩
      | tre t =>
        cases h
        obtain ⟨⟨v, hv, q⟩, _⟩ := k1 i t e
        exact ⟨v, hv, Ow.rpG gg t q fun a ha => gW a ⟨i, t, e, ha⟩⟩
  · obtain ⟨p, vs, e1, hg, hh, q⟩ := F.own i ds (backO i ds h)
    refine ⟨p, vs, e1, ?_, hh, RpA.mono gg ds q⟩
    rw [gN p fun ⟨j, t, e, ha⟩ => k3 j i t ds p e (backO i ds h) e1 ha]
    exact hg
  · rw [frzTE_get] at h
    cases e : r[i]? with
    | none => rw [e] at h; cases h
    | some s => rw [e] at h; cases s <;> cases h
  · by_cases w : W a
    · obtain ⟨_, o, ho, hm⟩ := inH a w
      exact .inr ⟨o, (gW a w).trans ho, hm⟩
    · exact .inl (gN a w)
/-- a plain value or a tuple of such -/
def flatT : Dt → Bool
  | .tup l => l.all flatD
  | d => flatD d
theorem RpA.reG : ∀ {vs : List V} {ds : List Dt}, RpA K T G vs ds → ds.all flatD = true → RpA K T G' vs ds
  | _, _, .nil, _ => .nil
  | _, _, .cons r t, f => by
    rw [List.all_cons, Bool.and_eq_true] at f
    exact .cons (r.reG f.1) (t.reG f.2)
def fFrzT (f : Env → Option Dt) : Env → Option Dt := fun r => match f (frzTE r) with
  | some d => if flatT d then some d else none
  | none => none
theorem de_frzT {e : Expr} {f : Env → Option Dt} (h : DE X T e f) : DE X T e (fFrzT f) := by
  classical
  obtain ⟨te, pe, ge⟩ := h.ex
  refine ⟨te, pe, fun G H σ r d F e Q q => ?_⟩
  unfold fFrzT at e
  split at e
  · rename_i d' e1
    obtain ⟨hf, e⟩ := ite_opt e
    have ed : d' = d := by cases e; rfl
    subst ed
    obtain ⟨G', gg, F', hm⟩ := F.frzT
    refine ge G' H σ (frzTE r) _ F' e1 _ fun v G1 H1 n1 q1 => ?_
    let G2 : Hp := fun a => if Nw H a then G1 a else G a
    have gN : ∀ a, Nw H a → G2 a = G1 a := fun a h => if_pos h
    have gO : ∀ a, ¬ Nw H a → G2 a = G a := fun a h => if_neg h
    have sub : ∀ a o, G2 a = some o → G1 a = some o := fun a o h => by
      by_cases w : Nw H a
      · rw [gN a w] at h; exact h
      · rw [gO a w] at h; exact n1.gg _ _ (gg _ _ h)
    have n2 : Nx G H G2 H1 := by
      refine ⟨fun a o h => ?_, n1.hh, fun a o h => n1.gh _ _ (sub a o h), fun a => ?_⟩
      · by_cases w : Nw H a
        · rw [gN a w]; exact n1.gg _ _ (gg _ _ h)
        · rw [gO a w]; exact h
      · by_cases w : Nw H a
        · exact .inr (.inr w)
        · rw [gO a w]
          cases h : G a with
          | none => exact .inl rfl
          | some o => exact .inr (.inl fun z => by cases z)
    refine q v G2 H1 n2 ?_
    cases d' with
    | tup l =>
      cases q1 with
      | @tup a xs _ a1 a2 a3 =>
        have key : ∀ o, G1 a = some o → ¬ isMut o → G2 a = some o := fun o h hn => by
          by_cases w : Nw H a
          · rw [gN a w]; exact h
          · rw [gO a w]
            rcases n1.fr a with z | z | z
            · rw [h] at z; cases z
            · rcases hm a with y | ⟨o', y, hy⟩
              · rw [← y]
                cases e3 : G' a with
                | none => exact absurd e3 z
                | some o'' =>
                  have := n1.gg _ _ e3
                  rw [h] at this
                  cases this
                  rfl
              · have := n1.gg _ _ y
                rw [h] at this
                cases this
                exact absurd hy hn
            · exact absurd z w
        refine .tup ?_ (a2.reG hf) (fun n ns z => key _ (a3 n ns z) id)
        rcases a1 with (h | ⟨o, h⟩) | h
        · exact .inl (.inl (key _ h id))
        · exact .inl (.inr ⟨o, key _ h id⟩)
        · exact .inr h
    | _ => exact q1.reG hf
  · cases e
end
end PL

/-! ### own trees: statements -/
namespace PL
open PySem PySem.Spec PyProof.Rows L2
section
variable {X : Cx} {T : CT} {K : PySem.W.Frag} {B G0 H0 G H G1 H1 G' H' : Hp} {σ : L2.St} {r : Env}

theorem Fits.setNoX {i : Nat} (x : Option V) (F : Fits K T G H σ r) : Fits K T G H (σ.set i x) (r.set i .no) := by
  have at_i : ∀ (j : Nat) (s : Sl), s ≠ .no → (r.set i .no)[j]? = some s → j ≠ i ∧ r[j]? = some s := fun j s hs h => by
    by_cases hj : j = i
    · subst hj
      by_cases hl : j < r.length
      · rw [List.getElem?_set_self hl] at h
        cases h
        exact absurd rfl hs
      · rw [List.getElem?_eq_none (by simpa using hl)] at h; cases h
    · rw [List.getElem?_set_ne (Ne.symm hj)] at h
      exact ⟨hj, h⟩
  refine ⟨F.gh, by rw [List.length_set, List.length_set]; exact F.len, fun j d h => ?_, fun j ds h => ?_, fun j k ds es p h1 h2 h3 h4 => ?_, F.tr.set (fun t h => by cases h) (fun l h => by cases h)⟩
  · obtain ⟨hj, h⟩ := at_i j _ (fun z => by cases z) h
    rw [List.getElem?_set_ne (Ne.symm hj)]
    exact F.val j d h
  · obtain ⟨hj, h⟩ := at_i j _ (fun z => by cases z) h
    rw [List.getElem?_set_ne (Ne.symm hj)]
    exact F.own j ds h
  · obtain ⟨hj, h1⟩ := at_i j _ (fun z => by cases z) h1
    obtain ⟨hk, h2⟩ := at_i k _ (fun z => by cases z) h2
    rw [List.getElem?_set_ne (Ne.symm hj)] at h3
    rw [List.getElem?_set_ne (Ne.symm hk)] at h4
    exact F.sep j k ds es p h1 h2 h3 h4
theorem St1.setNoX {i : Nat} (x : Option V) (S : St1 K T B G0 H0 G H σ r) : St1 K T B G0 H0 G H (σ.set i x) (r.set i .no) := by
  refine ⟨S.fits.setNoX x, S.base, S.nx, fun j ds p h1 h2 => ?_, S.tr.set (fun t h => by cases h) (fun l h => by cases h)⟩
  by_cases hj : j = i
  · subst hj
    by_cases hl : j < r.length
    · rw [List.getElem?_set_self hl] at h1; cases h1
    · rw [List.getElem?_eq_none (by simpa using hl)] at h1; cases h1
  · rw [List.getElem?_set_ne (Ne.symm hj)] at h1 h2
    exact S.ow j ds p h1 h2
theorem Tr.setTre {P : Addr → Prop} {i : Nat} {v : V} {t : OT} {as : List Addr} (h : Tr K T G H P σ r) (hl : σ.length = r.length) (q : Ow K T G H v t as) (nd : as.Nodup) (np : ∀ a ∈ as, ¬ P a) (no : ∀ (j : Nat) (ds : List Dt) (p : Addr), r[j]? = some (.own ds) → σ[j]? = some (some (.ref p)) → p ∉ as) : Tr K T G H (fun a => P a ∨ a ∈ as) (σ.set i (some v)) (r.set i (.tre t)) := by
  obtain ⟨m, k1, k2, k3⟩ := h
  have back : ∀ (j : Nat) (z : Sl), j ≠ i → (r.set i (.tre t))[j]? = some z → r[j]? = some z := fun j z hj e => by
    rw [List.getElem?_set_ne (Ne.symm hj)] at e
    exact e
  have self : ∀ (x : OT), (r.set i (.tre t))[i]? = some (.tre x) → x = t ∧ i < r.length := fun x e => by
    by_cases hb : i < r.length
    · rw [List.getElem?_set_self hb] at e
      cases e; exact ⟨rfl, hb⟩
    · rw [List.getElem?_eq_none (by simpa using hb)] at e; cases e
  have backO : ∀ (j : Nat) (ds : List Dt), (r.set i (.tre t))[j]? = some (.own ds) → j ≠ i ∧ r[j]? = some (.own ds) := fun j ds e => by
    by_cases hj : j = i
    · subst hj
      by_cases hb : j < r.length
      · rw [List.getElem?_set_self hb] at e; cases e
      · rw [List.getElem?_eq_none (by simpa using hb)] at e; cases e
    · exact ⟨hj, back j _ hj e⟩
  refine ⟨fun j => if j = i then as else m j, fun j x e => ?_, fun j k x y hjk ej ek a ha => ?_, fun j k x ds p ej ek ep => ?_⟩
  · by_cases hj : j = i
    · subst hj
      obtain ⟨rfl, hb⟩ := self x e
      simp only [if_true]
      exact ⟨⟨v, List.getElem?_set_self (by omega), q⟩, nd, fun a ha => .inr ha⟩
    · simp only [hj, if_false]
      rw [List.getElem?_set_ne (Ne.symm hj)]
      obtain ⟨e1, e2, e3⟩ := k1 j x (back j _ hj e)
      exact ⟨e1, e2, fun a ha => .inl (e3 a ha)⟩
  · by_cases hj : j = i
    · subst hj
      have hk : k ≠ j := Ne.symm hjk
      simp only [if_true] at ha
      simp only [hk, if_false]
      exact fun hm => np a ha ((k1 k y (back k _ hk ek)).2.2 a hm)
    · simp only [hj, if_false] at ha
      by_cases hk : k = i
      · subst hk
        simp only [if_true]
        exact fun hm => np a hm ((k1 j x (back j _ hj ej)).2.2 a ha)
      · simp only [hk, if_false]
        exact k2 j k x y hjk (back j _ hj ej) (back k _ hk ek) a ha
  · obtain ⟨hk, ek'⟩ := backO k ds ek
    rw [List.getElem?_set_ne (Ne.symm hk)] at ep
    by_cases hj : j = i
    · subst hj
      simp only [if_true]
      exact no k ds p ek' ep
    · simp only [hj, if_false]
      exact k3 j k x ds p (back j _ hj ej) ek' ep
theorem St1.setTre {i : Nat} {v : V} {t : OT} {as : List Addr} (S : St1 K T B G0 H0 G H σ r) (n : Nx G H G1 H1) (q : Ow K T G1 H1 v t as) (nd : as.Nodup) (f : ∀ a ∈ as, H a = none) : St1 K T B G0 H0 G1 H1 (σ.set i (some v)) (r.set i (.tre t)) := by
  have S1 := S.nx' n
  have no : ∀ (j : Nat) (ds : List Dt) (p : Addr), r[j]? = some (.own ds) → σ[j]? = some (some (.ref p)) → p ∉ as := fun j ds p e1 e2 hm => by
    obtain ⟨p', vs, e3, _, e4, _⟩ := S.fits.own j ds e1
    rw [e2] at e3
    cases e3
    rw [f p hm] at e4
    cases e4
  have tr : Tr K T G1 H1 (fun a => H0 a = none) (σ.set i (some v)) (r.set i (.tre t)) :=
    (Tr.setTre (S.tr.inH.nx n) S.fits.len q nd (fun a ha z => z.2 (f a ha)) no).imp fun a z => z.elim (fun y => y.1) (fun y => S.nx.hh.free (f a y))
  have backO : ∀ (j : Nat) (ds : List Dt), (r.set i (.tre t))[j]? = some (.own ds) → j ≠ i ∧ r[j]? = some (.own ds) := fun j ds e => by
    by_cases hj : j = i
    · subst hj
      by_cases hb : j < r.length
      · rw [List.getElem?_set_self hb] at e; cases e
      · rw [List.getElem?_eq_none (by simpa using hb)] at e; cases e
    · rw [List.getElem?_set_ne (Ne.symm hj)] at e
      exact ⟨hj, e⟩
  refine ⟨⟨S1.fits.gh, by rw [List.length_set, List.length_set]; exact S.fits.len, fun j d h => ?_, fun j ds h => ?_, fun j k ds es p h1 h2 h3 h4 => ?_, tr.imp fun _ _ => trivial⟩, S1.base, S1.nx, fun j ds p h1 h2 => ?_, tr⟩
  · by_cases hj : j = i
    · subst hj
      by_cases hb : j < r.length
      · rw [List.getElem?_set_self hb] at h; cases h
      · rw [List.getElem?_eq_none (by simpa using hb)] at h; cases h
    · rw [List.getElem?_set_ne (Ne.symm hj)] at h ⊢
      exact S1.fits.val j d h
  · obtain ⟨hj, h⟩ := backO j ds h
    rw [List.getElem?_set_ne (Ne.symm hj)]
    exact S1.fits.own j ds h
  · obtain ⟨hj, h1⟩ := backO j ds h1
    obtain ⟨hk, h2⟩ := backO k es h2
    rw [List.getElem?_set_ne (Ne.symm hj)] at h3
    rw [List.getElem?_set_ne (Ne.symm hk)] at h4
    exact S1.fits.sep j k ds es p h1 h2 h3 h4
  · obtain ⟨hj, h1⟩ := backO j ds h1
    rw [List.getElem?_set_ne (Ne.symm hj)] at h2
    exact S.ow j ds p h1 h2
/-! ### a name gets an own tree -/
def fSetU (i : Nat) (f : Env → Option OT) : Env → Option Out := fun r => (f r).map fun t => .nx (r.set i (.tre t))
theorem gs_setU {i : Nat} {te : TE} {f : Env → Option OT} (h : GU K T te f) : GS K T (tAsg te (gName i)) (fSetU i f) := fun B G0 H0 G H σ r o S e D m => by
  unfold fSetU at e
  cases e1 : f r with
  | none => rw [e1] at e; cases e
  | some t =>
    rw [e1] at e
    cases e
    exact h G H σ r t S.fits e1 _ fun v as G1 H1 n1 q nd fr => m G1 H1 _ (S.setTre n1 q nd fr)
theorem ds_setU (i : Nat) {x : Str} {e : Expr} {f : Env → Option OT} {pos pos' : Pos} (hN : X.N.Nodup) (he : DU X T e f) (hi : X.N[i]? = some x := by rfl) (hx : Loc X.env.scope x := by first | exact .inl rfl | exact .inr rfl) (hs : swapsWith e (some (.Name x pos')) pos.line X.env = pure false := by rfl)
    (hf : X.fn x = true ∨ X.env.scope.names.lookup x = some .local := by first | exact .inl rfl | exact .inr rfl) : DS X T (.Assign [.Name x pos'] e pos) (fSetU i f) := by
  obtain ⟨te, pe, ge⟩ := he.ex
  exact ⟨_, ps_set hN hi hx pe hs hf, gs_setU ge⟩
theorem ds_setLcU (i : Nat) {y : Str} {py : Pos} {j : Nat} {elt iter : Expr} {x : Str} {px : Pos} {ifs : List Expr} {scope : Scope} {own : List (Str × Nat)} {pos spos : Pos} {f : Env → Option (List Dt)} {c : Env → Option Bool} {e : Env → Option OT} (hc : X.calm = true) (hN : X.N.Nodup)
    (hi : DI X T (.Name x px) iter f) (ok : BlkOk X.N X.env.scope scope own) (hj : j ∈ own.map (·.2))
    (hg : ∀ (s : Shared) (H : Hp) (C : Addr) (cl : List (Str × Addr)) (fp : List Addr), PG (X.blk s H scope (compEnvC scope cl C X.env) fp) (.Name x px) (gName j)) (ht : ∀ (s : Shared) (H : Hp) (C : Addr) (cl : List (Str × Addr)) (fp : List Addr), DTs (X.blk s H scope (compEnvC scope cl C X.env) fp) T ifs c)
    (he : ∀ (s : Shared) (H : Hp) (C : Addr) (cl : List (Str × Addr)) (fp : List Addr), DU (X.blk s H scope (compEnvC scope cl C X.env) fp) T elt e)
    (hsw : swapsWith (.ListComp elt [⟨.Name x px, iter, ifs, 0⟩] scope pos) (some (.Name y py)) spos.line X.env = pure true) (hy : X.N[i]? = some y := by rfl) (hyl : X.env.scope.names.lookup y = some .local := by rfl) (hs : ∀ x, foldedSetIterable iter X.env x = pure x := by intro _; rfl) :
    DS X T (.Assign [.Name y py] (.ListComp elt [⟨.Name x px, iter, ifs, 0⟩] scope pos) spos) (fSetU i (uComp f j (own.map (·.2)) c e)) := by
  obtain ⟨ti, pi, gi⟩ := hi.ex
  exact ⟨_, ps_setLc hc hN hy hyl hsw pi ok hg (fun s H C cl fp => (ht s H C cl fp).pt) (fun s H C cl fp => (he s H C cl fp).pe) hs, gs_setU (gu_lc gi hj)⟩
/-! ### places by expressions -/
def gT (r : Env) (i : Nat) : Option OT := match r[i]? with | some (.tre t) => some t | _ => none
theorem gT_iff {r : Env} {i : Nat} {t : OT} : gT r i = some t ↔ r[i]? = some (.tre t) := by
  unfold gT
  split
  · rename_i x h; rw [h]; constructor
    · intro q; cases q; rfl
    · intro q; cases q; rfl
  · rename_i h; constructor
    · intro q; cases q
    · intro q; exact absurd q (h _)
theorem Fits.at (F : Fits K T G H σ r) {i : Nat} {t u : OT} {ks : List Nat} (hr : r[i]? = some (.tre t)) (hu : t.at ks = some u) : ∃ v w bs, σ[i]? = some (some v) ∧ vAt H v ks = some w ∧ Ow K T G H w u bs := by
  obtain ⟨m, k1, _⟩ := F.tr
  obtain ⟨⟨v, hv, q⟩, nd, _⟩ := k1 i t hr
  obtain ⟨w, bs, e1, q1, _⟩ := Ow.place q nd hu
  exact ⟨v, w, bs, hv, e1, q1⟩
def GP (K : PySem.W.Frag) (T : CT) (te : TE) (i : Nat) (π : Env → Option (List Nat)) : Prop :=
  ∀ (G H : Hp) (σ : L2.St) (r : Env) (t : OT) (v : V) (ks : List Nat), Fits K T G H σ r → r[i]? = some (.tre t) → σ[i]? = some (some v) → π r = some ks → ∀ Q : VK, (∀ w H', Nx G H G H' → vAt H' v ks = some w → Q w H') → te σ H Q
structure DP (X : Cx) (T : CT) (e : Expr) (i : Nat) (π : Env → Option (List Nat)) : Prop where
  ex : ∃ te, PE X e te ∧ GP X.K T te i π
def pNm : Env → Option (List Nat) := fun _ => some []
theorem dp_name (i : Nat) {x : Str} {pos : Pos} (hN : X.N[i]? = some x := by rfl) (hv : Vis X.env.scope x := by first | exact Or.inl rfl | exact Or.inr (Or.inl rfl) | exact Or.inr (Or.inr rfl)) (hd : (x == ("__debug__" : Str)) = false := by decide +kernel)
    (hcd : (x == ("__classdict__" : Str)) = false := by decide +kernel) : DP X T (.Name x pos) i pNm := ⟨_, pe_var hN hv hd hcd, fun G H σ r t v ks F hr hv e Q q => by
  cases e
  exact ⟨v, hv, q v H (Nx.refl F.gh) rfl⟩⟩
def pIx (i : Nat) (π : Env → Option (List Nat)) (f : Env → Option Dt) : Env → Option (List Nat) := fun r => match gT r i, π r, f (frzE r) with
  | some t, some ks, some (.int k) => (match t.at ks with
    | some (.node l) => (match ixN l.length k with
      | some j => some (ks ++ [j])
      | none => none)
    | _ => none)
  | _, _, _ => none
theorem dp_ix {i : Nat} {π : Env → Option (List Nat)} {f : Env → Option Dt} {o k : Expr} {pos : Pos} (hp : DP X T o i π) (hk : DE X T k f) (hs : PlainIx k := by exact fun _ _ => rfl) : DP X T (.Subscript o k pos) i (pIx i π f) := by
  obtain ⟨tp, pp, gp⟩ := hp.ex
  obtain ⟨tk, pk, gk⟩ := hk.ex
  refine ⟨_, pe_ix ix_list pp pk hs, fun G H σ r t v ks F hr hv e Q q => ?_⟩
  unfold pIx at e
  rw [gT_iff.mpr hr] at e
  split at e
  · rename_i t' ks0 k' e0 e1 e2
    cases e0
    split at e
    · rename_i l e3
      split at e
      · rename_i j e4
        cases e
        refine gp G H σ r t v ks0 F hr hv e1 _ fun w H1 n1 a1 => ?_
        have F1 := F.nx n1
        obtain ⟨v', w', bs, hv', a2, ow⟩ := F1.at hr e3
        rw [hv] at hv'
        cases hv'
        rw [a1] at a2
        cases a2
        refine gk H1 H1 σ (frzE r) _ F1.frz e2 _ fun y G2 H2 n2 p2 => ?_
        cases p2
        cases ow with
        | @node p vs _ as h1 h2 h3 =>
          have hl := h3.length
          have hj : j < vs.length := by rw [hl]; exact ixN_lt e4
          have h4 := n2.hh _ _ h1
          refine ⟨p, vs, k', vs[j], rfl, rfl, SqL.of h4, ?_, q vs[j] H2 (n1.trans ((Nx.refl F1.gh).growH n2.hh)) ?_⟩
          · unfold L2.atI
            rw [hl, e4]
            exact List.getElem?_eq_getElem hj
          · refine vAt_snoc (vAt_mono n2.hh a1) ?_ (List.getElem?_eq_getElem hj)
            show (match H2 p with | some (.lst vs) => some vs | some (.ins _ _ fs) => some (fs.map Prod.snd) | _ => none) = _
            rw [h4]
      · cases e
    · cases e
  · cases e
where
  ixN_lt {n : Nat} {k : Int} {j : Nat} (h : ixN n k = some j) : j < n := by
    unfold ixN at h
    split at h
    · obtain ⟨h1, h2⟩ := ite_opt h
      cases h2
      omega
    · obtain ⟨h1, h2⟩ := ite_opt h
      cases h2
      omega
def pFld (i c m : Nat) (π : Env → Option (List Nat)) : Env → Option (List Nat) := fun r => match gT r i, π r with
  | some t, some ks => (match t.at ks with
    | some (.ob c' l) => if c' = c ∧ m < l.length then some (ks ++ [m]) else none
    | _ => none)
  | _, _ => none
theorem dp_fld {i : Nat} {π : Env → Option (List Nat)} {o : Expr} {f : Str} {pos : Pos} (c m : Nat) (cl : Cls X.K (T c).1) (hn : NoAttr X.K (T c).1 f) (nd : (T c).2.Nodup) (hf : (T c).2[m]? = some f) (hp : DP X T o i π) (hb : attributeBase o f X.env (eval o X.env) = eval o X.env := by rfl) :
    DP X T (.Attribute o f pos) i (pFld i c m π) := by
  obtain ⟨tp, pp, gp⟩ := hp.ex
  refine ⟨_, pe_fld pp hb, fun G H σ r t v ks F hr hv e Q q => ?_⟩
  unfold pFld at e
  rw [gT_iff.mpr hr] at e
  split at e
  · rename_i t' ks0 e0 e1
    cases e0
    split at e
    · rename_i c' l e3
      obtain ⟨⟨hc5, hm⟩, e5⟩ := ite_opt e
      subst hc5
      cases e5
      refine gp G H σ r t v ks0 F hr hv e1 _ fun w H1 n1 a1 => ?_
      have F1 := F.nx n1
      obtain ⟨v', w', bs, hv', a2, ow⟩ := F1.at hr e3
      rw [hv] at hv'
      cases hv'
      rw [a1] at a2
      cases a2
      cases ow with
      | @ob _ p dx fs _ as h1 h2 h3 h4 =>
        have hl := h4.length
        have hj : m < (fs.map Prod.snd).length := by rw [hl]; exact hm
        refine ⟨p, _, dx, fs, (fs.map Prod.snd)[m], rfl, h1, cl, hn, lookup_zip (by rw [h2]; exact nd) (by rw [h2]; exact hf) (List.getElem?_eq_getElem hj), q _ H1 n1 ?_⟩
        refine vAt_snoc a1 ?_ (List.getElem?_eq_getElem hj)
        show (match H1 p with | some (.lst vs) => some vs | some (.ins _ _ fs) => some (fs.map Prod.snd) | _ => none) = _
        rw [h1]
    · cases e
  · cases e
/-! ### a list within changes -/
theorem OwA.updN {vs : List V} {l : List OT} {cs : List Addr} {p : Addr} {o : HO} (h : OwA K T G H vs l cs) (hp : p ∉ cs) : OwA K T G (upd H p o) vs l cs :=
  OwA.mv (Same.refl G) l h (fun a ha => (OwA.inn l h a ha).1) (fun a ha => upd_ne fun e => hp (e ▸ ha))
theorem St1.nodeAt (S : St1 K T B G0 H0 G H σ r) (n : Nx G H G1 H1) {N : Addr → Prop} (hN : ∀ a, N a → H a = none ∧ G1 a = none) {i : Nat} {t : OT} {l : List OT} {ks : List Nat} (hr : r[i]? = some (.tre t)) (hu : t.at ks = some (.node l)) :
    ∃ v p vs cs, σ[i]? = some (some v) ∧ vAt H1 v ks = some (.ref p) ∧ H1 p = some (.lst vs) ∧ G1 p = none ∧ OwA K T G1 H1 vs l cs ∧ p ∉ cs ∧ cs.Nodup ∧ (∀ a, a = p ∨ a ∈ cs → ¬ N a) ∧
      ∀ vs' l' cs' H', (∀ a, a ≠ p → a ∉ cs → ¬ N a → H' a = H1 a) → H' p = some (.lst vs') → Same G1 H' → OwA K T G1 H' vs' l' cs' → p ∉ cs' → cs'.Nodup → (∀ a ∈ cs', a ∈ cs ∨ N a) → St1 K T B G0 H0 G1 H' σ (r.set i (.tre (t.put ks (.node l')))) := by
  have S1 := S.nx' n
  have tr : Tr K T G1 H1 (fun a => H0 a = none ∧ ¬ N a) σ r := (S.tr.inH.nx n).imp fun a z => ⟨z.1, fun y => z.2 (hN a y).1⟩
  obtain ⟨v, w, bs, hv, a1, ow, nd, big⟩ := S1.mutAt tr (fun a ha => ⟨S.nx.hh.free (hN a ha).1, (hN a ha).2, fun j ds e1 e2 => by
    obtain ⟨p', vs, e3, _, e4, _⟩ := S.fits.own j ds e1
    rw [e2] at e3
    cases e3
    rw [(hN a ha).1] at e4
    cases e4⟩) hr hu
  have sep : ∀ a ∈ bs, ¬ N a := fun a ha hn => by
    obtain ⟨m, k1, _⟩ := tr
    obtain ⟨⟨v', hv', q⟩, nd', hP⟩ := k1 i t hr
    obtain ⟨w', bs', e1, q1, sub, _⟩ := Ow.place q nd' hu
    rw [hv] at hv'
    cases hv'
    rw [a1] at e1
    cases e1
    have : bs' = bs := by
      exact Ow.uniq _ q1 ow
    exact (hP a (sub a (this ▸ ha))).2 hn
  cases ow with
  | @node p vs _ cs h1 h2 h3 =>
    rw [List.nodup_cons] at nd
    refine ⟨v, p, vs, cs, hv, a1, h1, h2, h3, nd.1, nd.2, fun a ha => sep a (List.mem_cons.mpr ha), fun vs' l' cs' H' same hp gh q np nd' inn => ?_⟩
    refine big H' (.node l') (p :: cs') (fun a ha hn => same a (fun e => ha (by rw [e]; exact List.mem_cons_self)) (fun hm => ha (List.mem_cons_of_mem _ hm)) hn) gh (.node hp h2 q) (List.nodup_cons.mpr ⟨np, nd'⟩) (fun a ha => ?_) (fun a hn ha => sep a ha hn)
    rcases List.mem_cons.mp ha with rfl | ha
    · exact .inl List.mem_cons_self
    · exact (inn a ha).imp (List.mem_cons_of_mem _) id
end
end PL

/-! ### own trees changed in place -/
namespace PL
open PySem PySem.Spec PyProof.Rows L2
section
variable {X : Cx} {T : CT} {K : PySem.W.Frag} {B G0 H0 G H G1 H1 G' H' : Hp} {σ : L2.St} {r : Env}
theorem Fits.treV (F : Fits K T G H σ r) {i : Nat} {t : OT} (hr : r[i]? = some (.tre t)) : ∃ v, σ[i]? = some (some v) := by
  obtain ⟨m, k1, _⟩ := F.tr
  obtain ⟨⟨v, hv, q⟩, nd, _⟩ := k1 i t hr
  exact ⟨v, hv⟩
theorem ixN_lt {n : Nat} {k : Int} {j : Nat} (h : ixN n k = some j) : j < n := by
  unfold ixN at h
  split at h
  · obtain ⟨h1, h2⟩ := ite_opt h
    cases h2
    omega
  · obtain ⟨h1, h2⟩ := ite_opt h
    cases h2
    omega
def noN : Addr → Prop := fun _ => False
/-- places.append(e) -/
def fAppT (i : Nat) (π : Env → Option (List Nat)) (f : Env → Option Dt) : Env → Option Out := fun r => match gT r i, π r, f r with
  | some t, some ks, some d => (match t.at ks with
    | some (.node l) => if l.length ≤ 100000 then some (.nx (r.set i (.tre (t.put ks (.node (l ++ [.leaf d])))))) else none
    | _ => none)
  | _, _, _ => none
theorem ds_appT (i : Nat) {o e : Expr} {π : Env → Option (List Nat)} {f : Env → Option Dt} {pos apos cpos : Pos} (hp : DP X T o i π) (he : DE X T e f)
    (hbase : attributeBase o "append" X.env (eval o X.env) = eval o X.env := by rfl)
    (hfew : ((backTo cpos (starEach (e :: []) X.env)).all (fun x => !x.1) && (backToKw cpos (keywordEach [] X.env)).all (fun x => x.1.isSome) && decide ((e :: ([] : List Expr)).length + ([] : List Keyword).length + (if ([] : List Keyword).isEmpty then 0 else 1) < 30)) = true := by rfl)
    (hline : (apos.endLine == cpos.line) = true := by rfl) (hs : starEach (e :: []) X.env = (false, eval e X.env) :: starEach [] X.env := by rfl) (hplain : (backTo cpos (starEach [] X.env)).any (·.1) = false := by rfl)
    (hsw : swapsWith (.Call (.Attribute o "append" apos) [e] [] cpos) none pos.line X.env = pure false := by rfl) : DS X T (.Expr (.Call (.Attribute o "append" apos) [e] [] cpos) pos) (fAppT i π f) := by
  obtain ⟨tp, pp, gp⟩ := hp.ex
  obtain ⟨te, pe, ge⟩ := he.ex
  refine ⟨_, ps_expr (pe_bm PySem.F.plainAttrs_list PySem.F.slot_list_append PySem.F.type_list_append mt_append pp (pa_cons pe pa_nil hs) hbase hfew hline hs hplain) hsw, fun B G0 H0 G H σ r o S h D m => ?_⟩
  unfold fAppT at h
  split at h
  · rename_i t ks d e1 e2 e3
    split at h
    · rename_i l e4
      obtain ⟨hl, h⟩ := ite_opt h
      cases h
      have hr := gT_iff.mp e1
      obtain ⟨v, hv⟩ := S.fits.treV hr
      refine gp G H σ r t v ks S.fits hr hv e2 _ fun w H1 n1 a1 => ?_
      have S1 := S.nx' n1
      obtain ⟨v1, p, vs, cs, hv1, a2, hh, hg, ow, np, nd, _, big⟩ := S1.nodeAt (Nx.refl S1.fits.gh) (N := noN) (fun a ha => ha.elim) hr e4
      rw [hv] at hv1
      cases hv1
      rw [a1] at a2
      cases a2
      refine ⟨.inl ⟨rfl, vs, SqL.of hh⟩, ?_⟩
      refine ge G H1 σ r d S1.fits e3 _ fun y G2 H2 n2 q2 => ?_
      have hh2 := n2.hh _ _ hh
      obtain ⟨v1, p2, vs2, cs2, hv1, a2, hh', hg2, ow2, np2, nd2, _, big2⟩ := S1.nodeAt n2 (N := noN) (fun a ha => ha.elim) hr e4
      rw [hv] at hv1
      cases hv1
      rw [vAt_mono n2.hh a1] at a2
      cases a2
      rw [hh2] at hh'
      cases hh'
      refine ⟨p, vs, y, rfl, rfl, hh2, by rw [ow.length]; exact Nat.lt_of_le_of_lt hl (by decide), ?_⟩
      refine m G2 _ _ (big2 (vs ++ [y]) (l ++ [.leaf d]) (cs2 ++ []) _ (fun a h1 h2 _ => upd_ne h1) upd_same (same_updR n2.gh hg2) (owA_snoc (ow2.updN np2) (.leaf q2)) ?_ ?_ ?_)
      · rw [List.append_nil]; exact np2
      · rw [List.append_nil]; exact nd2
      · rw [List.append_nil]; exact fun a ha => .inl ha
    · cases h
  · cases h
/-- places.append(a new tree) -/
def fAppU (i : Nat) (π : Env → Option (List Nat)) (f : Env → Option OT) : Env → Option Out := fun r => match gT r i, π r, f r with
  | some t, some ks, some u => (match t.at ks with
    | some (.node l) => if l.length ≤ 100000 then some (.nx (r.set i (.tre (t.put ks (.node (l ++ [u])))))) else none
    | _ => none)
  | _, _, _ => none
theorem ds_appU (i : Nat) {o e : Expr} {π : Env → Option (List Nat)} {f : Env → Option OT} {pos apos cpos : Pos} (hp : DP X T o i π) (he : DU X T e f)
    (hbase : attributeBase o "append" X.env (eval o X.env) = eval o X.env := by rfl)
    (hfew : ((backTo cpos (starEach (e :: []) X.env)).all (fun x => !x.1) && (backToKw cpos (keywordEach [] X.env)).all (fun x => x.1.isSome) && decide ((e :: ([] : List Expr)).length + ([] : List Keyword).length + (if ([] : List Keyword).isEmpty then 0 else 1) < 30)) = true := by rfl)
    (hline : (apos.endLine == cpos.line) = true := by rfl) (hs : starEach (e :: []) X.env = (false, eval e X.env) :: starEach [] X.env := by rfl) (hplain : (backTo cpos (starEach [] X.env)).any (·.1) = false := by rfl)
    (hsw : swapsWith (.Call (.Attribute o "append" apos) [e] [] cpos) none pos.line X.env = pure false := by rfl) : DS X T (.Expr (.Call (.Attribute o "append" apos) [e] [] cpos) pos) (fAppU i π f) := by
  obtain ⟨tp, pp, gp⟩ := hp.ex
  obtain ⟨te, pe, ge⟩ := he.ex
  refine ⟨_, ps_expr (pe_bm PySem.F.plainAttrs_list PySem.F.slot_list_append PySem.F.type_list_append mt_append pp (pa_cons pe pa_nil hs) hbase hfew hline hs hplain) hsw, fun B G0 H0 G H σ r o S h D m => ?_⟩
  unfold fAppU at h
  split at h
  · rename_i t ks d e1 e2 e3
    split at h
    · rename_i l e4
      obtain ⟨hl, h⟩ := ite_opt h
      cases h
      have hr := gT_iff.mp e1
      obtain ⟨v, hv⟩ := S.fits.treV hr
      refine gp G H σ r t v ks S.fits hr hv e2 _ fun w H1 n1 a1 => ?_
      have S1 := S.nx' n1
      obtain ⟨v1, p, vs, cs, hv1, a2, hh, hg, ow, np, nd, _, big⟩ := S1.nodeAt (Nx.refl S1.fits.gh) (N := noN) (fun a ha => ha.elim) hr e4
      rw [hv] at hv1
      cases hv1
      rw [a1] at a2
      cases a2
      refine ⟨.inl ⟨rfl, vs, SqL.of hh⟩, ?_⟩
      refine ge G H1 σ r d S1.fits e3 _ fun y bs G2 H2 n2 q2 ndb fb => ?_
      have hh2 := n2.hh _ _ hh
      obtain ⟨v1, p2, vs2, cs2, hv1, a2, hh', hg2, ow2, np2, nd2, sep, big2⟩ := S1.nodeAt n2 (N := fun a => a ∈ bs) (fun a ha => ⟨fb a ha, (Ow.inn _ q2 a ha).1⟩) hr e4
      rw [hv] at hv1
      cases hv1
      rw [vAt_mono n2.hh a1] at a2
      cases a2
      rw [hh2] at hh'
      cases hh'
      have pb : p ∉ bs := sep p (.inl rfl)
      refine ⟨p, vs, y, rfl, rfl, hh2, by rw [ow.length]; exact Nat.lt_of_le_of_lt hl (by decide), ?_⟩
      have q3 : Ow X.K T G2 (upd H2 p (.lst (vs ++ [y]))) y d bs := Ow.mv (Same.refl G2) d q2 (fun a ha => (Ow.inn d q2 a ha).1) (fun a ha => upd_ne fun e => pb (e ▸ ha))
      refine m G2 _ _ (big2 (vs ++ [y]) (l ++ [d]) (cs2 ++ bs) _ (fun a h1 h2 _ => upd_ne h1) upd_same (same_updR n2.gh hg2) (owA_snoc (ow2.updN np2) q3) (fun hm => ?_) ?_ (fun a ha => List.mem_append.mp ha))
      · rcases List.mem_append.mp hm with z | z
        · exact np2 z
        · exact pb z
      · rw [List.nodup_append]
        exact ⟨nd2, ndb, fun a ha b hb e => sep a (.inr ha) (e ▸ hb)⟩
    · cases h
  · cases h
theorem OwA.dropLast : ∀ {vs : List V} {l : List OT} {cs : List Addr}, OwA K T G H vs l cs → ∃ as bs, cs = as ++ bs ∧ OwA K T G H vs.dropLast l.dropLast as
  | _, [], _, .nil => ⟨[], [], rfl, .nil⟩
  | _, [t], _, .cons (as := as) a .nil => ⟨[], as, by simp, .nil⟩
  | _, t :: u :: l, _, .cons (v := v) (as := as) a (.cons (v := w) (vs := ws) (as := cs) (bs := ds) b c) => by
    obtain ⟨xs, ys, e, q⟩ := OwA.dropLast (OwA.cons b c)
    refine ⟨as ++ xs, ys, by rw [List.append_assoc, ← e], ?_⟩
    exact OwA.cons a q
/-- places.pop() -/
def fPopT (i : Nat) (π : Env → Option (List Nat)) : Env → Option Out := fun r => match gT r i, π r with
  | some t, some ks => (match t.at ks with
    | some (.node l) => if l = [] then none else some (.nx (r.set i (.tre (t.put ks (.node l.dropLast)))))
    | _ => none)
  | _, _ => none
theorem ite_optN {α : Type} {c : Prop} [Decidable c] {o : Option α} {z : α} (h : (if c then none else o) = some z) : ¬ c ∧ o = some z := by
  by_cases hc : c
  · rw [if_pos hc] at h; cases h
  · rw [if_neg hc] at h; exact ⟨hc, h⟩

theorem ds_popT (i : Nat) {o : Expr} {π : Env → Option (List Nat)} {pos apos cpos : Pos} (hp : DP X T o i π)
    (hbase : attributeBase o "pop" X.env (eval o X.env) = eval o X.env := by rfl) (hline : (apos.endLine == cpos.line) = true := by rfl)
    (hsw : swapsWith (.Call (.Attribute o "pop" apos) [] [] cpos) none pos.line X.env = pure false := by rfl) : DS X T (.Expr (.Call (.Attribute o "pop" apos) [] [] cpos) pos) (fPopT i π) := by
  obtain ⟨tp, pp, gp⟩ := hp.ex
  refine ⟨_, ps_expr (pe_bm0 PySem.F.plainAttrs_list PySem.F.slot_list_pop PySem.F.type_list_pop mt_pop pp hbase hline) hsw, fun B G0 H0 G H σ r o S h D m => ?_⟩
  unfold fPopT at h
  split at h
  · rename_i t ks e1 e2
    split at h
    · rename_i l e4
      obtain ⟨hl, h⟩ := ite_optN h
      cases h
      have hr := gT_iff.mp e1
      obtain ⟨v, hv⟩ := S.fits.treV hr
      refine gp G H σ r t v ks S.fits hr hv e2 _ fun w H1 n1 a1 => ?_
      have S1 := S.nx' n1
      obtain ⟨v1, p, vs, cs, hv1, a2, hh, hg, ow, np, nd, _, big⟩ := S1.nodeAt (Nx.refl S1.fits.gh) (N := noN) (fun a ha => ha.elim) hr e4
      rw [hv] at hv1
      cases hv1
      rw [a1] at a2
      cases a2
      have hlen := ow.length
      have hpos : 0 < l.length := List.length_pos_iff.mpr hl
      refine ⟨.inl ⟨rfl, vs, SqL.of hh⟩, p, vs, vs[vs.length - 1]'(by omega), rfl, rfl, hh, List.getElem?_eq_getElem _, ?_⟩
      obtain ⟨as, bs, ec, q⟩ := ow.dropLast
      subst ec
      exact m G _ _ (big vs.dropLast l.dropLast as _ (fun a h1 h2 _ => upd_ne h1) upd_same (same_updR S1.fits.gh hg) (q.updN fun h => np (List.mem_append_left _ h)) (fun h => np (List.mem_append_left _ h)) (List.nodup_append.mp nd).1 (fun a ha => .inl (List.mem_append_left _ ha)))
    · cases h
  · cases h
theorem OwA.reverse : ∀ {l : List OT} {vs : List V} {cs : List Addr}, OwA K T G H vs l cs → ∃ ds, ds.Perm cs ∧ OwA K T G H vs.reverse l.reverse ds
  | [], _, _, .nil => ⟨[], .nil, .nil⟩
  | t :: l, _, _, .cons (as := as) (bs := bs) a b => by
    obtain ⟨ds, p, q⟩ := OwA.reverse b
    refine ⟨ds ++ as, ?_, ?_⟩
    · exact (p.append_right as).trans List.perm_append_comm
    · rw [List.reverse_cons, List.reverse_cons]
      exact owA_snoc q a
/-- places.reverse() -/
def fRevT (i : Nat) (π : Env → Option (List Nat)) : Env → Option Out := fun r => match gT r i, π r with
  | some t, some ks => (match t.at ks with
    | some (.node l) => some (.nx (r.set i (.tre (t.put ks (.node l.reverse)))))
    | _ => none)
  | _, _ => none
theorem ds_revT (i : Nat) {o : Expr} {π : Env → Option (List Nat)} {pos apos cpos : Pos} (hp : DP X T o i π)
    (hbase : attributeBase o "reverse" X.env (eval o X.env) = eval o X.env := by rfl) (hline : (apos.endLine == cpos.line) = true := by rfl)
    (hsw : swapsWith (.Call (.Attribute o "reverse" apos) [] [] cpos) none pos.line X.env = pure false := by rfl) : DS X T (.Expr (.Call (.Attribute o "reverse" apos) [] [] cpos) pos) (fRevT i π) := by
  obtain ⟨tp, pp, gp⟩ := hp.ex
  refine ⟨_, ps_expr (pe_bm0 PySem.F.plainAttrs_list PySem.F.slot_list_reverse PySem.F.type_list_reverse mt_reverse pp hbase hline) hsw, fun B G0 H0 G H σ r o S h D m => ?_⟩
  unfold fRevT at h
  split at h
  · rename_i t ks e1 e2
    split at h
    · rename_i l e4
      cases h
      have hr := gT_iff.mp e1
      obtain ⟨v, hv⟩ := S.fits.treV hr
      refine gp G H σ r t v ks S.fits hr hv e2 _ fun w H1 n1 a1 => ?_
      have S1 := S.nx' n1
      obtain ⟨v1, p, vs, cs, hv1, a2, hh, hg, ow, np, nd, _, big⟩ := S1.nodeAt (Nx.refl S1.fits.gh) (N := noN) (fun a ha => ha.elim) hr e4
      rw [hv] at hv1
      cases hv1
      rw [a1] at a2
      cases a2
      refine ⟨.inl ⟨rfl, vs, SqL.of hh⟩, p, vs, rfl, rfl, hh, ?_⟩
      obtain ⟨ds, pm, q⟩ := ow.reverse
      exact m G _ _ (big vs.reverse l.reverse ds _ (fun a h1 h2 _ => upd_ne h1) upd_same (same_updR S1.fits.gh hg) (q.updN fun h => np (pm.mem_iff.mp h)) (fun h => np (pm.mem_iff.mp h)) (pm.nodup_iff.mpr nd) (fun a ha => .inl (pm.mem_iff.mp ha)))
    · cases h
  · cases h
theorem OwA.setLeaf : ∀ {l : List OT} {vs : List V} {cs : List Addr} {j : Nat} {v : V} {d : Dt}, OwA K T G H vs l cs → Rp K T G v d → ∃ ds, ds.Sublist cs ∧ OwA K T G H (vs.set j v) (l.set j (.leaf d)) ds
  | [], _, _, j, v, d, .nil, q => ⟨[], .slnil, .nil⟩
  | t :: l, _, _, 0, v, d, .cons (as := as) (bs := bs) a b, q => ⟨bs, List.sublist_append_right as bs, OwA.cons (as := []) (.leaf q) b⟩
  | t :: l, _, _, j + 1, v, d, .cons (as := as) (bs := bs) a b, q => by
    obtain ⟨ds, s, k⟩ := OwA.setLeaf (j := j) b q
    exact ⟨as ++ ds, List.Sublist.append (List.Sublist.refl as) s, .cons a k⟩
/-- places[k] = e -/
def fSetT (i : Nat) (π : Env → Option (List Nat)) (f k : Env → Option Dt) : Env → Option Out := fun r => match gT r i, f r, π r, k (frzE r) with
  | some t, some d, some ks, some (.int z) => (match t.at ks with
    | some (.node l) => (match ixN l.length z with
      | some j => some (.nx (r.set i (.tre (t.put ks (.node (l.set j (.leaf d)))))))
      | none => none)
    | _ => none)
  | _, _, _, _ => none
theorem ds_setT (i : Nat) {o e k : Expr} {π : Env → Option (List Nat)} {f g : Env → Option Dt} {pos spos : Pos} (hp : DP X T o i π) (he : DE X T e f) (hk : DE X T k g)
    (ha : ∀ v, assign (.Subscript o k spos) X.env v = (do
      let ov ← holding [v] (eval o X.env)
      let iv ← holding [v, ov] (eval k X.env)
      standAt spos
      holding [v, ov, iv] (setItem ov iv v)
      release [v, ov, iv] []) := by intro _; rfl)
    (hs : swapsWithSole [.Subscript o k spos] e pos.line X.env = pure false := by rfl) (hw : swappedStores [.Subscript o k spos] e X.env = pure none := by rfl) (h1 : (assignEach [.Subscript o k spos] X.env).map (·.2) = [assign (.Subscript o k spos) X.env] := by rfl) :
    DS X T (.Assign [.Subscript o k spos] e pos) (fSetT i π f g) := by
  obtain ⟨tp, pp, gp⟩ := hp.ex
  obtain ⟨te, pe, ge⟩ := he.ex
  obtain ⟨tk, pk, gk⟩ := hk.ex
  refine ⟨_, ps_asg pe (pg_sub pp pk set_list ha) hs hw h1, fun B G0 H0 G H σ r o S h D m => ?_⟩
  unfold fSetT at h
  split at h
  · rename_i t d ks z e1 e2 e3 e5
    split at h
    · rename_i l e4
      split at h
      · rename_i j e6
        cases h
        have hr := gT_iff.mp e1
        obtain ⟨v, hv⟩ := S.fits.treV hr
        refine ge G H σ r d S.fits e2 _ fun y G1 H1 n1 q1 => ?_
        have S1 := S.nx' n1
        refine gp G1 H1 σ r t v ks S1.fits hr hv e3 _ fun w H2 n2 a1 => ?_
        have S2 := S1.nx' n2
        refine gk H2 H2 σ (frzE r) _ S2.fits.frz e5 _ fun x G3 H3 n3 q3 => ?_
        cases q3
        have S3 := S2.grow n3.hh
        obtain ⟨v1, p, vs, cs, hv1, a2, hh, hg, ow, np, nd, _, big⟩ := S3.nodeAt (Nx.refl S3.fits.gh) (N := noN) (fun a ha => ha.elim) hr e4
        rw [hv] at hv1
        cases hv1
        rw [vAt_mono n3.hh a1] at a2
        cases a2
        obtain ⟨ds, sb, q⟩ := ow.setLeaf (j := j) q1
        refine ⟨p, vs, z, j, rfl, rfl, hh, by rw [ow.length]; exact e6, ?_⟩
        exact m G1 _ _ (big (vs.set j y) (l.set j (.leaf d)) ds _ (fun a h1 h2 _ => upd_ne h1) upd_same (same_updR S3.fits.gh hg) (q.updN fun h => np (sb.subset h)) (fun h => np (sb.subset h)) (nd.sublist sb) (fun a ha => .inl (sb.subset ha)))
      · cases h
    · cases h
  · cases h
/-- x = places; x[k] = e -/
def fAliasT (i x : Nat) (π : Env → Option (List Nat)) (f k : Env → Option Dt) : Env → Option Out := fun r => if x = i ∨ r.length ≤ x then none else match gT r i, π r, f (r.set x .no) with
  | some t, some ks, some d => (match t.at ks with
    | some (.node l) => (match k ((frzE (r.set x .no)).set x (.val (OT.node l).toD)) with
      | some (.int z) => (match ixN l.length z with
        | some j => some (.nx ((r.set x .no).set i (.tre (t.put ks (.node (l.set j (.leaf d)))))))
        | none => none)
      | _ => none)
    | _ => none)
  | _, _, _ => none
theorem fAliasT_some {i x : Nat} {π : Env → Option (List Nat)} {f k : Env → Option Dt} {r : Env} {o : Out} (h : fAliasT i x π f k r = some o) : ∃ t ks d l z j, x ≠ i ∧ x < r.length ∧ gT r i = some t ∧ π r = some ks ∧ f (r.set x .no) = some d ∧ t.at ks = some (.node l) ∧ k ((frzE (r.set x .no)).set x (.val (OT.node l).toD)) = some (.int z) ∧ ixN l.length z = some j ∧ o = .nx ((r.set x .no).set i (.tre (t.put ks (.node (l.set j (.leaf d)))))) := by
  unfold fAliasT at h
  obtain ⟨hne, h⟩ := ite_optN h
  split at h
  · rename_i t ks d e1 e2 e3
    split at h
    · rename_i l e4
      split at h
      · rename_i z e5
        split at h
        · rename_i j e6
          cases h
          exact ⟨t, ks, d, l, z, j, fun e => hne (.inl e), by omega, e1, e2, e3, e4, e5, e6, rfl⟩
        · cases h
      · cases h
    · cases h
  · cases h
theorem dss_aliasT (i j : Nat) {x : Str} {o e k : Expr} {rest : List Stmt} {π : Env → Option (List Nat)} {f g : Env → Option Dt} {b : Env → Option Out} {pos pos' pos2 spos p1 : Pos} (hN : X.N.Nodup) (hp : DP X T o i π) (he : DE X T e f) (hk : DE X T k g) (hb : DSs X T rest b) (hi : X.N[j]? = some x := by rfl) (hx : Loc X.env.scope x := by first | exact .inl rfl | exact .inr rfl)
    (hs0 : swapsWith o (some (.Name x pos')) pos.line X.env = pure false := by rfl) (hf : X.fn x = true ∨ X.env.scope.names.lookup x = some .local := by first | exact .inl rfl | exact .inr rfl)
    (hv : Vis X.env.scope x := by first | exact Or.inl rfl | exact Or.inr (Or.inl rfl)) (hd : (x == ("__debug__" : Str)) = false := by decide +kernel) (hcd : (x == ("__classdict__" : Str)) = false := by decide +kernel)
    (ha : ∀ v, assign (.Subscript (.Name x p1) k spos) X.env v = (do
      let ov ← holding [v] (eval (.Name x p1) X.env)
      let iv ← holding [v, ov] (eval k X.env)
      standAt spos
      holding [v, ov, iv] (setItem ov iv v)
      release [v, ov, iv] []) := by intro _; rfl)
    (hs : swapsWithSole [.Subscript (.Name x p1) k spos] e pos2.line X.env = pure false := by rfl) (hw : swappedStores [.Subscript (.Name x p1) k spos] e X.env = pure none := by rfl) (h1 : (assignEach [.Subscript (.Name x p1) k spos] X.env).map (·.2) = [assign (.Subscript (.Name x p1) k spos) X.env] := by rfl) :
    DSs X T (.Assign [.Name x pos'] o pos :: .Assign [.Subscript (.Name x p1) k spos] e pos2 :: rest) (fSeq (fAliasT i j π f g) b) := by
  obtain ⟨tp, pp, gp⟩ := hp.ex
  obtain ⟨te, pe, ge⟩ := he.ex
  obtain ⟨tk, pk, gk⟩ := hk.ex
  obtain ⟨tb, pb, gb⟩ := hb.ex
  refine ⟨_, pss_cons (ps_set hN hi hx pp hs0 hf) (pss_cons (ps_asg pe (pg_sub (pe_var hi hv hd hcd) pk set_list ha) hs hw h1) pb), fun B G0 H0 G H σ r o S h D m => ?_⟩
  unfold fSeq at h
  cases hA : fAliasT i j π f g r with
  | none => rw [hA] at h; cases h
  | some o1 =>
    rw [hA] at h
    obtain ⟨t, ks, d, l, z, jj, hne, hlt, e1, e2, e3, e4, e5, e6, rfl⟩ := fAliasT_some hA
    replace h : b ((r.set j .no).set i (.tre (t.put ks (.node (l.set jj (.leaf d)))))) = some o := h
    have hr := gT_iff.mp e1
    obtain ⟨v, hv'⟩ := S.fits.treV hr
    refine gp G H σ r t v ks S.fits hr hv' e2 _ fun w H1 n1 a1 => ?_
    have S1 := (S.nx' n1).setNoX (i := j) (some w)
    have hr1 : (r.set j .no)[i]? = some (.tre t) := by rw [List.getElem?_set_ne hne]; exact hr
    have hv1 : (σ.set j (some w))[i]? = some (some v) := by rw [List.getElem?_set_ne hne]; exact hv'
    have hw1 : (σ.set j (some w))[j]? = some (some w) := List.getElem?_set_self (by rw [S.fits.len]; exact hlt)
    refine ge G H1 (σ.set j (some w)) (r.set j .no) d S1.fits e3 _ fun y G2 H2 n2 q2 => ?_
    have S2 := S1.nx' n2
    refine ⟨w, hw1, ?_⟩
    obtain ⟨v2, p, vs, cs, hv2, a2, hh, hg, ow, np, nd, _, _⟩ := S2.nodeAt (Nx.refl S2.fits.gh) (N := noN) (fun a ha => ha.elim) hr1 e4
    rw [hv1] at hv2
    cases hv2
    rw [vAt_mono n2.hh a1] at a2
    cases a2
    have Fz := S2.fits.frz.set (i := j) (v := .ref p) (d := (OT.node l).toD) (by rw [OT.toD]; exact .lst hh (OwA.rp S2.fits.gh l ow))
    have es : (σ.set j (some (.ref p))).set j (some (.ref p)) = σ.set j (some (.ref p)) := by rw [List.set_set]
    rw [es] at Fz
    refine gk H2 H2 _ _ _ Fz e5 _ fun x G3 H3 n3 q3 => ?_
    cases q3
    have S3 := S2.grow n3.hh
    obtain ⟨v3, p3, vs3, cs3, hv3, a3, hh3, hg3, ow3, np3, nd3, _, big⟩ := S3.nodeAt (Nx.refl S3.fits.gh) (N := noN) (fun a ha => ha.elim) hr1 e4
    rw [hv1] at hv3
    cases hv3
    rw [vAt_mono (n2.hh.trans n3.hh) a1] at a3
    cases a3
    obtain ⟨ds, sb, q⟩ := ow3.setLeaf (j := jj) q2
    refine ⟨p, vs3, z, jj, rfl, rfl, hh3, by rw [ow3.length]; exact e6, ?_⟩
    exact gb B G0 H0 G2 _ _ _ o (big (vs3.set jj y) (l.set jj (.leaf d)) ds _ (fun a h1 h2 _ => upd_ne h1) upd_same (same_updR S3.fits.gh hg3) (q.updN fun h => np3 (sb.subset h)) (fun h => np3 (sb.subset h)) (nd3.sublist sb) (fun a ha => .inl (sb.subset ha))) h D m
/-! ### all rows changed: for x in places: x.append(c), x.pop() -/
def GB (K : PySem.W.Frag) (T : CT) (tb : TS) (x : Nat) (op : List OT → Option (List OT)) : Prop :=
  ∀ (G H : Hp) (σ : L2.St) (p : Addr) (ws : List V) (l l' : List OT) (cs : List Addr) (D : Ends), σ[x]? = some (some (.ref p)) → H p = some (.lst ws) → OwA K T G H ws l cs → op l = some l' → (∀ ws', OwA K T G H ws' l' cs → D.nx σ (upd H p (.lst ws'))) → tb D σ H
structure DB (X : Cx) (T : CT) (sts : List Stmt) (x : Nat) (op : List OT → Option (List OT)) : Prop where
  ex : ∃ tb, PSs X sts tb ∧ GB X.K T tb x op
def opApp (c : List Nat) (l : List OT) : Option (List OT) := if l.length ≤ 100000 then some (l ++ [.leaf (.str c)]) else none
theorem db_app (i : Nat) {x c : Str} (cl : List Nat) {pos p1 apos cpos cp : Pos} {j : Nat} (hc : c = ⟨cl.toArray⟩ := by decide +kernel) (hi : X.N[i]? = some x := by rfl) (hv : Vis X.env.scope x := by first | exact Or.inl rfl | exact Or.inr (Or.inl rfl)) (hd : (x == ("__debug__" : Str)) = false := by decide +kernel) (hcd : (x == ("__classdict__" : Str)) = false := by decide +kernel)
    (hbase : attributeBase (.Name x p1) "append" X.env (eval (.Name x p1) X.env) = eval (.Name x p1) X.env := by rfl)
    (hfew : ((backTo cpos (starEach ((.Constant (.str c) j cp) :: []) X.env)).all (fun x => !x.1) && (backToKw cpos (keywordEach [] X.env)).all (fun x => x.1.isSome) && decide (((Expr.Constant (.str c) j cp) :: ([] : List Expr)).length + ([] : List Keyword).length + (if ([] : List Keyword).isEmpty then 0 else 1) < 30)) = true := by rfl)
    (hline : (apos.endLine == cpos.line) = true := by rfl) (hs : starEach ((.Constant (.str c) j cp) :: []) X.env = (false, eval (.Constant (.str c) j cp) X.env) :: starEach [] X.env := by rfl) (hplain : (backTo cpos (starEach [] X.env)).any (·.1) = false := by rfl)
    (hsw : swapsWith (.Call (.Attribute (.Name x p1) "append" apos) [.Constant (.str c) j cp] [] cpos) none pos.line X.env = pure false := by rfl) : DB X T [.Expr (.Call (.Attribute (.Name x p1) "append" apos) [.Constant (.str c) j cp] [] cpos) pos] i (opApp cl) := by
  subst hc
  refine ⟨_, pss_one (ps_expr (pe_bm PySem.F.plainAttrs_list PySem.F.slot_list_append PySem.F.type_list_append mt_append (pe_var hi hv hd hcd) (pa_cons pe_str pa_nil hs) hbase hfew hline hs hplain) hsw), fun G H σ p ws l l' cs D hσ hh ow e k => ?_⟩
  unfold opApp at e
  obtain ⟨hl, e⟩ := ite_opt e
  cases e
  refine ⟨.ref p, hσ, .inl ⟨rfl, ws, SqL.of hh⟩, p, ws, .str ⟨cl.toArray⟩, rfl, rfl, hh, by rw [ow.length]; exact Nat.lt_of_le_of_lt hl (by decide), ?_⟩
  refine k (ws ++ [.str ⟨cl.toArray⟩]) ?_
  have := owA_snoc ow (Ow.leaf (G := G) (H := H) (K := X.K) (T := T) (Rp.str cl))
  rw [List.append_nil] at this
  exact this
def opPop (l : List OT) : Option (List OT) := match l.reverse with
  | .leaf _ :: rest => some rest.reverse
  | _ => none
theorem owA_unsnoc {u : OT} : ∀ {l : List OT} {vs : List V} {cs : List Addr}, OwA K T G H vs (l ++ [u]) cs → ∃ ws v as bs, vs = ws ++ [v] ∧ cs = as ++ bs ∧ OwA K T G H ws l as ∧ Ow K T G H v u bs
  | [], _, _, .cons (v := v) (as := as) a .nil => ⟨[], v, [], as, rfl, by simp, .nil, a⟩
  | t :: l, _, _, .cons (v := v) (as := as) a b => by
    obtain ⟨ws, w, xs, ys, rfl, rfl, q1, q2⟩ := owA_unsnoc (l := l) b
    exact ⟨v :: ws, w, as ++ xs, ys, rfl, by rw [List.append_assoc], .cons a q1, q2⟩
theorem db_pop (i : Nat) {x : Str} {pos p1 apos cpos : Pos} (hi : X.N[i]? = some x := by rfl) (hv : Vis X.env.scope x := by first | exact Or.inl rfl | exact Or.inr (Or.inl rfl)) (hd : (x == ("__debug__" : Str)) = false := by decide +kernel) (hcd : (x == ("__classdict__" : Str)) = false := by decide +kernel)
    (hbase : attributeBase (.Name x p1) "pop" X.env (eval (.Name x p1) X.env) = eval (.Name x p1) X.env := by rfl) (hline : (apos.endLine == cpos.line) = true := by rfl)
    (hsw : swapsWith (.Call (.Attribute (.Name x p1) "pop" apos) [] [] cpos) none pos.line X.env = pure false := by rfl) : DB X T [.Expr (.Call (.Attribute (.Name x p1) "pop" apos) [] [] cpos) pos] i opPop := by
  refine ⟨_, pss_one (ps_expr (pe_bm0 PySem.F.plainAttrs_list PySem.F.slot_list_pop PySem.F.type_list_pop mt_pop (pe_var hi hv hd hcd) hbase hline) hsw), fun G H σ p ws l l' cs D hσ hh ow e k => ?_⟩
  unfold opPop at e
  split at e
  · rename_i d rest hrev
    cases e
    have hl : l = rest.reverse ++ [.leaf d] := by rw [← List.reverse_reverse l, hrev, List.reverse_cons]
    rw [hl] at ow
    obtain ⟨us, v, as, bs, rfl, rfl, q1, q2⟩ := owA_unsnoc ow
    have hb : bs = [] := by cases q2; rfl
    subst hb
    rw [List.append_nil] at k
    refine ⟨.ref p, hσ, .inl ⟨rfl, _, SqL.of hh⟩, p, _, v, rfl, rfl, hh, by simp, ?_⟩
    have := k us q1
    rw [List.dropLast_concat]
    exact this
  · cases e
def opRows (op : List OT → Option (List OT)) : List OT → Option (List OT)
  | [] => some []
  | .node l :: rest => match op l with
    | some l' => (match opRows op rest with
      | some rs => some (.node l' :: rs)
      | none => none)
    | none => none
  | _ => none
theorem opRows_get {op : List OT → Option (List OT)} : ∀ {rows rows' : List OT} {j : Nat} {u : OT}, opRows op rows = some rows' → rows[j]? = some u → ∃ l l', u = .node l ∧ op l = some l' ∧ rows'[j]? = some (.node l')
  | [], _, j, u, h, e => by simp at e
  | t :: ts, rows', j, u, h, e => by
    unfold opRows at h
    split at h
    · rename_i h0; cases h0
    · rename_i l rest heq
      cases heq
      split at h
      · rename_i l' h1
        split at h
        · rename_i rs h2
          cases h
          cases j with
          | zero => simp at e; subst e; exact ⟨l, l', rfl, h1, rfl⟩
          | succ j => exact opRows_get (j := j) h2 (by simpa using e)
        · cases h
      · cases h
    · cases h
theorem opRows_len {op : List OT → Option (List OT)} : ∀ {rows rows' : List OT}, opRows op rows = some rows' → rows'.length = rows.length
  | [], _, h => by cases h; rfl
  | t :: ts, rows', h => by
    unfold opRows at h
    split at h
    · rename_i h0; cases h0
    · rename_i l rest heq
      cases heq
      split at h
      · split at h
        · rename_i rs h2
          cases h
          rw [List.length_cons, List.length_cons, opRows_len h2]
        · cases h
      · cases h
    · cases h
def fForT (i x : Nat) (π : Env → Option (List Nat)) (op : List OT → Option (List OT)) : Env → Option Out := fun r => if x = i ∨ r.length ≤ x then none else match gT r i, π r with
  | some t, some ks => (match t.at ks with
    | some (.node rows) => (match opRows op rows with
      | some rows' => some (.nx ((r.set x .no).set i (.tre (t.put ks (.node rows')))))
      | none => none)
    | _ => none)
  | _, _ => none
theorem ds_forT (i j : Nat) {x : Str} {o : Expr} {body : List Stmt} {π : Env → Option (List Nat)} {op : List OT → Option (List OT)} {pos px : Pos} (hN : X.N.Nodup) (hp : PassesOwn (model X.prog X.w) X.A X.env X.xe) (hc : X.calm = true) (ho : DP X T o i π) (hb : DB X T body j op) (hi : X.N[j]? = some x := by rfl) (hx : Loc X.env.scope x := by first | exact .inl rfl | exact .inr rfl) (hf : X.fn x = true ∨ X.env.scope.names.lookup x = some .local := by first | exact .inl rfl | exact .inr rfl) (hs : ∀ x, foldedSetIterable o X.env x = pure x := by intro _; rfl) :
    DS X T (.For (.Name x px) o body [] pos) (fForT i j π op) := by
  obtain ⟨tp, pp, gp⟩ := ho.ex
  obtain ⟨tb, pb, gb⟩ := hb.ex
  refine ⟨_, ps_for hp hc (pi_list pp) (pg_name hN hi hx hf) pb hs, fun B G0 H0 G H σ r o S h D m => ?_⟩
  unfold fForT at h
  obtain ⟨hne, h⟩ := ite_optN h
  split at h
  · rename_i t ks e1 e2
    split at h
    · rename_i rows e4
      split at h
      · rename_i rows' e5
        cases h
        have hr := gT_iff.mp e1
        have hji : j ≠ i := fun e => hne (.inl e)
        have hjl : j < σ.length := by rw [S.fits.len]; omega
        obtain ⟨v, hv⟩ := S.fits.treV hr
        refine gp G H σ r t v ks S.fits hr hv e2 _ fun w H1 n1 a1 => ?_
        have S1 := S.nx' n1
        obtain ⟨v1, p, vs, cs, hv1, a2, hh, hg, ow, np, nd, _, _⟩ := S1.nodeAt (Nx.refl S1.fits.gh) (N := noN) (fun a ha => ha.elim) hr e4
        rw [hv] at hv1
        cases hv1
        rw [a1] at a2
        cases a2
        have hlen := ow.length
        have hlen' := opRows_len e5
        refine ⟨p, rfl, ⟨vs, SqL.of hh⟩, ?_⟩
        refine ⟨fun k n σ' H' => n = rows.length - k ∧ k ≤ rows.length ∧ (∃ y, σ' = σ.set j y) ∧ (∀ a, a ≠ p → a ∉ cs → H' a = H1 a) ∧ H' p = some (.lst vs) ∧ OwA X.K T G H' vs (rows'.take k ++ rows.drop k) cs, ⟨rows.length, by simp, Nat.zero_le _, ?_, fun _ _ _ => rfl, hh, by simpa using ow⟩, ?_⟩
        · refine ⟨σ[j]?.join, ?_⟩
          rw [List.getElem?_eq_getElem hjl]
          exact (List.set_getElem_self hjl).symm
        rintro k n σ' H' ⟨rfl, hk, ⟨y, rfl⟩, same, hp', ow'⟩
        have SqH : SqL X.K H' p vs := SqL.of hp'
        by_cases hlt : k < rows.length
        · refine .inr ⟨⟨vs, vs[k]'(by omega), SqH, List.getElem?_eq_getElem _⟩, fun σ2 H2 => (∃ y, σ2 = σ.set j y) ∧ (∀ a, a ≠ p → a ∉ cs → H2 a = H1 a) ∧ H2 p = some (.lst vs) ∧ OwA X.K T G H2 vs (rows'.take (k + 1) ++ rows.drop (k + 1)) cs, fun σ2 H2 w => ⟨rows.length - (k + 1), by omega, rfl, hlt, w⟩, fun z H2 yl => ?_⟩
          obtain ⟨hH, yl⟩ := yl
          rw [hH]
          clear hH H2
          have hz := yl vs SqH
          have hu : (rows'.take k ++ rows.drop k)[k]? = some (rows[k]) := by
            rw [List.getElem?_append_right (by rw [List.length_take]; omega), List.length_take, Nat.min_eq_left (by omega), Nat.sub_self, List.getElem?_drop]
            exact List.getElem?_eq_getElem hlt
          obtain ⟨l, l', hul, hop, hr'⟩ := opRows_get e5 (List.getElem?_eq_getElem hlt)
          obtain ⟨wv, l1, mm, l2, hwv, qk, rfl, kk⟩ := ow'.split hu
          rw [hz] at hwv
          cases hwv
          rw [hul] at qk
          cases qk with
          | @node q ws _ as h1 h2 h3 =>
            show tb _ ((σ.set j y).set j (some (.ref q))) H'
            rw [List.set_set]
            have hq : q ∈ l1 ++ (q :: as ++ l2) := List.mem_append_right _ (List.mem_append_left _ List.mem_cons_self)
            have ndm : (q :: as).Nodup := (List.nodup_append.mp (List.nodup_append.mp nd).2.1).1
            have qp : q ≠ p := fun e => np (e ▸ hq)
            refine gb G H' (σ.set j (some (.ref q))) q ws l l' as _ (List.getElem?_set_self hjl) h1 h3 hop fun ws' ow2 => ?_
            refine ⟨⟨_, rfl⟩, fun a ha hc => ?_, ?_, ?_⟩
            · rw [upd_ne fun e => hc (by rw [e]; exact hq)]
              exact same a ha hc
            · rw [upd_ne (Ne.symm qp)]
              exact hp'
            · have hset : rows'.take (k + 1) ++ rows.drop (k + 1) = (rows'.take k ++ rows.drop k).set k (.node l') := by
                apply List.ext_getElem?
                intro b
                rw [List.getElem?_set]
                have len1 : (rows'.take k ++ rows.drop k).length = rows.length := by simp; omega
                by_cases hb : k = b
                · subst hb
                  rw [if_pos rfl, if_pos (by omega), List.getElem?_append_left (by rw [List.length_take]; omega), List.getElem?_take_of_lt (by omega)]
                  exact hr'
                · rw [if_neg hb]
                  by_cases hb2 : b < k
                  · rw [List.getElem?_append_left (by rw [List.length_take]; omega), List.getElem?_append_left (by rw [List.length_take]; omega), List.getElem?_take_of_lt (by omega), List.getElem?_take_of_lt (by omega)]
                  · rw [List.getElem?_append_right (by rw [List.length_take]; omega), List.getElem?_append_right (by rw [List.length_take]; omega), List.length_take, List.length_take, List.getElem?_drop, List.getElem?_drop]
                    congr 1
                    omega
              rw [hset]
              refine kk _ (.node l') (q :: as) (.node upd_same h2 (ow2.updN (List.nodup_cons.mp ndm).1)) (fun a ha => upd_ne fun e => ?_)
              subst e
              rw [List.nodup_append] at nd
              rcases ha with ha | ha
              · exact nd.2.2 a ha a (List.mem_append_left _ List.mem_cons_self) rfl
              · exact (List.nodup_append.mp nd.2.1).2.2 a List.mem_cons_self a ha rfl
        · have hk' : k = rows.length := by omega
          subst hk'
          refine .inl ⟨⟨vs, SqH, by omega⟩, ?_⟩
          have S2 := S1.setNoX (i := j) y
          have hr2 : (r.set j .no)[i]? = some (.tre t) := by rw [List.getElem?_set_ne hji]; exact hr
          have hv2 : (σ.set j y)[i]? = some (some v) := by rw [List.getElem?_set_ne hji]; exact hv
          obtain ⟨v3, p3, vs3, cs3, hv3, a3, hh3, hg3, ow3, np3, nd3, _, big⟩ := S2.nodeAt (Nx.refl S2.fits.gh) (N := noN) (fun a ha => ha.elim) hr2 e4
          rw [hv2] at hv3
          cases hv3
          rw [a1] at a3
          cases a3
          rw [hh] at hh3
          cases hh3
          have hcs : cs3 = cs := OwA.uniq _ ow3 ow
          subst hcs
          have hfin : rows'.take rows.length ++ rows.drop rows.length = rows' := by rw [List.drop_length, List.append_nil, List.take_of_length_le (by omega)]
          rw [hfin] at ow'
          refine m G H' _ (big vs rows' cs3 H' (fun a h1 h2 _ => same a h1 h2) hp' (fun a o ha => ?_) ow' np nd (fun a ha => .inl ha))
          have h6 := S1.fits.gh _ _ ha
          rw [same a (fun e => by rw [e, hg] at ha; cases ha) (fun hm => by rw [(OwA.inn _ ow a hm).1] at ha; cases ha)]
          exact h6
      · cases h
    · cases h
  · cases h
end
end PL

/-! ### own trees fixed for good; objects that are own trees -/
namespace PL
open PySem PySem.Spec PyProof.Rows L2
section
variable {X : Cx} {T : CT} {K : PySem.W.Frag} {B G0 H0 G H G1 H1 G' H' : Hp} {σ : L2.St} {r : Env}
def frzTAt (i : Nat) (r : Env) : Env := match r[i]? with | some (.tre t) => r.set i (.val t.toD) | _ => r
theorem St1.frzTr (S : St1 K T B G0 H0 G H σ r) (i : Nat) : ∃ G1, St1 K T B G0 H0 G1 H σ (frzTAt i r) := by
  classical
  unfold frzTAt
  split
  · rename_i t hr
    have hi : i < r.length := (List.getElem?_eq_some_iff.mp hr).1
    obtain ⟨m, k1, k2, k3⟩ := S.tr
    obtain ⟨⟨v, hv, q⟩, nd, hP⟩ := k1 i t hr
    let G1 : Hp := fun a => if a ∈ m i then H a else G a
    have gW : ∀ a, a ∈ m i → G1 a = H a := fun a h => if_pos h
    have gN : ∀ a, a ∉ m i → G1 a = G a := fun a h => if_neg h
    have gg : Same G G1 := fun a o h => by
      rw [gN a fun w => by rw [(Ow.inn t q a w).1] at h; cases h]
      exact h
    have gh : Same G1 H := fun a o h => by
      by_cases w : a ∈ m i
      · rw [gW a w] at h; exact h
      · rw [gN a w] at h; exact S.fits.gh _ _ h
    have back : ∀ (j : Nat) (z : Sl), (∃ t, z = .tre t) ∨ (∃ l, z = .own l) → (r.set i (.val t.toD))[j]? = some z → j ≠ i ∧ r[j]? = some z := fun j z hz e => by
      by_cases hj : j = i
      · subst hj
        rw [List.getElem?_set_self hi] at e
        cases e
        rcases hz with ⟨t, h⟩ | ⟨l, h⟩ <;> cases h
      · rw [List.getElem?_set_ne (Ne.symm hj)] at e
        exact ⟨hj, e⟩
    have tr : Tr K T G1 H (fun a => H0 a = none) σ (r.set i (.val t.toD)) := by
      refine ⟨m, fun j u e => ?_, fun j k u w hjk e1 e2 => k2 j k u w hjk (back j _ (.inl ⟨u, rfl⟩) e1).2 (back k _ (.inl ⟨w, rfl⟩) e2).2, fun j k u fs p e1 e2 e3 => k3 j k u fs p (back j _ (.inl ⟨u, rfl⟩) e1).2 (back k _ (.inr ⟨fs, rfl⟩) e2).2 e3⟩
      obtain ⟨hj, e⟩ := back j _ (.inl ⟨u, rfl⟩) e
      obtain ⟨⟨w, hw, q2⟩, nd2, hP2⟩ := k1 j u e
      exact ⟨⟨w, hw, Ow.mv gg u q2 (fun a ha => by rw [gN a (k2 j i u t hj e hr a ha)]; exact (Ow.inn u q2 a ha).1) (fun a ha => rfl)⟩, nd2, hP2⟩
    refine ⟨G1, ⟨gh, by rw [List.length_set]; exact S.fits.len, fun j d h => ?_, fun j fs h => ?_, fun j k fs gs p h1 h2 h3 h4 => ?_, tr.imp fun _ _ => trivial⟩, S.base.trans gg, ⟨S.nx.gg.trans gg, S.nx.hh, gh, fun a => ?_⟩, fun j fs p h1 h2 => S.ow j fs p (back j _ (.inr ⟨fs, rfl⟩) h1).2 h2, tr⟩
    · by_cases hj : j = i
      · subst hj
        rw [List.getElem?_set_self hi] at h
        cases h
        exact ⟨v, hv, Ow.rpG gg t q gW⟩
      · rw [List.getElem?_set_ne (Ne.symm hj)] at h
        obtain ⟨v, e, q⟩ := S.fits.val j d h
        exact ⟨v, e, Rp.mono gg d q⟩
    · obtain ⟨hj, h⟩ := back j _ (.inr ⟨fs, rfl⟩) h
      obtain ⟨p, us, e1, e2, e3, e4⟩ := S.fits.own j fs h
      exact ⟨p, us, e1, by rw [gN p (k3 i j t fs p hr h e1)]; exact e2, e3, RpA.mono gg _ e4⟩
    · exact S.fits.sep j k fs gs p (back j _ (.inr ⟨fs, rfl⟩) h1).2 (back k _ (.inr ⟨gs, rfl⟩) h2).2 h3 h4
    · by_cases w : a ∈ m i
      · exact .inr (.inr (.inl (hP a w)))
      · rw [gN a w]
        exact S.nx.fr a
  · exact ⟨G, S⟩
/-- own trees are fixed ahead of a statement -/
def fFixT (j : Nat) (a : Env → Option Out) : Env → Option Out := fun r => a (frzTAt j r)
theorem ds_fixT (j : Nat) {st : Stmt} {a : Env → Option Out} (h : DS X T st a) : DS X T st (fFixT j a) := by
  obtain ⟨t, p, g⟩ := h.ex
  refine ⟨t, p, fun B G0 H0 G H σ r o S e D m => ?_⟩
  obtain ⟨G1, S1⟩ := S.frzTr j
  exact g B G0 H0 G1 H σ _ o S1 e D m
/-! ### an object whose one field is an own tree -/
def GInU (K : PySem.W.Frag) (T : CT) (c : Nat) (ts : TS) (f : Str) (g : Env → Option OT) : Prop :=
  ∀ (G H : Hp) (σ : L2.St) (r : Env) (t : OT) (x dx : Addr), Fits K T G H σ r → σ[0]? = some (some (.ref x)) → G x = none → H x = some (.ins (T c).1 dx []) → g r = some t →
    ∀ D : Ends, (∀ G' H' v bs, NxB x G H G' H' → G' x = none → H' x = some (.ins (T c).1 dx [(f, v)]) → Ow K T G' H' v t bs → bs.Nodup → (∀ a ∈ bs, H a = none) → D.nx σ H') → ts D σ H
structure DInU (X : Cx) (T : CT) (c : Nat) (sts : List Stmt) (f : Str) (g : Env → Option OT) : Prop where
  ex : ∃ ts, PSs X sts ts ∧ GInU X.K T c ts f g
theorem dinU {c : Nat} {f : Str} {v : Expr} {e : Env → Option OT} {x : Str} {p1 pos' pos : Pos} (cl : Cls X.K (T c).1) (na : NoAttr X.K (T c).1 f) (hv : DU X T v e) (hN : X.N[0]? = some x := by rfl) (hvis : Vis X.env.scope x := by first | exact Or.inl rfl | exact Or.inr (Or.inl rfl))
    (hs : swapsWith v (some (.Attribute (.Name x p1) f pos')) pos.line X.env = pure false := by rfl) (hd : (x == ("__debug__" : Str)) = false := by decide +kernel) (hcd : (x == ("__classdict__" : Str)) = false := by decide +kernel) :
    DInU X T c [.Assign [.Attribute (.Name x p1) f pos'] v pos] f e := by
  obtain ⟨tv, pv, gv⟩ := hv.ex
  refine ⟨_, pss_one (ps_fld (pe_var hN hvis hd hcd) pv hs), fun G H σ r t x dx F hs hG hx he D k => ?_⟩
  refine gv G H σ r t F he _ fun y bs G1 H1 n1 q1 nd f1 => ?_
  refine ⟨.ref x, hs, x, _, dx, [], rfl, n1.hh _ _ hx, cl, na, by decide, ?_⟩
  have nb : x ∉ bs := fun hm => by rw [f1 x hm] at hx; cases hx
  have hG1 : G1 x = none := n1.out hG hx
  refine k G1 _ y bs ⟨n1.gg, fun b o hb h => by rw [upd_ne hb]; exact n1.hh _ _ h, same_updR n1.gh hG1, n1.fr⟩ hG1 upd_same (Ow.mv (Same.refl G1) t q1 (fun a ha => (Ow.inn t q1 a ha).1) (fun a ha => upd_ne fun e => nb (e ▸ ha))) nd f1
def initU (n m : Nat) (g : Env → Option OT) (ds : List Dt) : Option OT := if ds.length = n then g (Sl.no :: ds.map Sl.val ++ List.replicate m Sl.no) else none
def spIU (K : PySem.W.Frag) (T : CT) (c n : Nat) (f : Str) (g : List Dt → Option OT) : Sp := fun vs H Q _ => ∃ G ds t x dx as, vs = .ref x :: as ∧ as.length = n ∧ Same G H ∧ G x = none ∧ H x = some (.ins (T c).1 dx []) ∧ RpA K T G as ds ∧ g ds = some t ∧
  ∀ G' H' v bs, NxB x G H G' H' → G' x = none → H' x = some (.ins (T c).1 dx [(f, v)]) → Ow K T G' H' v t bs → bs.Nodup → (∀ a ∈ bs, H a = none) → Q .non H'
section
variable {P : Program} {w : World} {base : Heap} {mg : Str → Option Value}
theorem okIU {x qual : Str} {st : Stmt} {f : Addr} {fd : FuncData} {N ps : List Str} {k m n c : Nat} {fl : Str} {g : Env → Option OT} (F : Fun K x qual st f fd) (S : FnScope N ps (defScope st)) (hm : N.length = ps.length + m) (hp : ps.length = n + 1)
    (hb : ∀ (cdv : Value) (A : Around) (os : List PySem.Env) (s : Shared) (H : Hp) (E : XK), Room k (A.deeper (envOfC qual (defScope st) s.heap.objs.size f cdv)) → DInU (cxOf CX0 P w K mg base N qual (defScope st) f cdv A os s H E).nox T c (defBody st) fl g) :
    FnOk P w K mg base CX0 (k + 1) f fd ps (spIU K T c n fl (initU n m g)) := by
  refine F.ok S (fun vs H Q E h => ?_) (fun cdv A outer s H vs Q E hr h => ?_)
  · obtain ⟨G, ds, t, x, dx, as, rfl, hl, _⟩ := h
    rw [List.length_cons]; omega
  · obtain ⟨G, ds, t, x, dx, as, rfl, hl, gh, hG, hx, q, hd, k⟩ := h
    obtain ⟨ts, p, gs⟩ := (hb cdv A outer s H E hr).ex
    refine ⟨ts, p, ?_⟩
    have hq := q.length
    unfold initU at hd
    rw [if_pos (show ds.length = n by omega)] at hd
    have no_own : ∀ (i : Nat) (es : List Dt), (Sl.no :: ds.map Sl.val ++ List.replicate m Sl.no)[i]? ≠ some (.own es) := fun i es h => by
      have hm := List.mem_of_getElem? h
      simp at hm
    have no_tre : ∀ (i : Nat) (t : OT), (Sl.no :: ds.map Sl.val ++ List.replicate m Sl.no)[i]? ≠ some (Sl.tre t) := fun i t h => by
      have hm := List.mem_of_getElem? h
      simp at hm
    have F0 : Fits K T G H (L2.start N (.ref x :: as)) (Sl.no :: ds.map Sl.val ++ List.replicate m Sl.no) := by
      refine ⟨gh, ?_, fun i d h => ?_, fun i es h => absurd h (no_own i es), fun i j es fs p h => absurd h (no_own i es), Tr.nil no_tre⟩
      · unfold L2.start
        simp only [List.length_append, List.length_map, List.length_replicate, List.length_cons]
        omega
      · cases i with
        | zero => cases h
        | succ i =>
          have h' : (ds.map Sl.val ++ List.replicate m Sl.no)[i]? = some (.val d) := h
          by_cases hi : i < ds.length
          · rw [List.getElem?_append_left (by simpa using hi), List.getElem?_map, List.getElem?_eq_getElem hi] at h'
            cases h'
            obtain ⟨v, hv, rv⟩ := q.get (List.getElem?_eq_getElem hi)
            refine ⟨v, ?_, rv⟩
            unfold L2.start
            show (List.map some as ++ _)[i]? = _
            rw [List.getElem?_append_left (by rw [List.length_map]; omega), List.getElem?_map, hv]
            rfl
          · rw [List.getElem?_append_right (by simpa using hi), List.getElem?_replicate] at h'
            split at h' <;> cases h'
    exact gs G H _ _ t x dx F0 rfl hG hx hd _ fun G' H' v bs n' g' h' q' nd' f' => k G' H' v bs n' g' h' q' nd' f'
structure MakeOkU (P : Program) (w : World) (K : PySem.W.Frag) (mg : Str → Option Value) (base : Heap) (T : CT) (k c : Nat) (x : Str) (g : List Dt → Option OT) : Prop where
  ex : ∃ (f : Addr) (fd : FuncData) (ps : List Str) (n : Nat) (fl : Str), FnOk P w K mg base CX0 k f fd ps (spIU K T c n fl g) ∧ (T c).2 = [fl] ∧ Mk K (T c).1 f ∧ mg x = some (.ref (T c).1) ∧ Binds K fd ps [] ∧ ∀ ds d, g ds = some d → ds.length = n
theorem makeU_of {x qual y : Str} {st : Stmt} {f : Addr} {fd : FuncData} {ps : List Str} {k n m c : Nat} {fl : Str} {g : Env → Option OT} (F : Fun K y qual st f fd) (O : FnOk P w K mg base CX0 k f fd ps (spIU K T c n fl (initU n m g))) (hfl : (T c).2 = [fl]) (M : Mk K (T c).1 f) (hm : mg x = some (.ref (T c).1)) (hb : Binds K fd ps []) : MakeOkU P w K mg base T k c x (initU n m g) :=
  ⟨f, fd, ps, n, fl, O, hfl, M, hm, hb, fun ds d h => (ite_opt (by unfold initU at h; exact h)).1⟩
end
def uMake (c : Nat) (g : List Dt → Option OT) (a : Env → Option (List Dt)) : Env → Option OT := fun r => match a r with
  | some ds => (match g ds with
    | some t => some (.ob c [t])
    | none => none)
  | none => none
theorem du_make {x : Str} {k c : Nat} {g : List Dt → Option OT} {p pos : Pos} {e : Expr} {es : List Expr} {fa : Env → Option (List Dt)} (C : MakeOkU X.prog X.w X.K X.mg X.base T k c x g) (hr : Room (k + 1) X.A) (ha : DA X T (e :: es) fa) (hg : Gl X x := by rfl)
    (hx : ∀ {f : Addr} {fd : FuncData} {ps : List Str} {sp : Sp} {t : TA}, Mk X.K (T c).1 f → FnOk X.prog X.w X.K X.mg X.base CX0 k f fd ps sp → X.mg x = some (.ref (T c).1) → Binds X.K fd ps [] → PA X (e :: es) t → PE X (.Call (.Name x p) (e :: es) [] pos) (tMake (T c).1 sp [] E0 t)) :
    DU X T (.Call (.Name x p) (e :: es) [] pos) (uMake c g fa) := by
  obtain ⟨f, fd, ps, n, fl, O, hfl, M, hm, hb, hn⟩ := C.ex
  obtain ⟨ta, pa, ga⟩ := ha.ex
  refine ⟨_, hx M O hm hb pa, fun G H σ r d F h Q q => ?_⟩
  unfold uMake at h
  split at h
  · rename_i ds e1
    split at h
    · rename_i t e2
      cases h
      refine ga G H σ r ds F e1 _ fun vs G1 H1 n1 p1 => ?_
      intro x dx hx hdx ne
      have gx : G1 x = none := n1.gh.free hx
      have gdx : G1 dx = none := n1.gh.free hdx
      refine ⟨G1, ds, t, x, dx, vs, by rw [List.append_nil], by rw [p1.length]; exact hn ds t e2, fun b o e => ?_, gx, upd_same, p1, e2, fun G' H' v bs n' g' h' q' nd' f' => ⟨rfl, ?_⟩⟩
      · rw [upd_ne (ne_of_none e gx), upd_ne (ne_of_none e gdx)]
        exact n1.gh _ _ e
      · have xb : x ∉ bs := fun hm => by
          have := f' x hm
          rw [upd_same] at this
          cases this
        refine q (.ref x) (x :: (bs ++ [])) G' H' ⟨n1.gg.trans n'.gg, fun b o e => ?_, n'.gh, fun a => ?_⟩ (.ob h' (by rw [hfl]; rfl) g' (.cons q' .nil)) ?_ (fun a ha => ?_)
        · have e1 := n1.hh _ _ e
          have hb : b ≠ x := ne_of_none e1 hx
          refine n'.hh b o hb ?_
          rw [upd_ne hb, upd_ne (ne_of_none e1 hdx)]
          exact e1
        · by_cases ha : a = x
          · exact .inl (by rw [ha]; exact g')
          · rcases n'.fr a with z | z | z
            · exact .inl z
            · rcases n1.fr a with y | y | y
              · exact absurd y z
              · exact .inr (.inl y)
              · exact .inr (.inr y)
            · exact .inr (.inr (((z.upd (fun _ z => by cases z)).2.upd (fun _ z => by cases z)).2.back n1.hh))
        · rw [List.append_nil, List.nodup_cons]
          exact ⟨xb, nd'⟩
        · rw [List.append_nil] at ha
          rcases List.mem_cons.mp ha with rfl | ha
          · exact n1.hh.free hx
          · have h1 := f' a ha
            by_cases hax : a = x
            · exact absurd (hax ▸ ha) xb
            · rw [upd_ne hax] at h1
              by_cases had : a = dx
              · rw [had, upd_same] at h1; cases h1
              · rw [upd_ne had] at h1
                exact n1.hh.free h1
    · cases h
  · cases h
/-! ### defs that answer a new own tree -/
def GSU (K : PySem.W.Frag) (T : CT) (ts : TS) (g : Env → Option OT) : Prop :=
  ∀ (B G0 H0 G H : Hp) (σ : L2.St) (r : Env) (t : OT), St1 K T B G0 H0 G H σ r → g r = some t → ∀ D : Ends, (∀ v as G' H', Nx G0 H0 G' H' → Ow K T G' H' v t as → as.Nodup → (∀ a ∈ as, H0 a = none) → D.rt v H') → ts D σ H
structure DSsU (X : Cx) (T : CT) (sts : List Stmt) (g : Env → Option OT) : Prop where
  ex : ∃ ts, PSs X sts ts ∧ GSU X.K T ts g
def fSeqU (a : Env → Option Out) (b : Env → Option OT) : Env → Option OT := fun r => match a r with
  | some (.nx r') => b r'
  | _ => none
theorem dssu_cons {st : Stmt} {rest : List Stmt} {a : Env → Option Out} {b : Env → Option OT} (h1 : DS X T st a) (h2 : DSsU X T rest b) : DSsU X T (st :: rest) (fSeqU a b) := by
  obtain ⟨t, p, g⟩ := h1.ex
  obtain ⟨t2, p2, g2⟩ := h2.ex
  refine ⟨_, pss_cons p p2, fun B G0 H0 G H σ r l S e D m => ?_⟩
  unfold fSeqU at e
  split at e
  · rename_i r' e1
    exact g B G0 H0 G H σ r _ S e1 { D with nx := t2 D } fun G1 H1 σ1 S1 => g2 B G0 H0 G1 H1 σ1 r' l S1 e D m
  · cases e
theorem dssu_ret {e : Expr} {f : Env → Option OT} {pos : Pos} (he : DU X T e f) : DSsU X T [.Return (some e) pos] f := by
  obtain ⟨te, pe, ge⟩ := he.ex
  refine ⟨_, pss_one (ps_ret pe), fun B G0 H0 G H σ r l S e D m => ?_⟩
  exact ge G H σ r l S.fits e _ fun v as G1 H1 n1 q nd f => m v as G1 H1 (S.nx.trans n1) q nd fun a ha => S.nx.hh.free (f a ha)
def uIf (c : Env → Option Bool) (a b : Env → Option OT) : Env → Option OT := fun r => match c r with
  | some true => a r
  | some false => b r
  | none => none
theorem du_if {a c b : Expr} {fc : Env → Option Bool} {fa fb : Env → Option OT} {pos : Pos} (hc : DT X T c fc) (ha : DU X T a fa) (hb : DU X T b fb) : DU X T (.IfExp c a b pos) (uIf fc fa fb) := by
  obtain ⟨tc, pc, gc⟩ := hc.ex
  obtain ⟨ta, pa, ga⟩ := ha.ex
  obtain ⟨tb, pb, gb⟩ := hb.ex
  refine ⟨_, pe_ifExp pc pa pb, fun G H σ r d F h Q q => ?_⟩
  unfold uIf at h
  split at h
  · rename_i e1
    refine gc G H σ r _ F e1 _ fun G1 H1 n1 => ?_
    show (if true = true then ta σ H1 Q else tb σ H1 Q)
    rw [if_pos rfl]
    exact ga G1 H1 σ r d (F.nx n1) h Q fun v as G2 H2 n2 q2 nd f => q v as G2 H2 (n1.trans n2) q2 nd fun a ha => n1.hh.free (f a ha)
  · rename_i e1
    refine gc G H σ r _ F e1 _ fun G1 H1 n1 => ?_
    show (if false = true then ta σ H1 Q else tb σ H1 Q)
    rw [if_neg Bool.false_ne_true]
    exact gb G1 H1 σ r d (F.nx n1) h Q fun v as G2 H2 n2 q2 nd f => q v as G2 H2 (n1.trans n2) q2 nd fun a ha => n1.hh.free (f a ha)
  · cases h
def spU (K : PySem.W.Frag) (T : CT) (n : Nat) (f : List Dt → Option OT) : Sp := fun vs H Q _ => vs.length = n ∧ ∃ G ds t, Same G H ∧ RpA K T G vs ds ∧ f ds = some t ∧ ∀ v as G' H', Nx G H G' H' → Ow K T G' H' v t as → as.Nodup → (∀ a ∈ as, H a = none) → Q v H'
def runU (n m : Nat) (g : Env → Option OT) (ds : List Dt) : Option OT := if ds.length = n then g (ds.map Sl.val ++ List.replicate m Sl.no) else none
section
variable {P : Program} {w : World} {mg : Str → Option Value} {base : Heap}
theorem okU {x qual : Str} {st : Stmt} {f : Addr} {fd : FuncData} {N ps : List Str} {k m : Nat} {g : Env → Option OT} (F : Fun K x qual st f fd) (S : FnScope N ps (defScope st)) (hm : N.length = ps.length + m)
    (hb : ∀ (cdv : Value) (A : Around) (os : List PySem.Env) (s : Shared) (H : Hp) (E : XK), Room k (A.deeper (envOfC qual (defScope st) s.heap.objs.size f cdv)) → DSsU (cxOf CX0 P w K mg base N qual (defScope st) f cdv A os s H E).nox T (defBody st) g) :
    FnOk P w K mg base CX0 (k + 1) f fd ps (spU K T ps.length (runU ps.length m g)) := by
  refine F.ok S (fun vs H Q E h => h.1) (fun cdv A outer s H vs Q E hr h => ?_)
  obtain ⟨hl, G, ds, l, gh, q, hd, k⟩ := h
  obtain ⟨t, p, gs⟩ := (hb cdv A outer s H E hr).ex
  refine ⟨t, p, ?_⟩
  have hq := q.length
  unfold runU at hd
  rw [if_pos (show ds.length = ps.length by omega)] at hd
  exact gs G G H G H _ _ _ (entry (N := N) (m := m) gh q (by omega)) hd _ fun v as G' H' n h0 h1 h2 => k v as G' H' n h0 h1 h2
structure CalleeU (P : Program) (w : World) (K : PySem.W.Frag) (mg : Str → Option Value) (base : Heap) (T : CT) (k : Nat) (x : Str) (g : List Dt → Option OT) : Prop where
  ex : ∃ (f : Addr) (fd : FuncData) (ps : List Str) (n : Nat), FnOk P w K mg base CX0 k f fd ps (spU K T n g) ∧ mg x = some (.ref f) ∧ PySem.W.keepIn K (.ref f) = true ∧ Binds K fd ps [] ∧ ∀ ds d, g ds = some d → ds.length = n
theorem calleeU_of {x qual y : Str} {st : Stmt} {f : Addr} {fd : FuncData} {ps : List Str} {k n m : Nat} {g : Env → Option OT} (F : Fun K y qual st f fd) (O : FnOk P w K mg base CX0 k f fd ps (spU K T n (runU n m g))) (hm : mg x = some (.ref f)) (hb : Binds K fd ps []) : CalleeU P w K mg base T k x (runU n m g) :=
  ⟨f, fd, ps, n, O, hm, F.kp, hb, fun ds d h => (ite_opt (by unfold runU at h; exact h)).1⟩
end
def uCall (g : List Dt → Option OT) (a : Env → Option (List Dt)) : Env → Option OT := fun r => match a r with
  | some ds => g ds
  | none => none
theorem du_call {x : Str} {k : Nat} {g : List Dt → Option OT} {p pos : Pos} {e : Expr} {es : List Expr} {fa : Env → Option (List Dt)} (C : CalleeU X.prog X.w X.K X.mg X.base T k x g) (hr : Room k X.A) (ha : DA X T (e :: es) fa) (hg : Gl X x := by rfl)
    (hdb : (x == ("__debug__" : Str)) = false := by decide +kernel) (he : starEach (e :: es) X.env = (false, eval e X.env) :: starEach es X.env := by rfl) (hpl : (backTo pos (starEach es X.env)).any (·.1) = false := by rfl) : DU X T (.Call (.Name x p) (e :: es) [] pos) (uCall g fa) := by
  obtain ⟨f, fd, ps, n, O, hm, hk, hb, hn⟩ := C.ex
  obtain ⟨ta, pa, ga⟩ := ha.ex
  refine ⟨_, pe_call (E := E0) O hr hg hm hk hb .nil pass0 pa hdb he hpl, fun G H σ r d F h Q q => ?_⟩
  unfold uCall at h
  split at h
  · rename_i ds e1
    refine ga G H σ r ds F e1 _ fun vs G1 H1 n1 p1 => ?_
    rw [List.append_nil]
    exact ⟨by rw [p1.length]; exact hn ds d h, G1, ds, d, n1.gh, p1, h, fun v as G2 H2 n2 h0 h1 h2 => q v as G2 H2 (n1.trans n2) h0 h1 fun a ha => n1.hh.free (h2 a ha)⟩
  · cases h
end
end PL
namespace PL
open PySem PySem.Spec PyProof.Rows L2
section
variable {X : Cx} {T : CT}
def uE (f : Env → Option Dt) : Env → Option OT := fun r => (f r).map .leaf
theorem du_e {e : Expr} {f : Env → Option Dt} (h : DE X T e f) : DU X T e (uE f) := by
  obtain ⟨te, pe, ge⟩ := h.ex
  refine ⟨te, pe, fun G H σ r t F e Q q => ?_⟩
  unfold uE at e
  cases e1 : f r with
  | none => rw [e1] at e; cases e
  | some d =>
    rw [e1] at e
    cases e
    exact ge G H σ r d F e1 _ fun v G1 H1 n1 q1 => q v [] G1 H1 n1 (.leaf q1) .nil (fun a ha => by cases ha)
end
end PL

/-! ### dicts whose keys are pairs of numbers -/
namespace PL
open PySem PySem.Spec PyProof.Rows L2
section
variable {X : Cx} {T : CT} {K : PySem.W.Frag} {B G0 H0 G H G1 H1 G' H' : Hp} {σ : L2.St} {r : Env}
/-! #### a display of one pair -/
def tDispT (tk tv : TE) : TE := fun σ H Q => ∀ p, H p = none → tk σ (upd H p (.dT [])) fun y H1 => tv σ H1 fun z H2 => H2 p = some (.dT []) ∧ ∃ ks b z', [(y, z)] = [(V.ref b, z')] ∧ H2 b = some (.tup (List.map kV ks)) ∧ Q (.ref p) (upd H2 p (.dT [(ks, z')]))
theorem pe_dispT {k v : Expr} {pos : Pos} {tk tv : TE} (hu : X.A.units + 1 < cLine) (pk : PE X k tk) (pv : PE X v tv) : PE X (.Dict [some k] [v] pos) (tDispT tk tv) := by
  refine ⟨fun pins s σ H Q I q => ?_⟩
  have hshape : (evalEachOpt [some k] X.env).zip (List.map (fun v => do
      let x ← v
      standAt pos
      pure x) (evalEach [v] X.env)) = List.map (fun p => (some p.fst, p.snd)) (pairTrees [some k] [v] X.env pos) := rfl
  rw [arm_eval_Dict, hshape, dictDisplay_pairs _ (by intro h; cases h) (by show 1 < 17; decide)]
  have hn := L2.HOk.fresh I.hok (Nat.le_refl s.heap.objs.size)
  have I1 := L2.Inv.laid (t' := s.toks) I (fun x _ q => Heap.get?_push_of_some { cls := Value.type "dict", data := Data.dict #[] } q) (Nat.le_refl s.heap.objs.size) (dt_empty s.heap (L2.Inv.big I))
  have W := (pps_cons (pos := pos) pk pv pps_nil).run pins _ σ _ (fun ps H2 => H2 s.heap.objs.size = some (.dT []) ∧ ∃ ks b z, ps = [(.ref b, z)] ∧ H2 b = some (.tup (List.map kV ks)) ∧ Q (.ref s.heap.objs.size) (upd H2 s.heap.objs.size (.dT [(ks, z)]))) I1 (q s.heap.objs.size hn)
  refine wpAny_bind (wpAny_standAt (wpAny_bind (wpAny_subDictH (knd := tupleKind (mixKind X.prog X.w)) (by show X.A.units < cLine; omega) (by show 1 ≤ 15; decide) (thn W fun ws s2 x => ?_))))
  obtain ⟨ps, H2, I2, rel, e, ks, b, z, rfl, hb, q2⟩ := x
  cases rel with
  | @cons _ w _ _ r1 r2 =>
    cases r2
    obtain ⟨u1, u2⟩ := w
    obtain ⟨ru1, ru2⟩ := r1
    have eu : u1 = Value.ref b := ru1
    subst eu
    obtain ⟨hz, hs, xs, kt, dd⟩ := dt_of I2.hok e
    cases kt
    obtain ⟨hl, its, hv, o, ho, hc, n, hd⟩ := I2.hok b _ hb
    refine ⟨[(ks, b, u2)], ⟨rfl, rfl, ⟨o, its.toArray, n, ho, hc, hd, by simpa using items_are hv⟩, trivial⟩, dd, fun h' tk dd' hs' => wpAny_pure ?_⟩
    refine ⟨.ref s.heap.objs.size, _, d_write (ob := .dT [(ks, z)]) I2 (by rw [e]; trivial) hs' ?_ ?_, rfl, q2⟩
    · obtain ⟨o', es, ep, h1, _⟩ := dd'
      exact ⟨o', h1⟩
    · obtain ⟨o', es, ep, h1, h2, h3, h4, h5, h6⟩ := dd'
      have hne : b ≠ s.heap.objs.size := fun e' => by rw [e', e] at hb; cases hb
      exact ⟨by show 1 ≤ sizeLine; decide, hs, [(ks, b, u2)], .cons ⟨rfl, (by rw [upd_ne hne]; exact hb), ru2⟩ .nil, o', es, ep, h1, h2, h3, h4, h6⟩

/-! #### what dicts hold -/
def dGet : List (Int × Int) → List Dt → Int × Int → Option Dt
  | k :: ks, d :: ds, q => if k = q then some d else dGet ks ds q
  | _, _, _ => none
def dPutL : List (Int × Int) → List Dt → Int × Int → Dt → List Dt
  | k :: ks, d :: ds, q, x => (if k = q then x else d) :: dPutL ks ds q x
  | _, _, _, _ => []
def dPutK (ks : List (Int × Int)) (q : Int × Int) : List (Int × Int) := if q ∈ ks then ks else ks ++ [q]
def dPutV (ks : List (Int × Int)) (ds : List Dt) (q : Int × Int) (x : Dt) : List Dt := if q ∈ ks then dPutL ks ds q x else ds ++ [x]
theorem kPair_inj {p q : Int × Int} : kPair p = kPair q ↔ p = q := by
  constructor
  · intro h
    unfold kPair at h
    injection h with h1 h2
    injection h2 with h2 _
    injection h1 with h1
    injection h2 with h2
    exact Prod.ext h1 h2
  · rintro rfl; rfl
theorem dget_rep : ∀ {kvs : List (List L2.Key × V)} {ks : List (Int × Int)} {ds : List Dt} {q : Int × Int} {d : Dt}, kvs.map Prod.fst = ks.map kPair → RpA K T G (kvs.map Prod.snd) ds → dGet ks ds q = some d → ∃ v, valV kvs (kPair q) = some v ∧ Rp K T G v d
  | [], [], ds, q, d, _, _, h => by cases ds <;> cases h
  | [], _ :: _, _, _, _, e, _, _ => by cases e
  | _ :: _, [], _, _, _, e, _, _ => by cases e
  | kv :: kvs, k :: ks, [], q, d, _, r, _ => by cases r
  | kv :: kvs, k :: ks, d' :: ds, q, d, e, r, h => by
    rw [List.map_cons, List.map_cons] at e
    injection e with e1 e2
    cases r with
    | cons r1 r2 =>
      unfold dGet at h
      by_cases hk : k = q
      · rw [if_pos hk] at h
        cases h
        exact ⟨kv.2, valV_pos (by rw [e1, hk]), r1⟩
      · rw [if_neg hk] at h
        obtain ⟨v, h1, h2⟩ := dget_rep e2 r2 h
        exact ⟨v, by rw [valV_neg (by rw [e1]; exact fun z => hk (kPair_inj.mp z))]; exact h1, h2⟩
theorem din_rep : ∀ {kvs : List (List L2.Key × V)} {ks : List (Int × Int)} {q : Int × Int}, kvs.map Prod.fst = ks.map kPair → (valV kvs (kPair q)).isSome = decide (q ∈ ks)
  | [], [], q, _ => by rw [valV_nil]; rfl
  | [], _ :: _, _, e => by cases e
  | _ :: _, [], _, e => by cases e
  | kv :: kvs, k :: ks, q, e => by
    rw [List.map_cons, List.map_cons] at e
    injection e with e1 e2
    by_cases hk : k = q
    · rw [valV_pos (by rw [e1, hk])]
      rw [decide_eq_true (by rw [hk]; exact List.mem_cons_self)]; rfl
    · rw [valV_neg (by rw [e1]; exact fun z => hk (kPair_inj.mp z)), din_rep e2]
      congr 1
      apply propext
      rw [List.mem_cons]
      exact ⟨.inr, fun h => h.resolve_left (Ne.symm hk)⟩
theorem dputL_rep {x : Dt} {v : V} (rv : Rp K T G v x) : ∀ {kvs : List (List L2.Key × V)} {ks : List (Int × Int)} {ds : List Dt} {q : Int × Int}, kvs.map Prod.fst = ks.map kPair → RpA K T G (kvs.map Prod.snd) ds →
    (kvs.map fun kv => if kv.1 = kPair q then (kv.1, v) else kv).map Prod.fst = ks.map kPair ∧ RpA K T G ((kvs.map fun kv => if kv.1 = kPair q then (kv.1, v) else kv).map Prod.snd) (dPutL ks ds q x)
  | [], [], ds, q, _, r => by cases r; exact ⟨rfl, .nil⟩
  | [], _ :: _, _, _, e, _ => by cases e
  | _ :: _, [], _, _, e, _ => by cases e
  | kv :: kvs, k :: ks, [], q, _, r => by cases r
  | kv :: kvs, k :: ks, d :: ds, q, e, r => by
    rw [List.map_cons, List.map_cons] at e
    injection e with e1 e2
    cases r with
    | cons r1 r2 =>
      obtain ⟨h1, h2⟩ := dputL_rep rv (q := q) e2 r2
      unfold dPutL
      rw [List.map_cons, List.map_cons, List.map_cons]
      by_cases hk : k = q
      · have : kv.1 = kPair q := by rw [e1, hk]
        rw [if_pos this, if_pos hk]
        exact ⟨by show kv.1 :: _ = kPair k :: _; rw [h1, e1], .cons rv h2⟩
      · have : ¬ kv.1 = kPair q := by rw [e1]; exact fun z => hk (kPair_inj.mp z)
        rw [if_neg this, if_neg hk]
        exact ⟨by show kv.1 :: _ = kPair k :: _; rw [h1, e1], .cons r1 h2⟩
theorem dput_rep {x : Dt} {v : V} (rv : Rp K T G v x) {kvs : List (List L2.Key × V)} {ks : List (Int × Int)} {ds : List Dt} {q : Int × Int} (e : kvs.map Prod.fst = ks.map kPair) (r : RpA K T G (kvs.map Prod.snd) ds) :
    (putK kvs (kPair q) v).map Prod.fst = (dPutK ks q).map kPair ∧ RpA K T G ((putK kvs (kPair q) v).map Prod.snd) (dPutV ks ds q x) := by
  have hin := din_rep (q := q) e
  have hany := valV_any (kPair q) kvs
  rw [hin] at hany
  unfold putK dPutK dPutV
  by_cases h : q ∈ ks
  · rw [if_pos (by rw [hany]; exact decide_eq_true h), if_pos h, if_pos h]
    exact dputL_rep rv e r
  · rw [if_neg (by rw [hany, decide_eq_false h]; exact Bool.false_ne_true), if_neg h, if_neg h]
    exact ⟨by rw [List.map_append, List.map_append, e]; rfl, by rw [List.map_append]; exact r.append (.cons rv .nil)⟩
def keyOf : Dt → Option (Int × Int)
  | .tup [.int i, .int j] => some (i, j)
  | _ => none
def kD (q : Int × Int) : Dt := .tup [.int q.1, .int q.2]
theorem keyOf_some {d : Dt} {q : Int × Int} (h : keyOf d = some q) : d = kD q := by
  unfold keyOf at h
  split at h
  · cases h; rfl
  · cases h
theorem key_rep {v : V} {d : Dt} {q : Int × Int} (r : Rp K T G v d) (h : keyOf d = some q) : ∃ b, v = .ref b ∧ G b = some (.tup (List.map kV (kPair q))) := by
  rw [keyOf_some h] at r
  unfold kD at r
  cases r with
  | @tup a xs _ h1 h2 h3 =>
    cases h2 with
    | cons p1 p2 =>
      cases p2 with
      | cons p2 p3 =>
        cases p3
        cases p1
        cases p2
        exact ⟨a, rfl, h3 q.1 [q.2] rfl⟩
/-! #### reading -/
def dgD (d e : Dt) : Option Dt := match d, keyOf e with
  | .dic ks ds, some q => dGet ks ds q
  | _, _ => none
theorem de_dget {o i : Expr} {fo fi : Env → Option Dt} {pos : Pos} (hu : X.A.units + 1 < cLine) (ho : DE X T o fo) (hi : DE X T i fi) (hs : NoSl i := by exact fun _ _ => rfl) : DE X T (.Subscript o i pos) (fOp dgD fo fi) := by
  obtain ⟨to, po, go⟩ := ho.ex
  obtain ⟨ti, pi, gi⟩ := hi.ex
  refine ⟨_, pe_dget hu po pi hs, fun G H σ r z F h Q q => ?_⟩
  obtain ⟨d, e, h1, h2, h3⟩ := fOp_some h
  unfold dgD at h3
  split at h3
  · rename_i ks ds k hk
    refine go G H σ r _ F h1 _ fun v G1 H1 n1 p1 => ?_
    refine gi G1 H1 σ r _ (F.nx n1) h2 _ fun w G2 H2 n2 p2 => ?_
    obtain ⟨b, rfl, hb⟩ := key_rep p2 hk
    have p1' := Rp.mono n2.gg _ p1
    cases p1' with
    | @dic a kvs _ _ a1 a2 a3 =>
      obtain ⟨u, hu', ru⟩ := dget_rep a2 a3 h3
      exact ⟨a, u, rfl, .inr ⟨kvs, kPair k, b, a1.imp (n2.gh _ _) (fun ⟨o, z⟩ => ⟨o, n2.gh _ _ z⟩), rfl, n2.gh _ _ hb, hu'.symm⟩, q u G2 H2 (n1.trans n2) ru⟩
  · cases h3
def fDIn (b : Bool) (fa fo : Env → Option Dt) : Env → Option Bool := fun r => match fa r, fo r with
  | some e, some (.dic ks _) => (match keyOf e with
    | some q => some (if b then decide (q ∈ ks) else !decide (q ∈ ks))
    | none => none)
  | _, _ => none
theorem dt_din {o i : Expr} {fo fi : Env → Option Dt} {pos : Pos} (hu : X.A.units + 1 < cLine) (hi : DE X T i fi) (ho : DE X T o fo) (hm : behindInMarks .In o = false := by first | exact nomark _ | rfl) : DT X T (.Compare i [.In] [o] pos) (fDIn true fi fo) := by
  obtain ⟨to, po, go⟩ := ho.ex
  obtain ⟨ti, pi, gi⟩ := hi.ex
  refine ⟨_, pt_cmp (pc_din hu pi po) hm, fun G H σ r b F h Q q => ?_⟩
  unfold fDIn at h
  split at h
  · rename_i e ks ds h1 h2
    split at h
    · rename_i k hk
      cases h
      refine gi G H σ r _ F h1 _ fun w G1 H1 n1 p1 => ?_
      refine go G1 H1 σ r _ (F.nx n1) h2 _ fun v G2 H2 n2 p2 => ?_
      obtain ⟨b, rfl, hb⟩ := key_rep p1 hk
      cases p2 with
      | @dic a kvs _ _ a1 a2 a3 =>
        refine ⟨a, valV kvs (kPair k), rfl, .inr ⟨kvs, kPair k, b, a1.imp (n2.gh _ _) (fun ⟨o, z⟩ => ⟨o, n2.gh _ _ z⟩), rfl, n2.gh _ _ (n2.gg _ _ hb), rfl⟩, _, rfl, ?_⟩
        rw [din_rep a2]
        exact q G2 H2 (n1.trans n2)
    · cases h
  · cases h
theorem dt_dnin {o i : Expr} {fo fi : Env → Option Dt} {pos : Pos} (hu : X.A.units + 1 < cLine) (hi : DE X T i fi) (ho : DE X T o fo) (hm : behindInMarks .NotIn o = false := by first | exact nomark _ | rfl) : DT X T (.Compare i [.NotIn] [o] pos) (fDIn false fi fo) := by
  obtain ⟨to, po, go⟩ := ho.ex
  obtain ⟨ti, pi, gi⟩ := hi.ex
  refine ⟨_, pt_cmp (pc_dnotin hu pi po) hm, fun G H σ r b F h Q q => ?_⟩
  unfold fDIn at h
  split at h
  · rename_i e ks ds h1 h2
    split at h
    · rename_i k hk
      cases h
      refine gi G H σ r _ F h1 _ fun w G1 H1 n1 p1 => ?_
      refine go G1 H1 σ r _ (F.nx n1) h2 _ fun v G2 H2 n2 p2 => ?_
      obtain ⟨b, rfl, hb⟩ := key_rep p1 hk
      cases p2 with
      | @dic a kvs _ _ a1 a2 a3 =>
        refine ⟨a, valV kvs (kPair k), rfl, .inr ⟨kvs, kPair k, b, a1.imp (n2.gh _ _) (fun ⟨o, z⟩ => ⟨o, n2.gh _ _ z⟩), rfl, n2.gh _ _ (n2.gg _ _ hb), rfl⟩, _, rfl, ?_⟩
        rw [din_rep a2]
        exact q G2 H2 (n1.trans n2)
    · cases h
  · cases h
/-! #### new dicts, changes -/
theorem du_dic0 {pos : Pos} : DU X T (.Dict [] [] pos) (fun _ => some (.dic [] [])) := by
  refine ⟨_, pe_dnewT, fun G H σ r t F h Q q => ?_⟩
  cases h
  intro p hp
  exact q (.ref p) [p] G _ (Nx.newH F.gh hp) (.dic upd_same (F.gh.free hp) rfl .nil) (by simp) (fun a ha => by rw [List.mem_singleton.mp ha]; exact hp)
def uDic1 (fk fv : Env → Option Dt) : Env → Option OT := fun r => match fk r, fv r with
  | some e, some d => (match keyOf e with
    | some q => some (.dic [q] [d])
    | none => none)
  | _, _ => none
theorem du_dic1 {k v : Expr} {fk fv : Env → Option Dt} {pos : Pos} (hu : X.A.units + 1 < cLine) (hk : DE X T k fk) (hv : DE X T v fv) : DU X T (.Dict [some k] [v] pos) (uDic1 fk fv) := by
  obtain ⟨tk, pk, gk⟩ := hk.ex
  obtain ⟨tv, pv, gv⟩ := hv.ex
  refine ⟨_, pe_dispT hu pk pv, fun G H σ r t F h Q q => ?_⟩
  unfold uDic1 at h
  split at h
  · rename_i e d h1 h2
    split at h
    · rename_i k' hk'
      cases h
      intro p hp
      have n0 := Nx.newH (o := .dT []) F.gh hp
      refine gk G _ σ r _ (F.nx n0) h1 _ fun y G1 H1 n1 p1 => ?_
      refine gv G1 H1 σ r _ ((F.nx n0).nx n1) h2 _ fun z G2 H2 n2 p2 => ?_
      have n12 := n1.trans n2
      have hp2 : H2 p = some (.dT []) := n12.hh _ _ upd_same
      have gp : G2 p = none := n12.out (F.gh.free hp) upd_same
      obtain ⟨b, rfl, hb⟩ := key_rep p1 hk'
      refine ⟨hp2, kPair k', b, z, rfl, n2.hh _ _ (n1.gh _ _ hb), ?_⟩
      have n := n0.trans n12
      refine q (.ref p) [p] G2 _ ⟨n.gg, fun a o ha => ?_, same_updR n.gh gp, n.fr⟩ (.dic upd_same gp rfl (.cons p2 .nil)) (by simp) (fun a ha => by rw [List.mem_singleton.mp ha]; exact hp)
      rw [upd_ne (ne_of_none ha hp)]
      exact n.hh _ _ ha
    · cases h
  · cases h
def fDPut (i : Nat) (fk fv : Env → Option Dt) : Env → Option Out := fun r => match gT r i, fv r, fk r with
  | some (.dic ks ds), some d, some e => (match keyOf e with
    | some q => if ks.length ≤ 100000 then some (.nx (r.set i (.tre (.dic (dPutK ks q) (dPutV ks ds q d))))) else none
    | none => none)
  | _, _, _ => none
theorem ds_dput (i : Nat) {x : Str} {k v : Expr} {fk fv : Env → Option Dt} {pos p1 spos : Pos} (hu : X.A.units + 1 < cLine) (hk : DE X T k fk) (hv : DE X T v fv) (hi : X.N[i]? = some x := by rfl) (hvis : Vis X.env.scope x := by first | exact Or.inl rfl | exact Or.inr (Or.inl rfl)) (hd : (x == ("__debug__" : Str)) = false := by decide +kernel) (hcd : (x == ("__classdict__" : Str)) = false := by decide +kernel)
    (hs : swapsWith v (some (.Subscript (.Name x p1) k spos)) pos.line X.env = pure false := by rfl) : DS X T (.Assign [.Subscript (.Name x p1) k spos] v pos) (fDPut i fk fv) := by
  obtain ⟨tk, pk, gk⟩ := hk.ex
  obtain ⟨tv, pv, gv⟩ := hv.ex
  refine ⟨_, ps_dput hu (pe_var hi hvis hd hcd) pk pv hs, fun B G0 H0 G H σ r o S h D m => ?_⟩
  unfold fDPut at h
  split at h
  · rename_i ks ds d e e1 e2 e3
    split at h
    · rename_i q hq
      obtain ⟨hl, h⟩ := ite_opt h
      cases h
      have hr := gT_iff.mp e1
      refine gv G H σ r d S.fits e2 _ fun z G1 H1 n1 q1 => ?_
      have S1 := S.nx' n1
      obtain ⟨w, hw⟩ := S1.fits.treV hr
      refine ⟨w, hw, ?_⟩
      refine gk G1 H1 σ r e S1.fits e3 _ fun y G2 H2 n2 q2 => ?_
      have S2 := S1.nx' n2
      obtain ⟨b, rfl, hb⟩ := key_rep q2 hq
      obtain ⟨w', w2, bs, hw', ea, ow, nd, big⟩ := S2.mutAt (N := noN) (S2.tr.imp fun a z => ⟨z, id⟩) (fun a ha => ha.elim) hr (u := .dic ks ds) (ks := []) rfl
      rw [hw] at hw'
      cases hw'
      cases ea
      cases ow with
      | @dic p kvs _ _ h1 h2 h3 h4 =>
        obtain ⟨k1, k2⟩ := dput_rep (Rp.mono n2.gg d q1) (q := q) h3 h4
        have hlen : kvs.length < sizeLine := by
          have e5 := congrArg List.length h3
          rw [List.length_map, List.length_map] at e5
          rw [e5]
          exact Nat.lt_of_le_of_lt hl (by decide)
        refine ⟨p, _, rfl, .inr ⟨kvs, kPair q, b, h1, rfl, n2.gh _ _ hb, hlen, rfl⟩, ?_⟩
        exact m G2 _ _ (big _ (.dic (dPutK ks q) (dPutV ks ds q d)) [p] (fun a ha _ => upd_ne fun e => ha (by rw [e]; exact List.mem_singleton_self _)) (same_updR n2.gh h2) (.dic upd_same h2 k1 k2) (by simp) (fun a ha => .inl ha) (fun a ha _ => ha.elim))
    · cases h
  · cases h
/-! #### its keys as a list -/
def fListD (i : Nat) : Env → Option (List Dt) := fun r => match gT r i with
  | some (.dic ks _) => some (ks.map kD)
  | _ => none
theorem keys_rep : ∀ {kvs : List (List L2.Key × V)} {ks : List (Int × Int)} {bs : List Addr}, kvs.map Prod.fst = ks.map kPair → IsKeys H kvs bs → (∀ b ∈ bs, G' b = H b) → RpA K T G' (bs.map V.ref) (ks.map kD)
  | [], [], _, _, .nil, _ => .nil
  | [], _ :: _, _, e, _, _ => by cases e
  | _ :: _, [], _, e, _, _ => by cases e
  | kv :: kvs, k :: ks, _, e, .cons (b := b) h t, g => by
    rw [List.map_cons, List.map_cons] at e
    injection e with e1 e2
    have hb : G' b = some (.tup [.int k.1, .int k.2]) := by
      rw [g b List.mem_cons_self, h, e1]; rfl
    exact .cons (.tup (SqT.of hb) (.cons (.int _) (.cons (.int _) .nil)) (fun _ _ _ => hb)) (keys_rep e2 t fun b hb => g b (List.mem_cons_of_mem _ hb))
theorem dl_listD (i : Nat) {f x : Str} {p1 p pos : Pos} (hc : X.calm = true) (hm : X.mg f = none) (hi : X.N[i]? = some x := by rfl) (hvis : Vis X.env.scope x := by first | exact Or.inl rfl | exact Or.inr (Or.inl rfl)) (hd : (x == ("__debug__" : Str)) = false := by decide +kernel) (hcd : (x == ("__classdict__" : Str)) = false := by decide +kernel) (hv : bootBuiltins f = some (.type "list") := by decide +kernel) (hg : Gl X f := by rfl)
    (hn : f ≠ "__name__" := by decide +kernel) (hdb : (f == ("__debug__" : Str)) = false := by decide +kernel) (hs : starEach (.Name x p1 :: []) X.env = (false, eval (.Name x p1) X.env) :: starEach [] X.env := by rfl) (hpl : (backTo pos (starEach [] X.env)).any (·.1) = false := by rfl) :
    DL X T (.Call (.Name f p) [.Name x p1] [] pos) (fListD i) := by
  classical
  refine ⟨_, pe_callTy (call_list_dT hc) hg hm hv (pa_cons (pe_var hi hvis hd hcd) pa_nil hs) hn hdb hs hpl, fun G H σ r d F h Q q => ?_⟩
  unfold fListD at h
  split at h
  · rename_i ks ds e1
    cases h
    have hr := gT_iff.mp e1
    obtain ⟨v, w, as, hv', ea, ow⟩ := F.at hr (u := .dic ks ds) (ks := []) rfl
    cases ea
    refine ⟨v, hv', ?_⟩
    cases ow with
    | @dic a kvs _ _ h1 h2 h3 h4 =>
      refine ⟨a, kvs, rfl, .inl h1, fun p bs hp isk => ?_⟩
      let G1 : Hp := fun b => if b ∈ bs then H b else G b
      have gB : ∀ b, b ∈ bs → G1 b = H b := fun b h => if_pos h
      have gN : ∀ b, b ∉ bs → G1 b = G b := fun b h => if_neg h
      have isT : ∀ {kvs : List (List L2.Key × V)} {bs : List Addr}, IsKeys H kvs bs → ∀ b ∈ bs, ∃ xs, H b = some (.tup xs) := by
        intro kvs bs h
        induction h with
        | nil => intro b hb; cases hb
        | cons h t ih =>
          intro b hb
          rcases List.mem_cons.mp hb with rfl | hb
          · exact ⟨_, h⟩
          · exact ih b hb
      have nx : Nx G H G1 H := by
        refine ⟨fun b o hb => ?_, Same.refl H, fun b o hb => ?_, fun b => ?_⟩
        · by_cases w : b ∈ bs
          · rw [gB b w]; exact F.gh _ _ hb
          · rw [gN b w]; exact hb
        · by_cases w : b ∈ bs
          · rw [gB b w] at hb; exact hb
          · rw [gN b w] at hb; exact F.gh _ _ hb
        · by_cases w : b ∈ bs
          · exact .inr (.inr (.inr (isT isk b w)))
          · rw [gN b w]
            cases z : G b with
            | none => exact .inl rfl
            | some o => exact .inr (.inl fun y => by cases y)
      have nn := Nx.newH (o := .lst (bs.map V.ref)) nx.gh hp
      exact q p _ G1 _ (nx.trans nn) hp (nx.gh.free hp) upd_same (keys_rep h3 isk gB)
  · cases h
end
end PL
namespace PL
open PySem PySem.Spec PyProof.Rows L2
theorem room1 {k : Nat} {A : Around} (h : Room k A) : A.units + 1 < cLine := by have := room65 h; omega
end PL

/-! ### a dict's keys walked; own dicts handed on -/
namespace PL
open PySem PySem.Spec PyProof.Rows L2
section
variable {X : Cx} {T : CT} {K : PySem.W.Frag} {B G0 H0 G H G1 H1 G' H' : Hp} {σ : L2.St} {r : Env}
def lockH (d : Addr) (o : HO) (X : Hp) : Hp := fun a => if a = d then (match X a with | none => none | some _ => some o) else X a
theorem lock_ne {d a : Addr} {o : HO} {X : Hp} (h : a ≠ d) : lockH d o X a = X a := if_neg h
theorem lock_at {d : Addr} {o u : HO} {X : Hp} (h : X d = some u) : lockH d o X d = some o := by
  unfold lockH
  rw [if_pos rfl, h]
theorem lock_no {d a : Addr} {o : HO} {X : Hp} : lockH d o X a = none ↔ X a = none := by
  unfold lockH
  by_cases h : a = d
  · rw [if_pos h]
    cases X a <;> simp
  · rw [if_neg h]
theorem lock_upd {d : Addr} {o u : HO} {X : Hp} (h : X d = some u) : lockH d o X = upd X d o := by
  funext a
  by_cases e : a = d
  · subst e; rw [lock_at h, upd_same]
  · rw [lock_ne e, upd_ne e]
theorem lock_same {d : Addr} {o : HO} {X Y : Hp} (h : Same X Y) : Same (lockH d o X) (lockH d o Y) := fun b x e => by
  by_cases hb : b = d
  · subst hb
    cases hx : X b with
    | none => rw [lock_no.mpr hx] at e; cases e
    | some u =>
      rw [lock_at hx] at e
      rw [lock_at (h _ _ hx)]
      exact e
  · rw [lock_ne hb] at e ⊢
    exact h _ _ e
variable {d : Addr} {od : Obj} {kv0 : List (List L2.Key × V)}
theorem lock_keep {X : Hp} (hX : X d = none ∨ X d = some (.dT kv0)) {a : Addr} {o : HO} (h : X a = some o) (ho : o ≠ .dT kv0) : lockH d (.frz od (.dT kv0)) X a = some o := by
  by_cases e : a = d
  · subst e
    rcases hX with z | z
    · rw [z] at h; cases h
    · rw [z] at h; cases h; exact absurd rfl ho
  · rw [lock_ne e]; exact h
mutual
theorem Rp.lock {X : Hp} (hX : X d = none ∨ X d = some (.dT kv0)) : ∀ (x : Dt) {v : V}, Rp K T X v x → Rp K T (lockH d (.frz od (.dT kv0)) X) v x
  | .non, _, h => by cases h; exact .non
  | .bl b, _, h => by cases h; exact .bl b
  | .int i, _, h => by cases h; exact .int i
  | .str l, _, h => by cases h; exact .str l
  | .lst ds, _, h => by cases h with | lst h1 h2 => exact .lst (lock_keep hX h1 (fun z => by cases z)) (RpA.lock hX ds h2)
  | .tup ds, _, h => by
    cases h with
    | tup h1 h2 h3 =>
      refine .tup ?_ (RpA.lock hX ds h2) (fun n ns z => lock_keep hX (h3 n ns z) (fun z => by cases z))
      rcases h1 with (h | ⟨o, h⟩) | h
      · exact .inl (.inl (lock_keep hX h (fun z => by cases z)))
      · exact .inl (.inr ⟨o, lock_keep hX h (fun z => by cases z)⟩)
      · exact .inr h
  | .scr ns, _, h => by
    cases h with
    | scr h1 =>
      refine .scr ?_
      rcases h1 with (h | ⟨o, h⟩) | h
      · exact .inl (.inl (lock_keep hX h (fun z => by cases z)))
      · exact .inl (.inr ⟨o, lock_keep hX h (fun z => by cases z)⟩)
      · exact .inr h
  | .obj c ds, _, h => by cases h with | obj h1 h2 h3 => exact .obj (lock_keep hX h1 (fun z => by cases z)) h2 (RpA.lock hX ds h3)
  | .dic ks ds, _, h => by
    cases h with
    | @dic a kvs _ _ h1 h2 h3 =>
      refine .dic ?_ h2 (RpA.lock hX ds h3)
      rcases h1 with h | ⟨o, h⟩
      · by_cases e : a = d
        · subst e
          rcases hX with z | z
          · rw [z] at h; cases h
          · rw [z] at h
            cases h
            exact .inr ⟨od, lock_at z⟩
        · exact .inl (by rw [lock_ne e]; exact h)
      · exact .inr ⟨o, lock_keep hX h (fun z => by cases z)⟩
  | .adr a, _, h => by cases h; exact .adr a
  | .ty n, _, h => by cases h; exact .ty n
  | .cls k, _, h => by cases h; exact .cls k
theorem RpA.lock {X : Hp} (hX : X d = none ∨ X d = some (.dT kv0)) : ∀ (ds : List Dt) {vs : List V}, RpA K T X vs ds → RpA K T (lockH d (.frz od (.dT kv0)) X) vs ds
  | [], _, h => by cases h; exact .nil
  | x :: ds, _, h => by cases h with | cons h1 h2 => exact .cons (Rp.lock hX x h1) (RpA.lock hX ds h2)
end
theorem unlock_keep {Y : Hp} (hY : Y d = some (.frz od (.dT kv0))) {a : Addr} {o : HO} (h : Y a = some o) (ho : o ≠ .frz od (.dT kv0)) : upd Y d (.dT kv0) a = some o := by
  by_cases e : a = d
  · subst e
    rw [hY] at h; cases h; exact absurd rfl ho
  · rw [upd_ne e]; exact h
mutual
theorem Rp.unlock {Y : Hp} (hY : Y d = some (.frz od (.dT kv0))) : ∀ (x : Dt) {v : V}, Rp K T Y v x → Rp K T (upd Y d (.dT kv0)) v x
  | .non, _, h => by cases h; exact .non
  | .bl b, _, h => by cases h; exact .bl b
  | .int i, _, h => by cases h; exact .int i
  | .str l, _, h => by cases h; exact .str l
  | .lst ds, _, h => by cases h with | lst h1 h2 => exact .lst (unlock_keep hY h1 (fun z => by cases z)) (RpA.unlock hY ds h2)
  | .tup ds, _, h => by
    cases h with
    | tup h1 h2 h3 =>
      refine .tup ?_ (RpA.unlock hY ds h2) (fun n ns z => unlock_keep hY (h3 n ns z) (fun z => by cases z))
      rcases h1 with (h | ⟨o, h⟩) | h
      · exact .inl (.inl (unlock_keep hY h (fun z => by cases z)))
      · exact .inl (.inr ⟨o, unlock_keep hY h (fun z => by cases z)⟩)
      · exact .inr h
  | .scr ns, _, h => by
    cases h with
    | scr h1 =>
      refine .scr ?_
      rcases h1 with (h | ⟨o, h⟩) | h
      · exact .inl (.inl (unlock_keep hY h (fun z => by cases z)))
      · exact .inl (.inr ⟨o, unlock_keep hY h (fun z => by cases z)⟩)
      · exact .inr h
  | .obj c ds, _, h => by cases h with | obj h1 h2 h3 => exact .obj (unlock_keep hY h1 (fun z => by cases z)) h2 (RpA.unlock hY ds h3)
  | .dic ks ds, _, h => by
    cases h with
    | @dic a kvs _ _ h1 h2 h3 =>
      refine .dic ?_ h2 (RpA.unlock hY ds h3)
      by_cases e : a = d
      · subst e
        rcases h1 with h | ⟨o, h⟩
        · rw [hY] at h; cases h
        · rw [hY] at h; cases h; exact .inl upd_same
      · rw [upd_ne e]; exact h1
  | .adr a, _, h => by cases h; exact .adr a
  | .ty n, _, h => by cases h; exact .ty n
  | .cls k, _, h => by cases h; exact .cls k
theorem RpA.unlock {Y : Hp} (hY : Y d = some (.frz od (.dT kv0))) : ∀ (ds : List Dt) {vs : List V}, RpA K T Y vs ds → RpA K T (upd Y d (.dT kv0)) vs ds
  | [], _, h => by cases h; exact .nil
  | x :: ds, _, h => by cases h with | cons h1 h2 => exact .cons (Rp.unlock hY x h1) (RpA.unlock hY ds h2)
end
mutual
theorem Ow.lock (hG : G d = some (.dT kv0)) : ∀ (t : OT) {v : V} {as : List Addr}, Ow K T G H v t as → Ow K T (lockH d (.frz od (.dT kv0)) G) (lockH d (.frz od (.dT kv0)) H) v t as
  | .leaf x, _, _, h => by cases h with | leaf q => exact .leaf (Rp.lock (.inr hG) x q)
  | .node l, _, _, h => by
    cases h with
    | @node a _ _ _ h1 h2 h3 =>
      have e : a ≠ d := fun z => by rw [z, hG] at h2; cases h2
      exact .node (by rw [lock_ne e]; exact h1) (lock_no.mpr h2) (OwA.lock hG l h3)
  | .ob c l, _, _, h => by
    cases h with
    | @ob _ a _ _ _ _ h1 h2 h3 h4 =>
      have e : a ≠ d := fun z => by rw [z, hG] at h3; cases h3
      exact .ob (by rw [lock_ne e]; exact h1) h2 (lock_no.mpr h3) (OwA.lock hG l h4)
  | .dic ks l, _, _, h => by
    cases h with
    | @dic a _ _ _ h1 h2 h3 h4 =>
      have e : a ≠ d := fun z => by rw [z, hG] at h2; cases h2
      exact .dic (by rw [lock_ne e]; exact h1) (lock_no.mpr h2) h3 (RpA.lock (.inr hG) l h4)
theorem OwA.lock (hG : G d = some (.dT kv0)) : ∀ (ts : List OT) {vs : List V} {as : List Addr}, OwA K T G H vs ts as → OwA K T (lockH d (.frz od (.dT kv0)) G) (lockH d (.frz od (.dT kv0)) H) vs ts as
  | [], _, _, h => by cases h; exact .nil
  | t :: ts, _, _, h => by cases h with | cons h1 h2 => exact .cons (Ow.lock hG t h1) (OwA.lock hG ts h2)
end
mutual
theorem Ow.unlock (hG : G d = some (.frz od (.dT kv0))) : ∀ (t : OT) {v : V} {as : List Addr}, Ow K T G H v t as → Ow K T (upd G d (.dT kv0)) (upd H d (.dT kv0)) v t as
  | .leaf x, _, _, h => by cases h with | leaf q => exact .leaf (Rp.unlock hG x q)
  | .node l, _, _, h => by
    cases h with
    | @node a _ _ _ h1 h2 h3 =>
      have e : a ≠ d := fun z => by rw [z, hG] at h2; cases h2
      exact .node (by rw [upd_ne e]; exact h1) (by rw [upd_ne e]; exact h2) (OwA.unlock hG l h3)
  | .ob c l, _, _, h => by
    cases h with
    | @ob _ a _ _ _ _ h1 h2 h3 h4 =>
      have e : a ≠ d := fun z => by rw [z, hG] at h3; cases h3
      exact .ob (by rw [upd_ne e]; exact h1) h2 (by rw [upd_ne e]; exact h3) (OwA.unlock hG l h4)
  | .dic ks l, _, _, h => by
    cases h with
    | @dic a _ _ _ h1 h2 h3 h4 =>
      have e : a ≠ d := fun z => by rw [z, hG] at h2; cases h2
      exact .dic (by rw [upd_ne e]; exact h1) (by rw [upd_ne e]; exact h2) h3 (RpA.unlock hG l h4)
theorem OwA.unlock (hG : G d = some (.frz od (.dT kv0))) : ∀ (ts : List OT) {vs : List V} {as : List Addr}, OwA K T G H vs ts as → OwA K T (upd G d (.dT kv0)) (upd H d (.dT kv0)) vs ts as
  | [], _, _, h => by cases h; exact .nil
  | t :: ts, _, _, h => by cases h with | cons h1 h2 => exact .cons (Ow.unlock hG t h1) (OwA.unlock hG ts h2)
end
theorem Tr.lock {P P' : Addr → Prop} (hG : G d = some (.dT kv0)) (hP : ∀ a, P a → P' a) (h : Tr K T G H P σ r) : Tr K T (lockH d (.frz od (.dT kv0)) G) (lockH d (.frz od (.dT kv0)) H) P' σ r := by
  obtain ⟨m, k1, k2, k3⟩ := h
  refine ⟨m, fun i t e => ?_, k2, k3⟩
  obtain ⟨⟨v, hv, q⟩, nd, p⟩ := k1 i t e
  exact ⟨⟨v, hv, Ow.lock hG t q⟩, nd, fun a ha => hP a (p a ha)⟩
theorem Tr.unlock {P P' : Addr → Prop} (hG : G d = some (.frz od (.dT kv0))) (hP : ∀ a, P a → P' a) (h : Tr K T G H P σ r) : Tr K T (L2.upd G d (.dT kv0)) (L2.upd H d (.dT kv0)) P' σ r := by
  obtain ⟨m, k1, k2, k3⟩ := h
  refine ⟨m, fun i t e => ?_, k2, k3⟩
  obtain ⟨⟨v, hv, q⟩, nd, p⟩ := k1 i t e
  exact ⟨⟨v, hv, Ow.unlock hG t q⟩, nd, fun a ha => hP a (p a ha)⟩
theorem St1.lock (S : St1 K T B G0 H0 G H σ r) (hG : G d = some (.dT kv0)) : St1 K T (lockH d (.frz od (.dT kv0)) B) (lockH d (.frz od (.dT kv0)) G0) (lockH d (.frz od (.dT kv0)) H0) (lockH d (.frz od (.dT kv0)) G) (lockH d (.frz od (.dT kv0)) H) σ r := by
  have hH := S.fits.gh _ _ hG
  refine ⟨⟨lock_same S.fits.gh, S.fits.len, fun i x h => ?_, fun i ds h => ?_, S.fits.sep, S.fits.tr.lock hG fun _ z => z⟩, lock_same S.base, ⟨lock_same S.nx.gg, lock_same S.nx.hh, lock_same S.nx.gh, fun a => ?_⟩, fun i ds p h1 h2 => lock_no.mpr (S.ow i ds p h1 h2), S.tr.lock hG fun a z => lock_no.mpr z⟩
  · obtain ⟨v, e, q⟩ := S.fits.val i x h
    exact ⟨v, e, Rp.lock (.inr hG) x q⟩
  · obtain ⟨p, vs, e, hg, hh, q⟩ := S.fits.own i ds h
    exact ⟨p, vs, e, lock_no.mpr hg, lock_keep (.inr hH) hh (fun z => by cases z), RpA.lock (.inr hG) ds q⟩
  · rcases S.nx.fr a with z | z | z | ⟨xs, z⟩
    · exact .inl (lock_no.mpr z)
    · exact .inr (.inl fun y => z (lock_no.mp y))
    · exact .inr (.inr (.inl (lock_no.mpr z)))
    · by_cases e : a = d
      · subst e
        have := S.nx.hh _ _ z
        rw [hH] at this
        cases this
      · exact .inr (.inr (.inr ⟨xs, by rw [lock_ne e]; exact z⟩))
theorem St1.unlock {σ0 : L2.St} {r0 : Env} (S : St1 K T B G0 H0 G H σ0 r0) (hG : G d = some (.dT kv0)) (S2 : St1 K T (lockH d (.frz od (.dT kv0)) G) (lockH d (.frz od (.dT kv0)) G0) (lockH d (.frz od (.dT kv0)) H0) G' H' σ r) : G' d = some (.frz od (.dT kv0)) ∧ St1 K T B G0 H0 (upd G' d (.dT kv0)) (upd H' d (.dT kv0)) σ r := by
  have hH := S.fits.gh _ _ hG
  have hG' : G' d = some (.frz od (.dT kv0)) := S2.base _ _ (lock_at hG)
  have hH' := S2.fits.gh _ _ hG'
  have up : ∀ (Y Z : Hp), (∀ o, Y d = some o → o = .dT kv0) → Same (lockH d (.frz od (.dT kv0)) Y) Z → Same Y (upd Z d (.dT kv0)) := fun Y Z hY e b o h => by
    by_cases hb : b = d
    · subst hb
      rw [upd_same, hY o h]
    · rw [upd_ne hb]
      exact e _ _ (by rw [lock_ne hb]; exact h)
  have isG : ∀ (Y : Hp), Same Y G → ∀ o, Y d = some o → o = .dT kv0 := fun Y e o h => by
    have := e _ _ h
    rw [hG] at this
    cases this; rfl
  have isH : ∀ o, H0 d = some o → o = .dT kv0 := fun o h => by
    have := S.nx.hh _ _ h
    rw [hH] at this
    cases this; rfl
  refine ⟨hG', ⟨same_upd2 S2.fits.gh, S2.fits.len, fun i x h => ?_, fun i ds h => ?_, S2.fits.sep, S2.fits.tr.unlock hG' fun _ z => z⟩, ?_, ⟨up G0 G' (isG G0 S.nx.gg) S2.nx.gg, up H0 H' isH S2.nx.hh, same_upd2 S2.nx.gh, fun a => ?_⟩, fun i ds p h1 h2 => lock_no.mp (S2.ow i ds p h1 h2), S2.tr.unlock hG' fun a z => lock_no.mp z⟩
  · obtain ⟨v, e, q⟩ := S2.fits.val i x h
    exact ⟨v, e, Rp.unlock hG' x q⟩
  · obtain ⟨p, vs, e, hg, hh, q⟩ := S2.fits.own i ds h
    have hp : p ≠ d := fun z => by rw [z, hG'] at hg; cases hg
    exact ⟨p, vs, e, by rw [upd_ne hp]; exact hg, by rw [upd_ne hp]; exact hh, RpA.unlock hG' ds q⟩
  · exact S.base.trans (up G G' (isG G (Same.refl G)) S2.base)
  · by_cases e : a = d
    · subst e
      rcases S.nx.fr a with z | z | z
      · rw [hG] at z; cases z
      · exact .inr (.inl z)
      · exact .inr (.inr z)
    · rw [upd_ne e]
      rcases S2.nx.fr a with z | z | z
      · exact .inl z
      · exact .inr (.inl fun y => z (lock_no.mpr y))
      · rcases z with z | ⟨xs, z⟩
        · exact .inr (.inr (.inl (lock_no.mp z)))
        · rw [lock_ne e] at z
          exact .inr (.inr (.inr ⟨xs, z⟩))
/-! #### the loop -/
theorem for_core {t : Dt → Env → Option Env} {b : Env → Option Out} {g : TG} {tb : TS} (gg : GG K T g t) (gb : GS K T tb b) {J : It} {items : List Dt} {r' : Env} (S1 : St1 K T G1 G0 H0 G1 H1 σ r) (ok : ItOk K T J G1 items) (e : loopF t b items r = some (.nx r')) (D : Ends) (m : ∀ G' H' σ', St1 K T G1 G0 H0 G' H' σ' r' → D.nx σ' H') :
    ∃ W : Nat → Nat → L2.St → Hp → Prop, (∃ n, W 0 n σ H1) ∧ ∀ (i n : Nat) (σ : L2.St) (H : Hp), W i n σ H → J.stop i H ∧ D.nx σ H ∨ J.go i H ∧ ∃ N : L2.St → Hp → Prop, (∀ σ' H', N σ' H' → ∃ n', n' < n ∧ W (i + 1) n' σ' H') ∧ ∀ x H', J.yld i H x H' → g x σ H' fun σ2 H2 => tb { nx := N, rt := D.rt, bk := D.nx, ct := N } σ2 H2 := by
  refine ⟨fun i n σ' H' => n = items.length - i ∧ i ≤ items.length ∧ ∃ G' r'', St1 K T G1 G0 H0 G' H' σ' r'' ∧ loopF t b (items.drop i) r'' = some (.nx r'), ⟨items.length, by simp, Nat.zero_le _, G1, r, S1, by simpa using e⟩, ?_⟩
  rintro i n σ' H' ⟨rfl, hi', G', r'', S', hl⟩
  have e1G : Same G1 H' := S'.base.trans S'.fits.gh
  by_cases hlt : i < items.length
  · refine .inr ⟨ok.goes i H' hlt e1G, fun σ2 H2 => ∃ G2 r2, St1 K T G1 G0 H0 G2 H2 σ2 r2 ∧ loopF t b (items.drop (i + 1)) r2 = some (.nx r'), fun σ2 H2 w => ⟨items.length - (i + 1), by omega, rfl, hlt, w⟩, fun x H2 y => ?_⟩
    rw [List.drop_eq_getElem_cons hlt] at hl
    obtain ⟨G2, n2, rx⟩ := ok.yields i H' x H2 items[i] (List.getElem?_eq_getElem hlt) e1G y G' S'.base S'.fits.gh
    unfold loopF at hl
    split at hl
    · cases hl
    · rename_i r1 ht
      refine gg G1 G0 H0 G2 H2 σ' r'' x items[i] r1 (S'.nx' n2) rx ht _ fun G3 H3 σ3 S3 => ?_
      split at hl
      · rename_i r2 hb2
        exact gb G1 G0 H0 G3 H3 σ3 r1 _ S3 hb2 _ fun G4 H4 σ4 S4 => ⟨G4, r2, S4, hl⟩
      · rename_i r2 hb2
        exact gb G1 G0 H0 G3 H3 σ3 r1 _ S3 hb2 _ fun G4 H4 σ4 S4 => ⟨G4, r2, S4, hl⟩
      · rename_i r2 hb2
        cases hl
        exact gb G1 G0 H0 G3 H3 σ3 r1 _ S3 hb2 _ fun G4 H4 σ4 S4 => m G4 H4 σ4 S4
      · cases hl
      · cases hl
  · have e : i = items.length := by omega
    subst e
    rw [List.drop_length] at hl
    cases hl
    exact .inl ⟨ok.stops H' e1G, m G' H' σ' S'⟩
theorem itok_keys {o : Obj} {kvs : List (List L2.Key × V)} {ks : List (Int × Int)} {B : Hp} (hB : B d = some (.frz o (.dT kvs))) (hk : kvs.map Prod.fst = ks.map kPair) : ItOk K T (Itkt d o kvs) B (ks.map kD) := by
  have hl : kvs.length = ks.length := by
    have := congrArg List.length hk
    rw [List.length_map, List.length_map] at this
    exact this
  refine ⟨fun i H hi e => ⟨e _ _ hB, by rw [List.length_map] at hi; omega⟩, fun H e => ⟨e _ _ hB, by rw [List.length_map]; omega⟩, fun i H x H' dd hd e y G g1 g2 => ?_⟩
  obtain ⟨rfl, k, v, q, hq, rfl, hh⟩ := y
  rw [List.getElem?_map] at hd
  have hk' : (kvs.map Prod.fst)[i]? = some k := by rw [List.getElem?_map, hq]; rfl
  rw [hk, List.getElem?_map] at hk'
  cases e1 : ks[i]? with
  | none => rw [e1] at hd; cases hd
  | some kk =>
    rw [e1] at hd hk'
    cases hd
    cases hk'
    have hq' : H' q = some (.tup [.int kk.1, .int kk.2]) := hh
    let G1 : Hp := fun b => if b = q then H' q else G b
    have gq : G1 q = H' q := if_pos rfl
    have gN : ∀ b, b ≠ q → G1 b = G b := fun b h => if_neg h
    refine ⟨G1, ⟨fun b o hb => ?_, Same.refl H', fun b o hb => ?_, fun b => ?_⟩, ?_⟩
    · by_cases w : b = q
      · rw [w, gq]; rw [w] at hb; exact g2 _ _ hb
      · rw [gN b w]; exact hb
    · by_cases w : b = q
      · rw [w, gq] at hb; rw [w]; exact hb
      · rw [gN b w] at hb; exact g2 _ _ hb
    · by_cases w : b = q
      · exact .inr (.inr (.inr ⟨_, by rw [w]; exact hq'⟩))
      · rw [gN b w]
        cases z : G b with
        | none => exact .inl rfl
        | some o => exact .inr (.inl fun y => by cases y)
    · have h1 : G1 q = some (.tup [.int kk.1, .int kk.2]) := gq.trans hq'
      exact .tup (SqT.of h1) (.cons (.int _) (.cons (.int _) .nil)) (fun _ _ _ => h1)
def fForD (i : Nat) (t : Dt → Env → Option Env) (b : Env → Option Out) : Env → Option Out := fun r => match gV r i with
  | some (.dic ks _) => (match loopF t b (ks.map kD) r with
    | some (.nx r') => some (.nx r')
    | _ => none)
  | _ => none
theorem PS.or {st : Stmt} {a b : TS} (h1 : PS X st a) (h2 : PS X st b) : PS X st (fun D σ H => a D σ H ∨ b D σ H) := ⟨fun pins s σ H D I h => h.elim (h1.run pins s σ H D I) (h2.run pins s σ H D I)⟩
theorem ds_forD (i : Nat) {x : Str} {tg : Expr} {body : List Stmt} {t : Dt → Env → Option Env} {b : Env → Option Out} {pos px : Pos} (hp : PassesOwn (model X.prog X.w) X.A X.env X.xe) (hc : X.calm = true) (hg : DG X T tg t) (hb : DSs X T body b) (hi : X.N[i]? = some x := by rfl) (hvis : Vis X.env.scope x := by first | exact Or.inl rfl | exact Or.inr (Or.inl rfl)) (hd : (x == ("__debug__" : Str)) = false := by decide +kernel) (hcd : (x == ("__classdict__" : Str)) = false := by decide +kernel) (hs : ∀ y, foldedSetIterable (.Name x px) X.env y = pure y := by intro _; rfl) :
    DS X T (.For tg (.Name x px) body [] pos) (fForD i t b) := by
  obtain ⟨g, pg, gg⟩ := hg.ex
  obtain ⟨tb, pb, gb⟩ := hb.ex
  refine ⟨_, PS.or (ps_lock (ps_for hp hc (pi_keys (pe_var hi hvis hd hcd)) pg pb hs)) (ps_for hp hc (pi_keys (pe_var hi hvis hd hcd)) pg pb hs), fun B G0 H0 G H σ r o S h D m => ?_⟩
  unfold fForD at h
  split at h
  · rename_i ks ds e1
    split at h
    · rename_i r' e2
      cases h
      obtain ⟨v, hσ, q⟩ := S.fits.val i _ (gV_iff.mp e1)
      have S0 : St1 X.K T G G0 H0 G H σ r := ⟨S.fits, Same.refl _, S.nx, S.ow, S.tr⟩
      cases q with
      | @dic a kvs _ _ h1 h2 h3 =>
        rcases h1 with h1 | ⟨od, h1⟩
        · refine .inl ⟨a, .dT kvs, S.fits.gh _ _ h1, trivial, fun od => ?_⟩
          refine ⟨.ref a, hσ, a, od, rfl, .inr ⟨kvs, upd_same, ?_⟩⟩
          have SL := S0.lock (od := od) h1
          rw [lock_upd (X := H) (S.fits.gh _ _ h1)] at SL
          exact for_core gg gb SL (itok_keys (lock_at h1) h2) e2 _ fun G' H' σ' S' => by
            obtain ⟨hG', SU⟩ := S.unlock h1 S'
            exact ⟨S'.fits.gh _ _ hG', m _ _ _ SU⟩
        · refine .inr ⟨.ref a, hσ, a, od, rfl, .inr ⟨kvs, S.fits.gh _ _ h1, ?_⟩⟩
          exact for_core gg gb S0 (itok_keys h1 h2) e2 _ fun G' H' σ' S' => m G' H' σ' ⟨S'.fits, S.base.trans S'.base, S'.nx, S'.ow, S'.tr⟩
    · cases h
  · cases h
end
end PL

/-! ### a def that is handed an own dict -/
namespace PL
open PySem PySem.Spec PyProof.Rows L2
section
variable {X : Cx} {T : CT} {K : PySem.W.Frag} {B G0 H0 G H G1 H1 G' H' : Hp} {σ : L2.St} {r : Env}
def hideH (p : Addr) (X : Hp) : Hp := fun a => if a = p then none else X a
theorem hide_ne {p a : Addr} {X : Hp} (h : a ≠ p) : hideH p X a = X a := if_neg h
theorem hide_at {p : Addr} {X : Hp} : hideH p X p = none := if_pos rfl
theorem hide_some {p a : Addr} {X : Hp} {o : HO} (h : hideH p X a = some o) : a ≠ p ∧ X a = some o := by
  by_cases e : a = p
  · rw [e, hide_at] at h; cases h
  · exact ⟨e, by rw [hide_ne e] at h; exact h⟩
theorem hide_same {p : Addr} {X : Hp} : Same (hideH p X) X := fun a o h => (hide_some h).2
/-- the promise: the last value is an own dict -/
def spD (K : PySem.W.Frag) (T : CT) (n : Nat) (f : List Dt → List (Int × Int) → List Dt → Option OT) : Sp := fun vs H Q _ => ∃ G ds ks l t p kvs ws, vs = ws ++ [.ref p] ∧ ws.length = n ∧ Same G H ∧ G p = none ∧ H p = some (.dT kvs) ∧ kvs.map Prod.fst = ks.map kPair ∧ RpA K T G (kvs.map Prod.snd) l ∧ RpA K T G ws ds ∧ f ds ks l = some t ∧
  ∀ v as G' H', Nx G (hideH p H) G' H' → Ow K T G' H' v t as → as.Nodup → (∀ a ∈ as, hideH p H a = none) → Q v H'
def runD (n m : Nat) (g : Env → Option OT) (ds : List Dt) (ks : List (Int × Int)) (l : List Dt) : Option OT := if ds.length = n then g (ds.map Sl.val ++ Sl.tre (.dic ks l) :: List.replicate m Sl.no) else none
theorem dssu_own (i : Nat) {x : Str} {p1 pos : Pos} (hi : X.N[i]? = some x := by rfl) (hv : Vis X.env.scope x := by first | exact Or.inl rfl | exact Or.inr (Or.inl rfl)) (hd : (x == ("__debug__" : Str)) = false := by decide +kernel) (hcd : (x == ("__classdict__" : Str)) = false := by decide +kernel) :
    DSsU X T [.Return (some (.Name x p1)) pos] (fun r => gT r i) := by
  refine ⟨_, pss_one (ps_ret (pe_var hi hv hd hcd)), fun B G0 H0 G H σ r t S e D m => ?_⟩
  have hr := gT_iff.mp e
  obtain ⟨mm, k1, _⟩ := S.tr
  obtain ⟨⟨v, hv', ow⟩, nd, hP⟩ := k1 i t hr
  exact ⟨v, hv', m v (mm i) G H S.nx ow nd hP⟩
section
variable {P : Program} {w : World} {mg : Str → Option Value} {base : Heap}
theorem okDd {x qual : Str} {st : Stmt} {f : Addr} {fd : FuncData} {N ps : List Str} {k m n : Nat} {g : Env → Option OT} (F : Fun K x qual st f fd) (S : FnScope N ps (defScope st)) (hm : N.length = ps.length + m) (hp : ps.length = n + 1)
    (hb : ∀ (cdv : Value) (A : Around) (os : List PySem.Env) (s : Shared) (H : Hp) (E : XK), Room k (A.deeper (envOfC qual (defScope st) s.heap.objs.size f cdv)) → DSsU (cxOf CX0 P w K mg base N qual (defScope st) f cdv A os s H E).nox T (defBody st) g) :
    FnOk P w K mg base CX0 (k + 1) f fd ps (spD K T n (runD n m g)) := by
  refine F.ok S (fun vs H Q E h => ?_) (fun cdv A outer s H vs Q E hr h => ?_)
  · obtain ⟨G, ds, ks, l, t, p, kvs, ws, rfl, hl, _⟩ := h
    rw [List.length_append, List.length_singleton]; omega
  · obtain ⟨G, ds, ks, l, t, p, kvs, ws, rfl, hl, gh, gp, hpp, e1, e2, q, hd, kk⟩ := h
    obtain ⟨tt, pp, gs⟩ := (hb cdv A outer s H E hr).ex
    refine ⟨tt, pp, ?_⟩
    have hq := q.length
    have hdl : ds.length = n := by omega
    unfold runD at hd
    rw [if_pos hdl] at hd
    have getV : ∀ (i : Nat) (s : Sl), (ds.map Sl.val ++ Sl.tre (.dic ks l) :: List.replicate m Sl.no)[i]? = some s → (i < n ∧ ∃ d, ds[i]? = some d ∧ s = .val d) ∨ (i = n ∧ s = .tre (.dic ks l)) ∨ s = .no := fun i s h => by
      by_cases hi : i < n
      · rw [List.getElem?_append_left (by rw [List.length_map]; omega), List.getElem?_map] at h
        cases hx : ds[i]? with
        | none => rw [hx] at h; cases h
        | some d => rw [hx] at h; cases h; exact .inl ⟨hi, d, rfl, rfl⟩
      · rw [List.getElem?_append_right (by rw [List.length_map]; omega), List.length_map] at h
        by_cases hi2 : i = n
        · rw [show i - ds.length = 0 by omega] at h
          cases h
          exact .inr (.inl ⟨hi2, rfl⟩)
        · rw [show i - ds.length = (i - ds.length - 1) + 1 by omega, List.getElem?_cons_succ, List.getElem?_replicate] at h
          split at h
          · cases h; exact .inr (.inr rfl)
          · cases h
    have startN : ∀ i v, (ws ++ [V.ref p])[i]? = some v → (start N (ws ++ [.ref p]))[i]? = some (some v) := fun i v h => by
      unfold L2.start
      have hi := (List.getElem?_eq_some_iff.mp h).1
      rw [List.getElem?_append_left (by rw [List.length_map]; exact hi), List.getElem?_map, h]
      rfl
    have atP : (start N (ws ++ [.ref p]))[n]? = some (some (.ref p)) := startN n _ (by rw [List.getElem?_append_right (by omega), show n - ws.length = 0 by omega]; rfl)
    have ow : Ow K T G H (.ref p) (.dic ks l) [p] := .dic hpp gp e1 e2
    have tr : Tr K T G H (fun a => hideH p H a = none) (start N (ws ++ [.ref p])) (ds.map Sl.val ++ Sl.tre (.dic ks l) :: List.replicate m Sl.no) := by
      refine ⟨fun _ => [p], fun i t h => ?_, fun i j t u hij h1 h2 => ?_, fun i j t es p' h1 h2 => ?_⟩
      · rcases getV i _ h with ⟨_, d, _, z⟩ | ⟨hi, z⟩ | z
        · cases z
        · cases z
          refine ⟨⟨.ref p, by rw [hi]; exact atP, ow⟩, by simp, fun a ha => by rw [List.mem_singleton.mp ha]; exact hide_at⟩
        · cases z
      · rcases getV i _ h1 with ⟨_, d, _, z⟩ | ⟨hi, z⟩ | z
        · cases z
        · rcases getV j _ h2 with ⟨_, d, _, z⟩ | ⟨hj, z⟩ | z
          · cases z
          · exact absurd (hi.trans hj.symm) hij
          · cases z
        · cases z
      · rcases getV j _ h2 with ⟨_, d, _, z⟩ | ⟨hi, z⟩ | z <;> cases z
    have no_own : ∀ (i : Nat) (es : List Dt), (ds.map Sl.val ++ Sl.tre (.dic ks l) :: List.replicate m Sl.no)[i]? ≠ some (.own es) := fun i es h => by
      rcases getV i _ h with ⟨_, d, _, z⟩ | ⟨hi, z⟩ | z <;> cases z
    have S0 : St1 K T G G (hideH p H) G H (start N (ws ++ [.ref p])) (ds.map Sl.val ++ Sl.tre (.dic ks l) :: List.replicate m Sl.no) := by
      refine ⟨⟨gh, ?_, fun i d h => ?_, fun i es h => absurd h (no_own i es), fun i j es fs q h => absurd h (no_own i es), tr.imp fun _ _ => trivial⟩, Same.refl G, ⟨Same.refl G, fun b o hb => hide_same b o hb, gh, fun a => ?_⟩, fun i es q h => absurd h (no_own i es), tr⟩
      · unfold L2.start
        simp only [List.length_append, List.length_map, List.length_replicate, List.length_cons, List.length_nil]
        omega
      · rcases getV i _ h with ⟨hi, d', hd', z⟩ | ⟨hi, z⟩ | z
        · cases z
          obtain ⟨v, hv, rv⟩ := q.get hd'
          exact ⟨v, startN i v (by rw [List.getElem?_append_left (by omega)]; exact hv), rv⟩
        · cases z
        · cases z
      · cases z : G a with
        | none => exact .inl rfl
        | some o => exact .inr (.inl fun y => by cases y)
    exact gs G G (hideH p H) G H _ _ _ S0 hd _ fun v as G' H' nx q' nd fr => kk v as G' H' nx q' nd fr
structure CalleeD (P : Program) (w : World) (K : PySem.W.Frag) (mg : Str → Option Value) (base : Heap) (T : CT) (k : Nat) (x : Str) (n : Nat) (g : List Dt → List (Int × Int) → List Dt → Option OT) : Prop where
  ex : ∃ (f : Addr) (fd : FuncData) (ps : List Str), FnOk P w K mg base CX0 k f fd ps (spD K T n g) ∧ mg x = some (.ref f) ∧ PySem.W.keepIn K (.ref f) = true ∧ Binds K fd ps []
theorem calleeD_of {x qual y : Str} {st : Stmt} {f : Addr} {fd : FuncData} {ps : List Str} {k n m : Nat} {g : Env → Option OT} (F : Fun K y qual st f fd) (O : FnOk P w K mg base CX0 k f fd ps (spD K T n (runD n m g))) (hm : mg x = some (.ref f)) (hb : Binds K fd ps []) : CalleeD P w K mg base T k x n (runD n m g) :=
  ⟨f, fd, ps, O, hm, F.kp, hb⟩
end
/-- behind the call: the dict handed on is gone, what came is fixed -/
theorem St1.called (S : St1 K T B G0 H0 G H σ r) {p : Addr} {kvs : List (List L2.Key × V)} (hp : H p = some (.dT kvs)) (h0 : H0 p = none) (hg : G p = none) (hown : ∀ (j : Nat) (ds : List Dt), r[j]? = some (.own ds) → σ[j]? ≠ some (some (.ref p))) (htr : Tr K T G H (fun a => H0 a = none ∧ a ≠ p) σ r) (n : Nx G (hideH p H) G' H') {v : V} {t : OT} {as : List Addr} (q : Ow K T G' H' v t as) (fr : ∀ a ∈ as, hideH p H a = none) :
    ∃ G2, St1 K T B G0 H0 G2 H' σ r ∧ Rp K T G2 v t.toD := by
  classical
  let G2 : Hp := fun a => if a ∈ as then H' a else G' a
  have gW : ∀ a, a ∈ as → G2 a = H' a := fun a h => if_pos h
  have gN : ∀ a, a ∉ as → G2 a = G' a := fun a h => if_neg h
  have gg : Same G' G2 := fun a o h => by
    rw [gN a fun w => by rw [(Ow.inn t q a w).1] at h; cases h]
    exact h
  have gh : Same G2 H' := fun a o h => by
    by_cases w : a ∈ as
    · rw [gW a w] at h; exact h
    · rw [gN a w] at h; exact n.gh _ _ h
  have keep : ∀ a o, H a = some o → a ≠ p → H' a = some o := fun a o h e => n.hh _ _ (by rw [hide_ne e]; exact h)
  have out : ∀ a o, H a = some o → isMut o → a ≠ p → G a = none → G2 a = none := fun a o h hm e g => by
    have h1 : hideH p H a = some o := by rw [hide_ne e]; exact h
    rw [gN a fun w => by rw [fr a w] at h1; cases h1]
    exact n.out g h1 (mut_not hm)
  have trm : ∀ P : Addr → Prop, Tr K T G H (fun a => P a ∧ a ≠ p) σ r → Tr K T G2 H' P σ r := fun P h => by
    obtain ⟨m, k1, k2, k3⟩ := h
    refine ⟨m, fun i u e => ?_, k2, k3⟩
    obtain ⟨⟨w, hw, ow⟩, nd, hP⟩ := k1 i u e
    refine ⟨⟨w, hw, Ow.mv (n.gg.trans gg) u ow (fun a ha => ?_) (fun a ha => ?_)⟩, nd, fun a ha => (hP a ha).1⟩
    · obtain ⟨o, ho, hm⟩ := Ow.muts u ow a ha
      exact out a o ho hm (hP a ha).2 (Ow.inn u ow a ha).1
    · obtain ⟨o, ho, hm⟩ := Ow.muts u ow a ha
      rw [ho]
      exact keep a o ho (hP a ha).2
  refine ⟨G2, ⟨⟨gh, S.fits.len, fun i d h => ?_, fun i ds h => ?_, S.fits.sep, trm _ (htr.imp fun a z => ⟨trivial, z.2⟩)⟩, S.base.trans (n.gg.trans gg), ⟨S.nx.gg.trans (n.gg.trans gg), fun a o h => ?_, gh, fun a => ?_⟩, S.ow, trm _ htr⟩, Ow.rpG gg t q gW⟩
  · obtain ⟨w, e, qq⟩ := S.fits.val i d h
    exact ⟨w, e, Rp.mono (n.gg.trans gg) d qq⟩
  · obtain ⟨a, vs, e, hga, hha, qq⟩ := S.fits.own i ds h
    have hne : a ≠ p := fun z => hown i ds h (z ▸ e)
    exact ⟨a, vs, e, out a _ hha trivial hne hga, keep a _ hha hne, RpA.mono (n.gg.trans gg) ds qq⟩
  · have h1 := S.nx.hh _ _ h
    have hne : a ≠ p := fun z => by rw [z, h0] at h; cases h
    exact keep a o h1 hne
  · by_cases w : a ∈ as
    · refine .inr (.inr (.inl ?_))
      by_cases e : a = p
      · rw [e]; exact h0
      · have := fr a w
        rw [hide_ne e] at this
        exact S.nx.hh.free this
    · rw [gN a w]
      rcases n.fr a with z | z | z
      · exact .inl z
      · rcases S.nx.fr a with y | y | y
        · exact absurd y z
        · exact .inr (.inl y)
        · exact .inr (.inr y)
      · by_cases e : a = p
        · exact .inr (.inr (.inl (by rw [e]; exact h0)))
        · refine .inr (.inr (Nw.back S.nx.hh ?_))
          unfold Nw at z ⊢
          rw [hide_ne e] at z
          exact z
/-- a name that held an own tree holds nothing any more -/
theorem Tr.drop {P : Addr → Prop} {i : Nat} {p : Addr} {x : Option V} {ks : List (Int × Int)} {l : List Dt} (h : Tr K T G H P σ r) (hr : r[i]? = some (.tre (.dic ks l))) (hs : σ[i]? = some (some (.ref p))) : Tr K T G H (fun a => P a ∧ a ≠ p) (σ.set i x) (r.set i .no) := by
  obtain ⟨m, k1, k2, k3⟩ := h
  have hi : i < r.length := (List.getElem?_eq_some_iff.mp hr).1
  have mp : p ∈ m i := by
    obtain ⟨⟨v, hv, ow⟩, _⟩ := k1 i _ hr
    rw [hs] at hv
    cases hv
    generalize m i = as at ow
    cases ow with
    | dic h1 h2 h3 h4 => exact List.mem_singleton_self _
  have back : ∀ (j : Nat) (z : Sl), (∃ t, z = .tre t) ∨ (∃ l, z = .own l) → (r.set i .no)[j]? = some z → j ≠ i ∧ r[j]? = some z := fun j z hz e => by
    by_cases hj : j = i
    · subst hj
      rw [List.getElem?_set_self hi] at e
      cases e
      rcases hz with ⟨t, h⟩ | ⟨l, h⟩ <;> cases h
    · rw [List.getElem?_set_ne (Ne.symm hj)] at e
      exact ⟨hj, e⟩
  refine ⟨m, fun j t e => ?_, fun j k t u hjk e1 e2 => k2 j k t u hjk (back j _ (.inl ⟨t, rfl⟩) e1).2 (back k _ (.inl ⟨u, rfl⟩) e2).2, fun j k t es q e1 e2 e3 => ?_⟩
  · obtain ⟨hj, e⟩ := back j _ (.inl ⟨t, rfl⟩) e
    obtain ⟨h1, h2, h3⟩ := k1 j t e
    rw [List.getElem?_set_ne (Ne.symm hj)]
    exact ⟨h1, h2, fun a ha => ⟨h3 a ha, fun z => k2 j i t _ hj e hr a ha (z ▸ mp)⟩⟩
  · obtain ⟨hj, e1⟩ := back j _ (.inl ⟨t, rfl⟩) e1
    obtain ⟨hk, e2⟩ := back k _ (.inr ⟨es, rfl⟩) e2
    rw [List.getElem?_set_ne (Ne.symm hk)] at e3
    exact k3 j k t es q e1 e2 e3
/-- y = f(a, b, x): x an own dict -/
def fCallN (i j : Nat) (g : List Dt → List (Int × Int) → List Dt → Option OT) (fa fb : Env → Option Dt) : Env → Option Out := fun r => match fa r, fb r, gT r j with
  | some a, some b, some (.dic ks l) => (match g [a, b] ks l with
    | some t => some (.nx ((r.set j .no).set i (.val t.toD)))
    | none => none)
  | _, _, _ => none
theorem ds_callN (i j : Nat) {y x f : Str} {k : Nat} {g : List Dt → List (Int × Int) → List Dt → Option OT} {ea eb : Expr} {fa fb : Env → Option Dt} {p cpos px pos pos' : Pos} (hN : X.N.Nodup) (C : CalleeD X.prog X.w X.K X.mg X.base T k f 2 g) (hr : Room k X.A) (ha : DE X T ea fa) (hb : DE X T eb fb)
    (hi : X.N[i]? = some y := by rfl) (hx : Loc X.env.scope y := by first | exact .inl rfl | exact .inr rfl) (hf : X.fn y = true ∨ X.env.scope.names.lookup y = some .local := by first | exact .inl rfl | exact .inr rfl)
    (hj : X.N[j]? = some x := by rfl) (hvis : Vis X.env.scope x := by first | exact Or.inl rfl | exact Or.inr (Or.inl rfl)) (hd : (x == ("__debug__" : Str)) = false := by decide +kernel) (hcd : (x == ("__classdict__" : Str)) = false := by decide +kernel) (hg : Gl X f := by rfl) (hdb : (f == ("__debug__" : Str)) = false := by decide +kernel)
    (h1 : starEach [ea, eb, .Name x px] X.env = (false, eval ea X.env) :: starEach [eb, .Name x px] X.env := by rfl) (h2 : starEach [eb, .Name x px] X.env = (false, eval eb X.env) :: starEach [.Name x px] X.env := by rfl) (h3 : starEach [.Name x px] X.env = (false, eval (.Name x px) X.env) :: starEach [] X.env := by rfl) (hpl : (backTo cpos (starEach [eb, .Name x px] X.env)).any (·.1) = false := by rfl)
    (hs : swapsWith (.Call (.Name f p) [ea, eb, .Name x px] [] cpos) (some (.Name y pos')) pos.line X.env = pure false := by rfl) :
    DS X T (.Assign [.Name y pos'] (.Call (.Name f p) [ea, eb, .Name x px] [] cpos) pos) (fCallN i j g fa fb) := by
  obtain ⟨fA, fd, ps, O, hm, hk, hbd⟩ := C.ex
  obtain ⟨ta, pa, ga⟩ := ha.ex
  obtain ⟨tb, pb, gb⟩ := hb.ex
  refine ⟨_, ps_set hN hi hx (pe_call (E := E0) O hr hg hm hk hbd .nil pass0 (pa_cons pa (pa_cons pb (pa_cons (pe_var hj hvis hd hcd) pa_nil h3) h2) h1) hdb h1 hpl) hs hf, fun B G0 H0 G H σ r o S h D m => ?_⟩
  unfold fCallN at h
  split at h
  · rename_i a b ks l e1 e2 e3
    split at h
    · rename_i t e4
      cases h
      have hrj := gT_iff.mp e3
      refine ga G H σ r a S.fits e1 _ fun v1 G1 H1 n1 q1 => ?_
      refine gb G1 H1 σ r b (S.fits.nx n1) e2 _ fun v2 G2 H2 n2 q2 => ?_
      have S2 := (S.nx' n1).nx' n2
      obtain ⟨v3, w3, as3, hv3, ea3, ow⟩ := S2.fits.at hrj (u := .dic ks l) (ks := []) rfl
      cases ea3
      refine ⟨v3, hv3, ?_⟩
      cases ow with
      | @dic pd kvs _ _ h4 h5 h6 h7 =>
        refine ⟨G2, [a, b], ks, l, t, pd, kvs, [v1, v2], rfl, rfl, S2.fits.gh, h5, h4, h6, h7, .cons (Rp.mono n2.gg a q1) (.cons q2 .nil), e4, fun v as G' H' nx q nd fr => ?_⟩
        have h0 : H0 pd = none := by
          obtain ⟨mm, k1, _⟩ := S2.tr
          obtain ⟨⟨v', hv', ow'⟩, _, hP⟩ := k1 j _ hrj
          rw [hv3] at hv'
          cases hv'
          generalize mm j = as' at ow' hP
          cases ow' with
          | dic _ _ _ _ => exact hP _ (List.mem_singleton_self _)
        have S3 := S2.setNoX (i := j) σ[j]?.join
        have es : σ.set j σ[j]?.join = σ := by
          have hjl : j < σ.length := (List.getElem?_eq_some_iff.mp hv3).1
          rw [List.getElem?_eq_getElem hjl]
          exact List.set_getElem_self hjl
        have htr := S2.tr.drop (x := σ[j]?.join) hrj hv3
        rw [es] at S3 htr
        obtain ⟨G3, S4, rp⟩ := S3.called h4 h0 h5 (fun jj es' e5 e6 => by
          obtain ⟨a', vs', e7, _, e8, _⟩ := S3.fits.own jj es' e5
          rw [e6] at e7
          cases e7
          rw [h4] at e8
          cases e8) htr nx q fr
        exact m G3 H' _ (S4.set rp)
    · cases h
  · cases h
/-- y = f(a, b, {..}) -/
def fCallU (i : Nat) (g : List Dt → List (Int × Int) → List Dt → Option OT) (fa fb : Env → Option Dt) (fu : Env → Option OT) : Env → Option Out := fun r => match fa r, fb r, fu r with
  | some a, some b, some (.dic ks l) => (match g [a, b] ks l with
    | some t => some (.nx (r.set i (.val t.toD)))
    | none => none)
  | _, _, _ => none
theorem ds_callU (i : Nat) {y f : Str} {k : Nat} {g : List Dt → List (Int × Int) → List Dt → Option OT} {ea eb eu : Expr} {fa fb : Env → Option Dt} {fu : Env → Option OT} {p cpos pos pos' : Pos} (hN : X.N.Nodup) (C : CalleeD X.prog X.w X.K X.mg X.base T k f 2 g) (hr : Room k X.A) (ha : DE X T ea fa) (hb : DE X T eb fb) (hu : DU X T eu fu)
    (hi : X.N[i]? = some y := by rfl) (hx : Loc X.env.scope y := by first | exact .inl rfl | exact .inr rfl) (hf : X.fn y = true ∨ X.env.scope.names.lookup y = some .local := by first | exact .inl rfl | exact .inr rfl) (hg : Gl X f := by rfl) (hdb : (f == ("__debug__" : Str)) = false := by decide +kernel)
    (h1 : starEach [ea, eb, eu] X.env = (false, eval ea X.env) :: starEach [eb, eu] X.env := by rfl) (h2 : starEach [eb, eu] X.env = (false, eval eb X.env) :: starEach [eu] X.env := by rfl) (h3 : starEach [eu] X.env = (false, eval eu X.env) :: starEach [] X.env := by rfl) (hpl : (backTo cpos (starEach [eb, eu] X.env)).any (·.1) = false := by rfl)
    (hs : swapsWith (.Call (.Name f p) [ea, eb, eu] [] cpos) (some (.Name y pos')) pos.line X.env = pure false := by rfl) :
    DS X T (.Assign [.Name y pos'] (.Call (.Name f p) [ea, eb, eu] [] cpos) pos) (fCallU i g fa fb fu) := by
  obtain ⟨fA, fd, ps, O, hm, hk, hbd⟩ := C.ex
  obtain ⟨ta, pa, ga⟩ := ha.ex
  obtain ⟨tb, pb, gb⟩ := hb.ex
  obtain ⟨tu, pu, gu⟩ := hu.ex
  refine ⟨_, ps_set hN hi hx (pe_call (E := E0) O hr hg hm hk hbd .nil pass0 (pa_cons pa (pa_cons pb (pa_cons pu pa_nil h3) h2) h1) hdb h1 hpl) hs hf, fun B G0 H0 G H σ r o S h D m => ?_⟩
  unfold fCallU at h
  split at h
  · rename_i a b ks l e1 e2 e3
    split at h
    · rename_i t e4
      cases h
      refine ga G H σ r a S.fits e1 _ fun v1 G1 H1 n1 q1 => ?_
      refine gb G1 H1 σ r b (S.fits.nx n1) e2 _ fun v2 G2 H2 n2 q2 => ?_
      have S2 := (S.nx' n1).nx' n2
      refine gu G2 H2 σ r _ S2.fits e3 _ fun v3 as3 G3 H3 n3 ow nd3 fr3 => ?_
      have S3 := S2.nx' n3
      cases ow with
      | @dic pd kvs _ _ h4 h5 h6 h7 =>
        have hnew : H2 pd = none := fr3 pd (List.mem_singleton_self _)
        refine ⟨G3, [a, b], ks, l, t, pd, kvs, [v1, v2], rfl, rfl, S3.fits.gh, h5, h4, h6, h7, .cons (Rp.mono (n2.gg.trans n3.gg) a q1) (.cons (Rp.mono n3.gg b q2) .nil), e4, fun v as G' H' nx q nd fr => ?_⟩
        obtain ⟨G4, S4, rp⟩ := S3.called h4 (S2.nx.hh.free hnew) h5 (fun jj es' e5 e6 => by
          obtain ⟨a', vs', e7, _, e8, _⟩ := S2.fits.own jj es' e5
          rw [e6] at e7
          cases e7
          rw [hnew] at e8
          cases e8) ((S2.tr.inH.nx n3).imp fun a z => ⟨z.1, fun e => z.2 (by rw [e]; exact hnew)⟩) nx q fr
        exact m G4 H' _ (S4.set rp)
    · cases h
  · cases h
end
end PL

/-! ### tuple(..); sorted lists of tuples of texts -/
namespace PL
open PySem PySem.Spec PyProof.Rows L2
abbrev KS := List (List Nat)
def ltK (a b : KS) : Bool := decide (a < b)
theorem swo_ltK {α : Type} (k : α → KS) : SrtO.Swo fun v u => ltK (k v) (k u) := by
  refine ⟨fun x y h => ?_, fun x y z h1 h2 => ?_⟩
  · exact decide_eq_false (List.lt_asymm (of_decide_eq_true h))
  · have a := List.not_lt.mp (of_decide_eq_false h1)
    have b := List.not_lt.mp (of_decide_eq_false h2)
    exact decide_eq_false (List.not_lt.mpr (List.le_trans a b))
theorem ltK_eq {a b : KS} (h1 : ltK a b = false) (h2 : ltK b a = false) : a = b :=
  List.le_antisymm (List.not_lt.mp (of_decide_eq_false h2)) (List.not_lt.mp (of_decide_eq_false h1))
/-! #### the value of a text, raw -/
def IsS (u : Value) (l : List Nat) : Prop := ∃ t, u = .str ⟨l.toArray⟩ t
theorem isS_of {l : List Nat} {u : Value} (h : RelV (.str ⟨l.toArray⟩) u) : IsS u l := h
section
variable {prog : Program} {w : World} {A : Around} {s : Shared}
theorem kat_strs {Q : Bool → Shared → Prop} {fin : Bool} : ∀ (as bs : KS) (us vs : List Value) (i : Nat), Paired IsS us as → Paired IsS vs bs → fin = decide (as.length < bs.length) → Q (ltK as bs) s → PySem.W.KatLex prog w A true fin Q (us.zip vs) i s
  | [], bs, us, vs, i, hu, hv, hf, q => by
    cases hu
    show Q fin s
    rw [hf]
    have : ltK [] bs = decide (([] : KS).length < bs.length) := by
      cases bs with
      | nil => rfl
      | cons b bs =>
        have h1 : ltK [] (b :: bs) = true := decide_eq_true (List.nil_lt_cons _ _)
        rw [h1]
        exact (decide_eq_true (Nat.succ_pos _)).symm
    rw [← this]
    exact q
  | a :: as, [], us, vs, i, hu, hv, hf, q => by
    cases hv
    rw [List.zip_nil_right]
    show Q fin s
    rw [hf]
    have h1 : ltK (a :: as) [] = false := decide_eq_false (List.not_lt_nil _)
    rw [h1] at q
    exact q
  | a :: as, b :: bs, us, vs, i, hu, hv, hf, q => by
    cases hu with
    | cons u1 u2 =>
      cases hv with
      | cons v1 v2 =>
        obtain ⟨t, rfl⟩ := u1
        obtain ⟨t', rfl⟩ := v1
        rw [List.zip_cons_cons]
        refine PySem.W.kat_cons (SeqAt.EqAt.str_str _ t _ t' prog w _ _ ?_)
        refine PySem.W.kat_go (fun e => ?_) (fun e => ?_)
        · have e1 : (⟨a.toArray⟩ : Str) = ⟨b.toArray⟩ := by simpa using e
          have e2 : a = b := by
            have := congrArg (fun z : Str => z.cps.toList) e1
            exact this
          refine PySem.W.kat_yes (kat_strs as bs _ _ (i + 1) u2 v2 ?_ ?_)
          · rw [hf, List.length_cons, List.length_cons]
            congr 1
            exact propext (by omega)
          · have : ltK (a :: as) (b :: bs) = ltK as bs := by
              unfold ltK
              congr 1
              rw [List.cons_lt_cons_iff]
              exact propext ⟨fun z => z.elim (fun z => absurd z (by rw [e2]; exact List.lt_irrefl _)) (·.2), fun z => .inr ⟨e2, z⟩⟩
            rw [← this]
            exact q
        · have e2 : ¬ a = b := fun z => by
            subst z
            simp at e
          have this : ltK (a :: as) (b :: bs) = decide (a < b) := by
            unfold ltK
            congr 1
            rw [List.cons_lt_cons_iff]
            exact propext ⟨fun z => z.elim id fun z => absurd z.1 e2, .inl⟩
          rw [this] at q
          refine PySem.W.kat_no ?_
          cases i with
          | zero => exact oneLt_str q
          | succ i => exact PySem.W.kat_one _ _ (PyProof.Rows.lt_str q)
/-- a tuple of texts, raw -/
def IsK (h : Heap) (v : Value) (k : KS) : Prop := ∃ a o its n, v = .ref a ∧ h.get? a = some o ∧ o.cls = .type "tuple" ∧ o.data = .seq its n ∧ Paired IsS its.toList k
theorem IsK.keeps {h h' : Heap} {v : Value} {k : KS} (x : IsK h v k) (kp : ∀ b o, h.get? b = some o → o.cls = .type "tuple" → h'.get? b = some o) : IsK h' v k := by
  obtain ⟨a, o, its, n, e, ho, hc, hd, hp⟩ := x
  exact ⟨a, o, its, n, e, kp a o ho hc, hc, hd, hp⟩
theorem ks_cmp {vs : List Value} {k : Value → KS} (hp : ∀ v ∈ vs, IsK s.heap v (k v)) : SrtO.Cmp prog w A s (tuples' true) (fun p => p.1 ∈ vs) (SrtO.lt2 fun v u => ltK (k v) (k u)) := by
  intro p q hm hm'
  obtain ⟨a, o, xs, n, e, ho, hc, hd, hx⟩ := hp _ hm
  obtain ⟨b, o', ys, m, e', ho', hc', hd', hy⟩ := hp _ hm'
  rw [e, e']
  refine PySem.W.kat_lt ho hd ho' hd' (kat_strs (k p.1) (k q.1) _ _ 0 hx hy ?_ ⟨rfl, rfl⟩)
  have h1 := Paired.length hx
  have h2 := Paired.length hy
  rw [Array.length_toList] at h1 h2
  rw [h1, h2]
theorem ks_firsts {h : Heap} {k : Value → KS} : ∀ {vs : List Value}, (∀ v ∈ vs, IsK h v (k v) ∧ k v ≠ []) → ∃ fs : List Value, PySem.W.KatTups h vs fs ∧ fs.length = vs.length ∧ ∀ f ∈ fs, ∃ l, IsS f l
  | [], _ => ⟨[], PySem.W.KatTups.nil, rfl, fun _ hm => by cases hm⟩
  | v :: vs, hp => by
    obtain ⟨fs, h1, h2, h3⟩ := ks_firsts (vs := vs) fun u hm => hp u (List.mem_cons_of_mem _ hm)
    obtain ⟨⟨a, o, xs, n, e, ho, hc, hd, hx⟩, hne⟩ := hp v List.mem_cons_self
    generalize hl : xs.toList = l at hx
    generalize k v = kv at hx hne
    cases hx with
    | nil => exact absurd rfl hne
    | @cons u k0 us ks r1 r2 =>
      subst e
      have hf : xs[0]? = some u := by rw [← Array.getElem?_toList, hl]; rfl
      refine ⟨u :: fs, PySem.W.KatTups.cons ho hc hd hf h1, by rw [List.length_cons, List.length_cons, h2], fun f hm => ?_⟩
      rcases List.mem_cons.mp hm with rfl | hm
      · exact ⟨_, r1⟩
      · exact h3 f hm
theorem ks_sortable {a : Addr} {vs : List Value} {k : Value → KS} (h0 : 0 < vs.length) (hp : ∀ v ∈ vs, IsK s.heap v (k v) ∧ k v ≠ []) (ha : ∀ o, s.heap.get? a = some o → o.cls ≠ .type "tuple") : SrtO.SortableO prog w A s a vs fun v u => ltK (k v) (k u) := by
  intro h' keep
  have hp' : ∀ v ∈ vs, IsK h' v (k v) ∧ k v ≠ [] := fun v hm => ⟨(hp v hm).1.keeps fun b o e c => keep b o (fun z => by subst z; exact ha o e c) e, (hp v hm).2⟩
  obtain ⟨fs, h1, h2, h3⟩ := ks_firsts hp'
  refine ⟨tuples' true, fun Q E hq => ?_, ks_cmp fun v hm => (hp' v hm).1⟩
  refine PySem.W.kat_kind (T := .type "str") h1 (by omega) (fun f hm => ?_) (by rfl) ?_
  · obtain ⟨l, t, rfl⟩ := h3 f hm
    exact PySem.W.Looks.now
  · have e : (Value.type "str" != Value.type "tuple") = true := by decide +kernel
    rw [e]
    exact hq
end
/-! #### as a rule -/
def vsK (k : KS) : List V := k.map fun l => .str ⟨l.toArray⟩
def keyH (h : Heap) : Value → KS
  | .ref a => match h.get? a with
    | some o => (match o.data with
      | .seq its _ => its.toList.map fun u => (match u with | .str x _ => x.cps.toList | _ => [])
      | _ => [])
    | none => []
  | _ => []
def AtK (K : PySem.W.Frag) (H : Hp) (x : V) (k : KS) : Prop := k ≠ [] ∧ ∃ t, x = .ref t ∧ SqT K H t (vsK k)
theorem isS_vals : ∀ {k : KS} {us : List Value}, Vals (vsK k) us → Paired IsS us k ∧ us.map (fun u => (match u with | .str x _ => x.cps.toList | _ => [])) = k
  | [], _, h => by cases h; exact ⟨.nil, rfl⟩
  | l :: k, _, h => by
    cases h with
    | cons r t =>
      obtain ⟨h1, h2⟩ := isS_vals t
      obtain ⟨tk, rfl⟩ := r
      exact ⟨.cons ⟨tk, rfl⟩ h1, by rw [List.map_cons, h2]⟩
theorem atK_val {X : Cx} {pins : List (Addr × Obj)} {σ : L2.St} {H : Hp} {s : Shared} (I : Inv X pins σ H s) {x : V} {u : Value} {k : KS} (h : AtK X.K H x k) (r : RelV x u) : IsK s.heap u k ∧ keyH s.heap u = k ∧ L2.backV u = x := by
  obtain ⟨_, t, rfl, hs⟩ := h
  obtain rfl : u = .ref t := r
  obtain ⟨its, rv, ⟨o, ho, hc, n, hd⟩, _⟩ := I.tuple hs
  obtain ⟨h1, h2⟩ := isS_vals rv
  refine ⟨⟨t, o, its.toArray, n, rfl, ho, hc, hd, by rw [List.toList_toArray]; exact h1⟩, ?_, rfl⟩
  show (match s.heap.get? t with | some o => _ | none => _) = k
  rw [ho]
  show (match o.data with | .seq its _ => _ | _ => _) = k
  rw [hd]
  show its.toArray.toList.map _ = k
  rw [List.toList_toArray]
  exact h2
def rSortK (K : PySem.W.Frag) : List V → Hp → VK → Prop := fun vs H Q => ∃ (a : Addr) (xs : List V) (ks : List KS), vs = [V.ref a] ∧ SqL K H a xs ∧ Paired (AtK K H) xs ks ∧
  ∀ (zs : List (V × KS)) p, zs.Perm (xs.zip ks) → zs.Pairwise (fun x y => ltK y.2 x.2 = false) → H p = none → Q (.ref p) (upd H p (.lst (zs.map Prod.fst)))
theorem cr_sortK {X : Cx} : CallR X (.builtin "sorted") (rSortK X.K) := by
  intro pins s σ H vs us Q I r h
  obtain ⟨a, xs, ks, rfl, hs, hx, q⟩ := h
  obtain ⟨its, rv, hl, hz⟩ := I.list hs
  cases r with
  | @cons _ u _ us r1 r2 =>
    cases r2
    obtain rfl : u = Value.ref a := r1
    have all : ∀ {xs : List V} {ks : List KS} {its : List Value}, Paired (AtK X.K H) xs ks → Vals xs its → (∀ v ∈ its, IsK s.heap v (keyH s.heap v) ∧ keyH s.heap v ≠ [] ∧ ∃ t, v = .ref t) ∧ its.map (fun u => (L2.backV u, keyH s.heap u)) = xs.zip ks := by
      intro xs ks its hp
      induction hp generalizing its with
      | nil => intro rv; cases rv; exact ⟨fun v hv => (by cases hv), rfl⟩
      | @cons x k xs ks p1 p2 ih =>
        intro rv
        cases rv with
        | @cons _ u _ us r1 r2 =>
          obtain ⟨h1, h2, h3⟩ := atK_val I p1 r1
          obtain ⟨i1, i2⟩ := ih r2
          refine ⟨fun v hv => ?_, by rw [List.map_cons, List.zip_cons_cons, i2, h2, h3]⟩
          rcases List.mem_cons.mp hv with rfl | hv
          · obtain ⟨hne, t, rfl, _⟩ := p1
            exact ⟨by rw [h2]; exact h1, by rw [h2]; exact hne, t, r1⟩
          · exact i1 v hv
    obtain ⟨hk, hzip⟩ := all hx rv
    refine SrtO.sorted_ord (swo_ltK (keyH s.heap)) hl.isList (by rw [← rv.length]; exact hz) (fun h2 h₁ b hb kk => ?_) fun out h1 h2 => ?_
    · refine ks_sortable (s := { s with heap := h₁ }) (by omega) (fun v hm => ⟨(hk v hm).1.keeps fun c o e _ => (kk c o e).2, (hk v hm).2.1⟩) fun o e => ?_
      have e' : some o = some (seqObj "list" its.toArray 0) := e.symm.trans hb
      cases e'
      intro c
      exact absurd (Value.type.inj c) (by decide)
    · have hperm := h2.perm
      have hzp : (out.map fun u => (L2.backV u, keyH s.heap u)).Perm (xs.zip ks) := by
        rw [← hzip]
        exact hperm.map _
      have hsort : (out.map fun u => (L2.backV u, keyH s.heap u)).Pairwise (fun x y => ltK y.2 x.2 = false) := List.pairwise_map.mpr h1
      have h3 : ∀ u ∈ out, ∃ t, u = Value.ref t := fun u hu => (hk u (hperm.mem_iff.mp hu)).2.2
      have hfst : (out.map fun u => (L2.backV u, keyH s.heap u)).map Prod.fst = out.map L2.backV := by rw [List.map_map]; rfl
      have qq := q _ (s.heap.objs.size + 1) hzp hsort (I.hok.fresh (Nat.le_succ _))
      rw [hfst] at qq
      obtain ⟨ep, he⟩ := PyProof.Rows.sortedAll_at s.heap its out.toArray
      have hlen : (out.map L2.backV).length ≤ sizeLine := by rw [List.length_map, hperm.length_eq, ← rv.length]; exact hz
      exact ⟨.ref (s.heap.objs.size + 1), upd H (s.heap.objs.size + 1) (.lst (out.map L2.backV)), I.laid (t' := s.toks) (fun _ _ => PyProof.Rows.sortedAll_old) (Nat.le_succ _) ⟨hlen, out, ep, L2.vals_back h3, he⟩, rfl, qq⟩
/-! #### over data -/
def strsK : List Dt → Option KS
  | [] => some []
  | .str l :: r => (strsK r).map (l :: ·)
  | _ :: _ => none
def keyD : Dt → Option KS
  | .tup l => match strsK l with
    | some [] => none
    | o => o
  | _ => none
def keysD : List Dt → Option (List KS)
  | [] => some []
  | d :: r => match keyD d, keysD r with
    | some k, some ks => some (k :: ks)
    | _, _ => none
def tupK (k : KS) : Dt := .tup (k.map .str)
def insK (k : KS) : List KS → List KS
  | [] => [k]
  | x :: l => if ltK x k = true then x :: insK k l else k :: x :: l
def sortK : List KS → List KS
  | [] => []
  | k :: l => insK k (sortK l)
theorem insK_perm (k : KS) : ∀ l, (insK k l).Perm (k :: l)
  | [] => List.Perm.refl _
  | x :: l => by
    unfold insK
    split
    · exact ((insK_perm k l).cons x).trans (List.Perm.swap k x l)
    · exact List.Perm.refl _
theorem sortK_perm : ∀ l, (sortK l).Perm l
  | [] => List.Perm.refl _
  | k :: l => (insK_perm k (sortK l)).trans ((sortK_perm l).cons k)
abbrev SdK (l : List KS) : Prop := l.Pairwise fun x y => ltK y x = false
theorem insK_sd {k : KS} : ∀ {l : List KS}, SdK l → SdK (insK k l)
  | [], _ => List.pairwise_singleton _ _
  | x :: l, h => by
    obtain ⟨h1, h2⟩ := List.pairwise_cons.mp h
    have O := swo_ltK (fun z : KS => z)
    unfold insK
    split
    · rename_i hx
      refine List.pairwise_cons.mpr ⟨fun y hy => ?_, insK_sd h2⟩
      rcases List.mem_cons.mp ((insK_perm k l).mem_iff.mp hy) with rfl | hy
      · exact O.asym _ _ hx
      · exact h1 y hy
    · rename_i hx
      have hx' : ltK x k = false := by
        cases z : ltK x k with
        | true => exact absurd z hx
        | false => rfl
      refine List.pairwise_cons.mpr ⟨fun y hy => ?_, h⟩
      rcases List.mem_cons.mp hy with rfl | hy
      · exact hx'
      · exact O.tr _ _ _ hx' (h1 y hy)
theorem sortK_sd : ∀ l, SdK (sortK l)
  | [] => List.Pairwise.nil
  | k :: l => insK_sd (sortK_sd l)
theorem sd_uniq : ∀ {l m : List KS}, SdK l → SdK m → l.Perm m → l = m
  | [], m, _, _, p => (List.nil_perm.mp p).symm
  | x :: l, [], _, _, p => absurd p.length_eq (by simp)
  | x :: l, y :: m, h, k, p => by
    obtain ⟨h1, h2⟩ := List.pairwise_cons.mp h
    obtain ⟨k1, k2⟩ := List.pairwise_cons.mp k
    have e : x = y := by
      rcases List.mem_cons.mp (p.mem_iff.mp List.mem_cons_self) with e | hx
      · exact e
      · rcases List.mem_cons.mp (p.mem_iff.mpr List.mem_cons_self) with e | hy
        · exact e.symm
        · exact ltK_eq (k1 x hx) (h1 y hy)
    subst e
    rw [sd_uniq h2 k2 p.cons_inv]
def sortD : List Dt → Option Dt
  | [.lst l] => (keysD l).map fun ks => .lst ((sortK ks).map tupK)
  | _ => none
section
variable {X : Cx} {T : CT} {K : PySem.W.Frag} {G H : Hp}
theorem strsK_eq : ∀ {l : List Dt} {k : KS}, strsK l = some k → l = k.map .str
  | [], k, h => by cases h; rfl
  | d :: l, k, h => by
    cases d with
    | str x =>
      rw [strsK] at h
      cases e : strsK l with
      | none => rw [e] at h; cases h
      | some k' =>
        rw [e] at h
        cases h
        rw [strsK_eq e]; rfl
    | _ => cases h
theorem keyD_eq {d : Dt} {k : KS} (h : keyD d = some k) : d = tupK k ∧ k ≠ [] := by
  cases d with
  | tup l =>
    rw [keyD] at h
    cases e : strsK l with
    | none => rw [e] at h; cases h
    | some k' =>
      rw [e] at h
      cases k' with
      | nil => cases h
      | cons a b =>
        cases h
        exact ⟨by rw [strsK_eq e]; rfl, by simp⟩
  | _ => cases h
theorem rpK_vals : ∀ {k : KS} {vs : List V}, RpA K T G vs (k.map .str) → vs = vsK k
  | [], _, h => by cases h; rfl
  | l :: k, _, h => by
    cases h with
    | cons r t =>
      cases r
      rw [rpK_vals t]; rfl
theorem keysD_at (gh : Same G H) : ∀ {l : List Dt} {xs : List V} {ks : List KS}, keysD l = some ks → RpA K T G xs l → Paired (AtK K H) xs ks ∧ l = ks.map tupK
  | [], _, ks, h, r => by cases h; cases r; exact ⟨.nil, rfl⟩
  | d :: l, _, ks, h, r => by
    cases r with
    | cons r1 r2 =>
      rw [keysD] at h
      split at h
      · rename_i k ks' h1 h2
        cases h
        obtain ⟨rfl, hne⟩ := keyD_eq h1
        obtain ⟨h3, rfl⟩ := keysD_at gh h2 r2
        unfold tupK at r1
        cases r1 with
        | tup a1 a2 a3 =>
          rw [rpK_vals a2] at a1
          exact ⟨.cons ⟨hne, _, rfl, SqT.mono gh a1⟩ h3, rfl⟩
      · cases h
theorem rpa_mem : ∀ {xs : List V} {ks : List KS}, RpA K T G xs (ks.map tupK) → ∀ z ∈ xs.zip ks, Rp K T G z.1 (tupK z.2)
  | [], ks, _, z, hz => by rw [List.zip_nil_left] at hz; cases hz
  | x :: xs, [], _, z, hz => by rw [List.zip_nil_right] at hz; cases hz
  | x :: xs, k :: ks, r, z, hz => by
    cases r with
    | cons r1 r2 =>
      rw [List.zip_cons_cons] at hz
      rcases List.mem_cons.mp hz with rfl | hz
      · exact r1
      · exact rpa_mem r2 z hz
theorem rpa_of : ∀ {zs : List (V × KS)}, (∀ z ∈ zs, Rp K T G z.1 (tupK z.2)) → RpA K T G (zs.map Prod.fst) ((zs.map Prod.snd).map tupK)
  | [], _ => .nil
  | z :: zs, h => .cons (h z List.mem_cons_self) (rpa_of fun y hy => h y (List.mem_cons_of_mem _ hy))
theorem cal_sorted : CalD X T (.builtin "sorted") sortD := by
  refine ⟨_, cr_sortK, fun G H xs ds d gh p hz Q k => ?_⟩
  unfold sortD at hz
  split at hz
  · rename_i l
    cases e : keysD l with
    | none => rw [e] at hz; cases hz
    | some ks =>
      rw [e] at hz
      cases hz
      cases p with
      | cons p1 p2 =>
        cases p2
        cases p1 with
        | @lst a vs _ a1 a2 =>
          obtain ⟨h1, rfl⟩ := keysD_at gh e a2
          refine ⟨a, vs, ks, rfl, SqL.of (gh _ _ a1), h1, fun zs q hp hs hq => ?_⟩
          have hlen := Paired.length h1
          have e1 : (vs.zip ks).map Prod.snd = ks := by rw [List.map_snd_zip (by omega)]
          have e2 : zs.map Prod.snd = sortK ks := by
            refine sd_uniq (List.pairwise_map.mpr hs) (sortK_sd ks) ?_
            have := hp.map Prod.snd
            rw [e1] at this
            exact this.trans (sortK_perm ks).symm
          have n := Nx.new (o := .lst (zs.map Prod.fst)) gh hq
          refine k _ _ _ n (.lst upd_same (RpA.mono n.gg _ ?_))
          rw [← e2]
          exact rpa_of fun z hz => rpa_mem a2 z (hp.mem_iff.mp hz)
  · cases hz
/-! #### tuple(x) -/
def tupleD : List Dt → Option Dt
  | [.lst l] => if l.length ≤ 100000 then some (.tup l) else none
  | _ => none
theorem cr_tuple : CallR X (.type "tuple") (fun vs H Q => ∃ x, vs = [x] ∧ kTup X.K x H Q) := by
  intro pins s σ H vs us Q I r h
  obtain ⟨x, rfl, q⟩ := h
  cases r with
  | cons r1 r2 =>
    cases r2
    exact rl_tuple pins s σ H x _ Q I r1 q
theorem cal_tuple : CalD X T (.type "tuple") tupleD := by
  refine ⟨_, cr_tuple, fun G H xs ds d gh p hz Q k => ?_⟩
  unfold tupleD at hz
  split at hz
  · rename_i l
    split at hz
    · cases hz
      cases p with
      | cons p1 p2 =>
        cases p2
        cases p1 with
        | @lst a vs _ a1 a2 =>
          refine ⟨_, rfl, .inl ⟨a, vs, rfl, SqL.of (gh _ _ a1), fun q hq => ?_⟩⟩
          have n := Nx.new (o := .tup vs) gh hq
          exact k _ _ _ n (.tup (SqT.of upd_same) (RpA.mono n.gg _ a2) fun _ _ _ => upd_same)
    · cases hz
  · cases hz
end
end PL

/-! ### the walk of law_k10_whole_exchanged, printed by gen.py -/
namespace W
open PySem PySem.Spec PyProof.Rows L2 PL
def topS (i : Nat) : Stmt := PySem.Challenge.pw_tablemanners_k10_whole_exchanged.main.body.getD i (.Pass ⟨0, 0, 0, 0⟩)
abbrev s__law_manners : Stmt := topS 52
theorem sc__law_manners : FnScope ["_law_found", "_law_mark", "_law_quote"] [] (defScope s__law_manners) := ⟨rfl, rfl, rfl, by decide +kernel, rfl, by decide +kernel, by decide +kernel⟩
abbrev s__law_draw : Stmt := topS 50
theorem sc__law_draw : FnScope ["_law_cell", "_law_k", "_law_most", "_law_primes"] ["_law_cell", "_law_k", "_law_most"] (defScope s__law_draw) := ⟨rfl, rfl, rfl, by decide +kernel, rfl, by decide +kernel, by decide +kernel⟩
abbrev s__law_number : Stmt := topS 51
theorem sc__law_number : FnScope ["_law_cell", "_law_k", "_law_limit", "_law_d"] ["_law_cell", "_law_k", "_law_limit"] (defScope s__law_number) := ⟨rfl, rfl, rfl, by decide +kernel, rfl, by decide +kernel, by decide +kernel⟩
abbrev s__law_cell_at : Stmt := topS 49
theorem sc__law_cell_at : FnScope ["_law_script", "_law_k"] ["_law_script", "_law_k"] (defScope s__law_cell_at) := ⟨rfl, rfl, rfl, by decide +kernel, rfl, by decide +kernel, by decide +kernel⟩
abbrev s__law_manner : Stmt := topS 53
theorem sc__law_manner : FnScope ["_law_script", "_law_by"] ["_law_script", "_law_by"] (defScope s__law_manner) := ⟨rfl, rfl, rfl, by decide +kernel, rfl, by decide +kernel, by decide +kernel⟩
abbrev s__law_plain : Stmt := topS 56
theorem sc__law_plain : FnScope ["_law_cell", "_law_manner_here"] ["_law_cell", "_law_manner_here"] (defScope s__law_plain) := ⟨rfl, rfl, rfl, by decide +kernel, rfl, by decide +kernel, by decide +kernel⟩
abbrev s__law_cell_text : Stmt := topS 57
theorem sc__law_cell_text : FnScope ["_law_cell", "_law_manner_here", "_law_mark", "_law_quote", "_law_escape", "_law_found", "_law_sign"] ["_law_cell", "_law_manner_here"] (defScope s__law_cell_text) := ⟨rfl, rfl, rfl, by decide +kernel, rfl, by decide +kernel, by decide +kernel⟩
abbrev s__law_write : Stmt := topS 58
theorem sc__law_write : FnScope ["_law_rows_here", "_law_manner_here", "_law_found", "_law_row", "_law_cells_here", "_law_cell"] ["_law_rows_here", "_law_manner_here"] (defScope s__law_write) := ⟨rfl, rfl, rfl, by decide +kernel, rfl, by decide +kernel, by decide +kernel⟩
abbrev s__law_cells : Stmt := topS 54
theorem sc__law_cells : FnScope ["_law_script", "_law_by", "_law_manner_here", "_law_found", "_law_signs", "_law_k", "_law_cell", "_law_text_here", "_law_size", "_law_turn", "_law_number_here", "_law_sign"] ["_law_script", "_law_by", "_law_manner_here"] (defScope s__law_cells) := ⟨rfl, rfl, rfl, by decide +kernel, rfl, by decide +kernel, by decide +kernel⟩
abbrev s__law_rows : Stmt := topS 55
theorem sc__law_rows : FnScope ["_law_script", "_law_by", "_law_manner_here", "_law_cell", "_law_found", "_law_wide", "_law_many", "_law_row", "_law_more"] ["_law_script", "_law_by", "_law_manner_here"] (defScope s__law_rows) := ⟨rfl, rfl, rfl, by decide +kernel, rfl, by decide +kernel, by decide +kernel⟩
abbrev s__law_text : Stmt := topS 59
theorem sc__law_text : FnScope ["_law_script", "_law_by", "_law_most", "_law_manner_here", "_law_found", "_law_cell", "_law_signs", "_law_k", "_law_turn", "_law_place", "_law_sign", "_law_behind"] ["_law_script", "_law_by", "_law_most"] (defScope s__law_text) := ⟨rfl, rfl, rfl, by decide +kernel, rfl, by decide +kernel, by decide +kernel⟩
abbrev s__law_swapped : Stmt := topS 60
theorem sc__law_swapped : FnScope ["_law_text_here", "_law_one", "_law_other", "_law_found", "_law_sign"] ["_law_text_here", "_law_one", "_law_other"] (defScope s__law_swapped) := ⟨rfl, rfl, rfl, by decide +kernel, rfl, by decide +kernel, by decide +kernel⟩
abbrev s_Table_init : Stmt := inClass (topS 33) 0
theorem sc_Table_init : FnScope ["self", "rows", "row"] ["self", "rows"] (defScope s_Table_init) := ⟨rfl, rfl, rfl, by decide +kernel, rfl, by decide +kernel, by decide +kernel⟩
abbrev s_Broken_init : Stmt := inClass (topS 34) 0
theorem sc_Broken_init : FnScope ["self", "place"] ["self", "place"] (defScope s_Broken_init) := ⟨rfl, rfl, rfl, by decide +kernel, rfl, by decide +kernel, by decide +kernel⟩
abbrev s_is_signs : Stmt := topS 24
theorem sc_is_signs : FnScope ["thing", "most", "sign"] ["thing", "most"] (defScope s_is_signs) := ⟨rfl, rfl, rfl, by decide +kernel, rfl, by decide +kernel, by decide +kernel⟩
abbrev s_check_text : Stmt := topS 27
theorem sc_check_text : FnScope ["text"] ["text"] (defScope s_check_text) := ⟨rfl, rfl, rfl, by decide +kernel, rfl, by decide +kernel, by decide +kernel⟩
abbrev s_all_manners : Stmt := topS 25
theorem sc_all_manners : FnScope ["found", "mark", "quote", "escape"] [] (defScope s_all_manners) := ⟨rfl, rfl, rfl, by decide +kernel, rfl, by decide +kernel, by decide +kernel⟩
abbrev s_check_manner : Stmt := topS 26
theorem sc_check_manner : FnScope ["manner", "part"] ["manner"] (defScope s_check_manner) := ⟨rfl, rfl, rfl, by decide +kernel, rfl, by decide +kernel, by decide +kernel⟩
abbrev s_moved : Stmt := topS 8
theorem sc_moved : FnScope ["manner", "state", "sign", "mark", "quote", "escape"] ["manner", "state", "sign"] (defScope s_moved) := ⟨rfl, rfl, rfl, by decide +kernel, rfl, by decide +kernel, by decide +kernel⟩
abbrev s_sign_told : Stmt := topS 9
theorem sc_sign_told : FnScope ["manner", "state", "then", "sign"] ["manner", "state", "then", "sign"] (defScope s_sign_told) := ⟨rfl, rfl, rfl, by decide +kernel, rfl, by decide +kernel, by decide +kernel⟩
abbrev s_read_of : Stmt := topS 30
theorem sc_read_of : FnScope ["text", "manner", "rows", "row", "cell", "state", "place", "sign", "then"] ["text", "manner"] (defScope s_read_of) := ⟨rfl, rfl, rfl, by decide +kernel, rfl, by decide +kernel, by decide +kernel⟩
abbrev s_read : Stmt := topS 40
theorem sc_read : FnScope ["text", "manner", "rows", "place"] ["text", "manner"] (defScope s_read) := ⟨rfl, rfl, rfl, by decide +kernel, rfl, by decide +kernel, by decide +kernel⟩
abbrev s_is_whole : Stmt := topS 23
theorem sc_is_whole : FnScope ["thing"] ["thing"] (defScope s_is_whole) := ⟨rfl, rfl, rfl, by decide +kernel, rfl, by decide +kernel, by decide +kernel⟩
abbrev s_check_wide : Stmt := topS 41
theorem sc_check_wide : FnScope ["wide"] ["wide"] (defScope s_check_wide) := ⟨rfl, rfl, rfl, by decide +kernel, rfl, by decide +kernel, by decide +kernel⟩
abbrev s_check_all : Stmt := topS 46
theorem sc_check_all : FnScope ["text", "manner", "wide"] ["text", "manner", "wide"] (defScope s_check_all) := ⟨rfl, rfl, rfl, by decide +kernel, rfl, by decide +kernel, by decide +kernel⟩
abbrev s_gone : Stmt := topS 36
theorem sc_gone : FnScope ["manner", "wide", "spot", "sign", "then"] ["manner", "wide", "spot", "sign"] (defScope s_gone) := ⟨rfl, rfl, rfl, by decide +kernel, rfl, by decide +kernel, by decide +kernel⟩
abbrev s_put_ins : Stmt := topS 35
theorem sc_put_ins : FnScope ["manner", "sign"] ["manner"] (defScope s_put_ins) := ⟨rfl, rfl, rfl, by decide +kernel, rfl, by decide +kernel, by decide +kernel⟩
abbrev s_widened : Stmt := topS 37
theorem sc_widened : FnScope ["manner", "wide", "line", "waiting", "spot", "sign", "there"] ["manner", "wide", "line"] (defScope s_widened) := ⟨rfl, rfl, rfl, by decide +kernel, rfl, by decide +kernel, by decide +kernel⟩
abbrev s_mend_of : Stmt := topS 38
theorem sc_mend_of : FnScope ["text", "manner", "wide", "line", "sign", "more", "spot", "many", "done", "there"] ["text", "manner", "wide"] (defScope s_mend_of) := ⟨rfl, rfl, rfl, by decide +kernel, rfl, by decide +kernel, by decide +kernel⟩
abbrev s_far : Stmt := topS 47
theorem sc_far : FnScope ["text", "manner", "wide"] ["text", "manner", "wide"] (defScope s_far) := ⟨rfl, rfl, rfl, by decide +kernel, rfl, by decide +kernel, by decide +kernel⟩
abbrev s_is_even : Stmt := topS 31
theorem sc_is_even : FnScope ["rows", "row"] ["rows"] (defScope s_is_even) := ⟨rfl, rfl, rfl, by decide +kernel, rfl, by decide +kernel, by decide +kernel⟩
abbrev s_fitting_of : Stmt := topS 32
theorem sc_fitting_of : FnScope ["text", "found", "manner", "rows", "place"] ["text"] (defScope s_fitting_of) := ⟨rfl, rfl, rfl, by decide +kernel, rfl, by decide +kernel, by decide +kernel⟩
abbrev s_fitting : Stmt := topS 43
theorem sc_fitting : FnScope ["text"] ["text"] (defScope s_fitting) := ⟨rfl, rfl, rfl, by decide +kernel, rfl, by decide +kernel, by decide +kernel⟩
abbrev s_law : Stmt := topS 61
theorem sc_law : FnScope ["_law_script", "_law_by", "_law_text_here", "_law_one", "_law_other", "_law_there", "_law_at", "_law_manner_here", "_law_swapped_here", "_law_part", "_law_found", "_law_more", "_law_rows_here", "_law_row", "_law_cell", "_law_due"] ["_law_script"] (defScope s_law) := ⟨rfl, rfl, rfl, by decide +kernel, rfl, by decide +kernel, by decide +kernel⟩
abbrev k_Answer : Nat := 0
abbrev k_Table : Nat := 1
abbrev k_Broken : Nat := 2
def sub : Nat → Nat → Option Bool
  | 1, 0 => some true
  | 1, 1 => some true
  | 1, 2 => some false
  | 2, 0 => some true
  | 2, 1 => some false
  | 2, 2 => some true
  | _, _ => none
def zs_SIGNS : List Nat := [97, 98, 99, 100, 101, 102, 103, 104, 105, 106, 107, 108, 109, 110, 111, 112, 113, 114, 115, 116, 117, 118, 119, 120, 121, 122, 48, 49, 50, 51, 52, 53, 54, 55, 56, 57, 32, 44, 59, 124, 58, 34, 39, 92, 10]
def zs_az : List Nat := [97, 98, 99, 100, 101, 102, 103, 104, 105, 106, 107, 108, 109, 110, 111, 112, 113, 114, 115, 116, 117, 118, 119, 120, 121, 122, 48, 49, 50, 51, 52, 53, 54, 55, 56, 57]
def L__law_manners_1 : PL.Env → Option Out := (fSet 0 (fOp addD (fV 0) (fL (fLst (fCons (fTup (fCons (fV 1) (fCons (fV 2) (fCons (fC (.str [])) fNil)))) (fCons (fTup (fCons (fV 1) (fCons (fV 2) (fCons (fC (.str [92])) fNil)))) fNil))))))
def L__law_manners_2 : PL.Env → Option Out := (fFor (fItems (fTup (fCons (fC (.str [])) (fCons (fC (.str [34])) (fCons (fC (.str [39])) fNil))))) (tNm 2)
    L__law_manners_1)
def b__law_manners : PL.Env → Option Out := (fSeq (fSet 0 (fL (fLst fNil)))
    (fSeq (fFor (fItems (fTup (fCons (fC (.str [44])) (fCons (fC (.str [59])) (fCons (fC (.str [124])) (fCons (fC (.str [58])) fNil)))))) (tNm 1)
    L__law_manners_2)
    (fRet (fV 0))))
def r__law_manners : List Dt → Option Dt := runF 0 3 b__law_manners
def b__law_draw : PL.Env → Option Out := (fSeq (fSet 3 (fTup (fCons (fC (.int 1000003)) (fCons (fC (.int 1000033)) (fCons (fC (.int 1000037)) (fCons (fC (.int 1000039)) (fCons (fC (.int 1000081)) (fCons (fC (.int 1000099)) (fCons (fC (.int 1000117)) (fCons (fC (.int 1000121)) (fCons (fC (.int 1000133)) (fCons (fC (.int 1000151)) (fCons (fC (.int 1000159)) (fCons (fC (.int 1000171)) (fCons (fC (.int 1000183)) (fCons (fC (.int 1000187)) (fCons (fC (.int 1000193)) (fCons (fC (.int 1000199)) fNil))))))))))))))))))
    (fRet (fOp modD (fOp modD (fOp addD (fOp mulI (fV 0) (fC (.int 48271))) (fOp mulI (fV 1) (fC (.int 69621)))) (fOp ixD (fV 3) (fOp modD (fV 1) (fC (.int 16))))) (fV 2))))
def r__law_draw : List Dt → Option Dt := runF 3 1 b__law_draw
def b__law_number : PL.Env → Option Out := (fSeq (fIfS (asB (fOp geD (fV 0) (fOp powD (fC (.int 10)) (fC (.int 18))))) (fSeq (fSet 3 (fOp ixD (fTup (fCons (fC (.int 1)) (fCons (fC (.int 7)) (fCons (fC (.int 49)) (fCons (fC (.int 343)) (fCons (fC (.int 2401)) fNil)))))) (fOp modD (fV 1) (fC (.int 5)))))
    (fRet (fOp fdvD (fOp modD (fOp subD (fV 0) (fOp powD (fC (.int 10)) (fC (.int 18)))) (fOp mulI (fV 3) (fV 2))) (fV 3)))) fNext)
    (fSeq (fIfS (asB (fOp ltD (fV 0) (fUn fNeg (fOp powD (fC (.int 10)) (fC (.int 18)))))) (fSet 0 (fOp modD (fV 0) (fC (.int 1000811284336359577647248616306026718125307353262274591)))) fNext)
    (fRet (fOp modD (fCall r__law_draw (fCons (fOp mulI (fOp addD (fV 0) (fOp mulI (fC (.int 977)) (fV 1))) (fOp addD (fOp addD (fV 0) (fOp mulI (fC (.int 31)) (fV 1))) (fC (.int 5)))) (fCons (fOp addD (fOp modD (fV 1) (fC (.int 9))) (fC (.int 1))) (fCons (fC (.int 999983)) fNil)))) (fV 2)))))
def r__law_number : List Dt → Option Dt := runF 3 1 b__law_number
def b__law_cell_at : PL.Env → Option Out := (fSeq (fIfS (asB (fOp ltD (fV 1) (fCall lenD (fCons (fV 0) fNil)))) (fRet (fOp ixD (fV 0) (fV 1))) fNext)
    (fRet (fC (.int 0))))
def r__law_cell_at : List Dt → Option Dt := runF 2 0 b__law_cell_at
def b__law_manner : PL.Env → Option Out := (fRet (fOp ixD (fun _ => r__law_manners []) (fCall r__law_number (fCons (fCall r__law_cell_at (fCons (fV 0) (fCons (fV 1) fNil))) (fCons (fOp addD (fV 1) (fC (.int 7))) (fCons (fC (.int 24)) fNil))))))
def r__law_manner : List Dt → Option Dt := runF 2 0 b__law_manner
def b__law_plain : PL.Env → Option Out := (fRet (fAndV (fOp niD (fOp ixD (fV 1) (fC (.int 0))) (fV 0)) (fAndV (fOp niD (fC (.str [10])) (fV 0)) (fOrV (fOp eqD (fOp ixD (fV 1) (fC (.int 1))) (fC (.str []))) (fOp niD (fOp ixD (fV 1) (fC (.int 1))) (fV 0))))))
def r__law_plain : List Dt → Option Dt := runF 2 0 b__law_plain
def L__law_cell_text_1 : PL.Env → Option Out := (fIfS (fAnd (asB (fOp eqD (fV 3) (fC (.str [])))) (asB (fOp eqD (fV 6) (fC (.str [10]))))) (fSet 5 (fOp addD (fOp addD (fV 5) (fV 4)) (fC (.str [110])))) (fIfS (fAnd (asB (fOp eqD (fV 6) (fV 3))) (asB (fOp eqD (fV 4) (fC (.str []))))) (fSet 5 (fOp addD (fOp addD (fV 5) (fV 3)) (fV 3))) (fIfS (fOr (asB (fOp eqD (fV 6) (fV 4))) (asB (fOp eqD (fV 6) (fIf (asB (fOp eqD (fV 3) (fC (.str [])))) (fV 2) (fV 3))))) (fSet 5 (fOp addD (fOp addD (fV 5) (fV 4)) (fV 6))) (fSet 5 (fOp addD (fV 5) (fV 6))))))
def b__law_cell_text : PL.Env → Option Out := (fSeq (fAsg (tTp [2, 3, 4]) (fV 1))
    (fSeq (fIfS (fOr (fAnd (asB (fOp eqD (fV 3) (fC (.str [])))) (asB (fOp eqD (fV 4) (fC (.str []))))) (fAnd (asB (fOp neD (fV 3) (fC (.str [])))) (asB (fCall r__law_plain (fCons (fV 0) (fCons (fV 1) fNil)))))) (fRet (fIf (asB (fCall r__law_plain (fCons (fV 0) (fCons (fV 1) fNil)))) (fV 0) (fC .non))) fNext)
    (fSeq (fSet 5 (fV 3))
    (fSeq (fFor (fItems (fV 0)) (tNm 6)
    L__law_cell_text_1)
    (fRet (fOp addD (fV 5) (fV 3)))))))
def r__law_cell_text : List Dt → Option Dt := runF 2 5 b__law_cell_text
def L__law_write_1 : PL.Env → Option Out := (fSeq (fSet 4 (fL (fComp (fItems (fV 3)) 5 [5] fYes (fCall r__law_cell_text (fCons (fV 5) (fCons (fV 1) fNil))))))
    (fSeq (fIfS (asB (fOp inD (fC .non) (fV 4))) (fRet (fC .non)) fNext)
    (fSet 2 (fOp addD (fOp addD (fV 2) (fOp joinD (fOp ixD (fV 1) (fC (.int 0))) (fV 4))) (fC (.str [10]))))))
def b__law_write : PL.Env → Option Out := (fSeq (fSet 2 (fC (.str [])))
    (fSeq (fFor (fItems (fV 0)) (tNm 3)
    L__law_write_1)
    (fRet (fV 2))))
def r__law_write : List Dt → Option Dt := runF 2 4 b__law_write
def L__law_cells_1 : PL.Env → Option Out := (fSeq (fSet 10 (fCall r__law_number (fCons (fOp addD (fV 6) (fOp mulI (fC (.int 104729)) (fV 9))) (fCons (fOp addD (fOp addD (fOp addD (fV 1) (fV 5)) (fV 9)) (fC (.int 2))) (fCons (fC (.int 396)) fNil)))))
    (fSeq (fSet 11 (fOp ixD (fV 4) (fOp modD (fV 10) (fC (.int 11)))))
    (fSeq (fIfS (asB (fOp eqD (fV 11) (fC (.str [98])))) (fSet 11 (fOp ixD (fC (.str zs_az)) (fOp fdvD (fV 10) (fC (.int 11))))) fNext)
    (fSet 7 (fOp addD (fV 7) (fV 11))))))
def L__law_cells_2 : PL.Env → Option Out := (fSeq (fPar [6, 7] [.v (fOp addD (fCall r__law_cell_at (fCons (fV 0) (fCons (fOp addD (fV 1) (fV 5)) fNil))) (fOp mulI (fC (.int 13)) (fV 5))), .v (fC (.str []))])
    (fSeq (fSet 8 (fCall r__law_number (fCons (fV 6) (fCons (fOp addD (fV 1) (fV 5)) (fCons (fOp ixD (fTup (fCons (fC (.int 4)) (fCons (fC (.int 4)) (fCons (fC (.int 9)) (fCons (fC (.int 4)) fNil))))) (fCall r__law_number (fCons (fV 6) (fCons (fOp addD (fOp addD (fV 1) (fV 5)) (fC (.int 1))) (fCons (fC (.int 4)) fNil))))) fNil)))))
    (fSeq (fFor (fArgs rng1 (fCons (fV 8) fNil)) (tNm 9)
    L__law_cells_1)
    (fApp 3 (fV 7)))))
def b__law_cells : PL.Env → Option Out := (fSeq (fSetO 3 (fLst fNil))
    (fSeq (fSet 4 (fTup (fCons (fC (.str [97])) (fCons (fC (.str [98])) (fCons (fC (.str [110])) (fCons (fC (.str [32])) (fCons (fOp ixD (fV 2) (fC (.int 0))) (fCons (fOp ixD (fV 2) (fC (.int 1))) (fCons (fOp ixD (fV 2) (fC (.int 2))) (fCons (fC (.str [10])) (fCons (fC (.str [34])) (fCons (fC (.str [44])) (fCons (fC (.str [55])) fNil)))))))))))))
    (fSeq (fFor (fArgs rng1 (fCons (fC (.int 6)) fNil)) (tNm 5)
    L__law_cells_2)
    (fFrz 3 (fRet (fV 3))))))
def r__law_cells : List Dt → Option Dt := runF 3 9 b__law_cells
def L__law_rows_1 : PL.Env → Option Out := (fSeq (fSet 8 (fIf (asB (fOp eqD (fCall r__law_number (fCons (fV 3) (fCons (fOp addD (fV 1) (fC (.int 4))) (fCons (fC (.int 3)) fNil)))) (fC (.int 0)))) (fCall r__law_number (fCons (fV 3) (fCons (fOp addD (fOp addD (fV 1) (fV 7)) (fC (.int 3))) (fCons (fC (.int 4)) fNil)))) (fC (.int 0))))
    (fApp 4 (fSlice (fCall r__law_cells (fCons (fV 0) (fCons (fOp addD (fV 1) (fV 7)) (fCons (fV 2) fNil)))) oNo (oSo (fCall maxD (fCons (fC (.int 1)) (fCons (fOp subD (fV 5) (fV 8)) fNil)))))))
def b__law_rows : PL.Env → Option Out := (fSeq (fPar [3, 4] [.v (fCall r__law_cell_at (fCons (fV 0) (fCons (fV 1) fNil))), .o (fLst fNil)])
    (fSeq (fPar [5, 6] [.v (fOp addD (fC (.int 1)) (fCall r__law_number (fCons (fV 3) (fCons (fOp addD (fV 1) (fC (.int 1))) (fCons (fC (.int 4)) fNil))))), .v (fCall r__law_number (fCons (fV 3) (fCons (fOp addD (fV 1) (fC (.int 2))) (fCons (fC (.int 5)) fNil))))])
    (fSeq (fIfS (asB (fOp eqD (fCall r__law_number (fCons (fV 3) (fCons (fOp addD (fV 1) (fC (.int 9))) (fCons (fC (.int 16)) fNil)))) (fC (.int 0)))) (fPar [5, 6] [.v (fC (.int 6)), .v (fC (.int 12))]) fNext)
    (fSeq (fFor (fArgs rng1 (fCons (fV 6) fNil)) (tNm 7)
    L__law_rows_1)
    (fFrz 4 (fRet (fV 4)))))))
def r__law_rows : List Dt → Option Dt := runF 3 6 b__law_rows
def L__law_text_1 : PL.Env → Option Out := (fSet 4 (fOp addD (fV 4) (fOp ixD (fV 6) (fCall r__law_number (fCons (fCall r__law_cell_at (fCons (fV 0) (fCons (fOp addD (fV 1) (fV 7)) fNil))) (fCons (fV 7) (fCons (fC (.int 10)) fNil)))))))
def L__law_text_2 : PL.Env → Option Out := (fSeq (fSet 9 (fCall r__law_number (fCons (fV 5) (fCons (fOp addD (fOp addD (fV 1) (fV 8)) (fC (.int 9))) (fCons (fOp addD (fCall lenD (fCons (fV 4) fNil)) (fC (.int 1))) fNil)))))
    (fSeq (fSet 10 (fOp ixD (fTup (fCons (fC (.str [])) (fCons (fC (.str [10])) (fCons (fC (.str [34])) (fCons (fC (.str [92])) (fCons (fC (.str [44])) (fCons (fC (.str [97])) fNil))))))) (fCall r__law_number (fCons (fV 5) (fCons (fOp addD (fOp addD (fV 1) (fV 8)) (fC (.int 11))) (fCons (fC (.int 6)) fNil))))))
    (fSeq (fSet 11 (fIf (fAnd (asB (fOp neD (fV 10) (fC (.str [])))) (asB (fOp eqD (fV 8) (fC (.int 0))))) (fV 9) (fOp addD (fV 9) (fC (.int 1)))))
    (fSet 4 (fOp addD (fOp addD (fSlice (fV 4) oNo (oSo (fV 9))) (fV 10)) (fSlice (fV 4) (oSo (fV 11)) oNo))))))
def b__law_text : PL.Env → Option Out := (fSeq (fSet 3 (fCall r__law_manner (fCons (fV 0) (fCons (fV 1) fNil))))
    (fSeq (fSet 4 (fCall r__law_write (fCons (fCall r__law_rows (fCons (fV 0) (fCons (fV 1) (fCons (fV 3) fNil)))) (fCons (fV 3) fNil))))
    (fSeq (fSet 5 (fCall r__law_cell_at (fCons (fV 0) (fCons (fV 1) fNil))))
    (fSeq (fIfS (fOr (asB (fOp isD (fV 4) (fC .non))) (asB (fOp eqD (fCall r__law_number (fCons (fV 5) (fCons (fOp addD (fV 1) (fC (.int 5))) (fCons (fC (.int 5)) fNil)))) (fC (.int 0))))) (fSeq (fPar [4, 6] [.v (fC (.str [])), .v (fTup (fCons (fC (.str [97])) (fCons (fC (.str [110])) (fCons (fC (.str [44])) (fCons (fC (.str [59])) (fCons (fC (.str [34])) (fCons (fC (.str [39])) (fCons (fC (.str [92])) (fCons (fC (.str [10])) (fCons (fC (.str [10])) (fCons (fC (.str [124])) fNil)))))))))))])
    (fFor (fArgs rng1 (fCons (fCall r__law_number (fCons (fV 5) (fCons (fOp addD (fV 1) (fC (.int 6))) (fCons (fC (.int 14)) fNil)))) fNil)) (tNm 7)
    L__law_text_1)) fNext)
    (fSeq (fFor (fArgs rng1 (fCons (fCall r__law_number (fCons (fV 5) (fCons (fOp addD (fV 1) (fC (.int 8))) (fCons (fC (.int 3)) fNil)))) fNil)) (tNm 8)
    L__law_text_2)
    (fRet (fSlice (fV 4) oNo (oSo (fV 2)))))))))
def r__law_text : List Dt → Option Dt := runF 3 9 b__law_text
def L__law_swapped_1 : PL.Env → Option Out := (fSet 3 (fOp addD (fV 3) (fIf (asB (fOp eqD (fV 4) (fV 1))) (fV 2) (fIf (asB (fOp eqD (fV 4) (fV 2))) (fV 1) (fV 4)))))
def b__law_swapped : PL.Env → Option Out := (fSeq (fSet 3 (fC (.str [])))
    (fSeq (fFor (fItems (fV 0)) (tNm 4)
    L__law_swapped_1)
    (fRet (fV 3))))
def r__law_swapped : List Dt → Option Dt := runF 3 2 b__law_swapped
def b_Table_init : PL.Env → Option (List Dt) := (fun r => ((fL (fComp (fItems (fV 1)) 2 [2] fYes (fL (fListO (fV 2))))) r).bind fun d => ((fun _ => some []) r).map fun ds => d :: ds)
def i_Table : List Dt → Option (List Dt) := initF 1 1 b_Table_init
def b_Broken_init : PL.Env → Option (List Dt) := (fun r => ((fV 1) r).bind fun d => ((fun _ => some []) r).map fun ds => d :: ds)
def i_Broken : List Dt → Option (List Dt) := initF 1 0 b_Broken_init
def b_is_signs : PL.Env → Option Out := (fRet (fAndV (fCall (isiD sub) (fCons (fV 0) (fCons (fC (.ty "str")) fNil))) (fAndV (fOp leD (fCall lenD (fCons (fV 0) fNil)) (fV 1)) (fCall allD (fCons (fL (fComp (fItems (fV 0)) 2 [2] fYes (fOp inD (fV 2) (fC (.str zs_SIGNS))))) fNil)))))
def r_is_signs : List Dt → Option Dt := runF 2 1 b_is_signs
def b_check_text : PL.Env → Option Out := (fIfS (fNot (asB (fCall r_is_signs (fCons (fV 0) (fCons (fC (.int 200)) fNil))))) fNever fNext)
def r_check_text : List Dt → Option Dt := runF 1 0 b_check_text
def L_all_manners_1 : PL.Env → Option Out := (fExt 0 (fL (fComp (fItems (fC (.tup [(.str []), (.str [92])]))) 3 [3] fYes (fTup (fCons (fV 1) (fCons (fV 2) (fCons (fV 3) fNil)))))))
def L_all_manners_2 : PL.Env → Option Out := (fFor (fItems (fC (.tup [(.str []), (.str [34]), (.str [39])]))) (tNm 2)
    L_all_manners_1)
def b_all_manners : PL.Env → Option Out := (fSeq (fSetO 0 (fLst fNil))
    (fSeq (fFor (fItems (fC (.tup [(.str [44]), (.str [59]), (.str [124]), (.str [58])]))) (tNm 1)
    L_all_manners_2)
    (fFrz 0 (fRet (fV 0)))))
def r_all_manners : List Dt → Option Dt := runF 0 4 b_all_manners
def b_check_manner : PL.Env → Option Out := (fSeq (fIfS (fOr (fNot (asB (fCall (isiD sub) (fCons (fV 0) (fCons (fC (.ty "tuple")) fNil))))) (fOr (asB (fOp neD (fCall lenD (fCons (fV 0) fNil)) (fC (.int 3)))) (fNot (asB (fCall allD (fCons (fL (fComp (fItems (fV 0)) 1 [1] fYes (fCall (isiD sub) (fCons (fV 1) (fCons (fC (.ty "str")) fNil))))) fNil)))))) fNever fNext)
    (fIfS (asB (fOp niD (fV 0) (fun _ => r_all_manners []))) fNever fNext))
def r_check_manner : List Dt → Option Dt := runF 1 1 b_check_manner
def b_moved : PL.Env → Option Out := (fSeq (fAsg (tTp [3, 4, 5]) (fV 0))
    (fSeq (fIfS (asB (fOp eqD (fV 1) (fC (.int 5)))) (fSeq (fIfS (asB (fOp eqD (fV 4) (fC (.str [])))) (fRet (fIf (asB (fOp inD (fV 2) (fTup (fCons (fV 3) (fCons (fV 5) (fCons (fC (.str [110])) fNil)))))) (fC (.int 2)) (fC .non))) fNext)
    (fRet (fIf (asB (fOp inD (fV 2) (fTup (fCons (fV 4) (fCons (fV 5) fNil))))) (fC (.int 3)) (fC .non)))) fNext)
    (fSeq (fIfS (asB (fOp eqD (fV 1) (fC (.int 3)))) (fSeq (fIfS (asB (fOp eqD (fV 2) (fV 4))) (fRet (fC (.int 4))) fNext)
    (fRet (fIf (asB (fOp eqD (fV 2) (fV 5))) (fC (.int 5)) (fC (.int 3))))) fNext)
    (fSeq (fIfS (asB (fOp eqD (fV 2) (fC (.str [10])))) (fRet (fC (.int 0))) fNext)
    (fSeq (fIfS (asB (fOp eqD (fV 2) (fV 3))) (fRet (fC (.int 1))) fNext)
    (fSeq (fIfS (asB (fOp eqD (fV 1) (fC (.int 4)))) (fRet (fIf (fAnd (asB (fOp eqD (fV 2) (fV 4))) (asB (fOp eqD (fV 5) (fC (.str []))))) (fC (.int 3)) (fC .non))) fNext)
    (fSeq (fIfS (fAnd (asB (fOp eqD (fV 4) (fC (.str [])))) (asB (fOp eqD (fV 2) (fV 5)))) (fRet (fC (.int 5))) fNext)
    (fSeq (fIfS (asB (fOp eqD (fV 2) (fV 4))) (fRet (fIf (asB (fOp inD (fV 1) (fTup (fCons (fC (.int 0)) (fCons (fC (.int 1)) fNil))))) (fC (.int 3)) (fC .non))) fNext)
    (fRet (fC (.int 2)))))))))))
def r_moved : List Dt → Option Dt := runF 3 3 b_moved
def b_sign_told : PL.Env → Option Out := (fSeq (fIfS (asB (fOp eqD (fV 1) (fC (.int 5)))) (fRet (fIf (asB (fOp eqD (fV 3) (fC (.str [110])))) (fC (.str [10])) (fV 3))) fNext)
    (fSeq (fIfS (asB (fOp inD (fV 2) (fTup (fCons (fC (.int 0)) (fCons (fC (.int 1)) (fCons (fC (.int 4)) (fCons (fC (.int 5)) fNil))))))) (fRet (fC (.str []))) fNext)
    (fRet (fIf (fAnd (asB (fOp eqD (fV 2) (fC (.int 3)))) (asB (fOp inD (fV 1) (fTup (fCons (fC (.int 0)) (fCons (fC (.int 1)) fNil)))))) (fC (.str [])) (fV 3)))))
def r_sign_told : List Dt → Option Dt := runF 4 0 b_sign_told
def L_read_of_1 : PL.Env → Option Out := (fSeq (fSet 8 (fCall r_moved (fCons (fV 1) (fCons (fV 5) (fCons (fV 7) fNil)))))
    (fSeq (fIfS (asB (fOp isD (fV 8) (fC .non))) (fRet (fTup (fCons (fL (fLst fNil)) (fCons (fV 6) fNil)))) fNext)
    (fSeq (fSet 4 (fOp addD (fV 4) (fCall r_sign_told (fCons (fV 1) (fCons (fV 5) (fCons (fV 8) (fCons (fV 7) fNil)))))))
    (fSeq (fIfS (asB (fOp inD (fV 8) (fTup (fCons (fC (.int 0)) (fCons (fC (.int 1)) fNil))))) (fSeq (fApp 3 (fV 4))
    (fSet 4 (fC (.str [])))) fNext)
    (fSeq (fIfS (asB (fOp eqD (fV 8) (fC (.int 0)))) (fSeq (fFrz 3 (fApp 2 (fV 3)))
    (fSetO 3 (fLst fNil))) fNext)
    (fSet 5 (fV 8)))))))
def b_read_of : PL.Env → Option Out := (fSeq (fPar [2, 3, 4, 5] [.o (fLst fNil), .o (fLst fNil), .v (fC (.str [])), .v (fC (.int 0))])
    (fSeq (fFor (fArgs enumD (fCons (fV 0) fNil)) (tTp [6, 7])
    L_read_of_1)
    (fFrz 2 (fRet (fIf (asB (fOp eqD (fV 5) (fC (.int 0)))) (fTup (fCons (fV 2) (fCons (fUn fNeg (fC (.int 1))) fNil))) (fTup (fCons (fL (fLst fNil)) (fCons (fCall lenD (fCons (fV 0) fNil)) fNil))))))))
def r_read_of : List Dt → Option Dt := runF 2 7 b_read_of
def b_read : PL.Env → Option Out := (fSeq (fDrop (fCall r_check_text (fCons (fV 0) fNil)))
    (fSeq (fDrop (fCall r_check_manner (fCons (fV 1) fNil)))
    (fSeq (fAsg (tTp [2, 3]) (fCall r_read_of (fCons (fV 0) (fCons (fV 1) fNil))))
    (fRet (fIf (asB (fOp ltD (fV 3) (fC (.int 0)))) (fMake 1 i_Table (fCons (fV 2) fNil)) (fMake 2 i_Broken (fCons (fV 3) fNil)))))))
def r_read : List Dt → Option Dt := runF 2 2 b_read
def b_is_whole : PL.Env → Option Out := (fRet (fAndV (fCall (isiD sub) (fCons (fV 0) (fCons (fC (.ty "int")) fNil))) (fUn fNotV (fCall (isiD sub) (fCons (fV 0) (fCons (fC (.ty "bool")) fNil))))))
def r_is_whole : List Dt → Option Dt := runF 1 0 b_is_whole
def b_check_wide : PL.Env → Option Out := (fIfS (fOr (fNot (asB (fCall r_is_whole (fCons (fV 0) fNil)))) (fNot (asB (fChain leD leD (fC (.int 1)) (fV 0) (fC (.int 6)))))) fNever fNext)
def r_check_wide : List Dt → Option Dt := runF 1 0 b_check_wide
def b_check_all : PL.Env → Option Out := (fSeq (fDrop (fCall r_check_text (fCons (fV 0) fNil)))
    (fSeq (fDrop (fCall r_check_manner (fCons (fV 1) fNil)))
    (fSeq (fDrop (fCall r_check_wide (fCons (fV 2) fNil)))
    (fIfS (asB (fOp gtD (fCall lenD (fCons (fV 0) fNil)) (fC (.int 16)))) fNever fNext))))
def r_check_all : List Dt → Option Dt := runF 3 0 b_check_all
def b_gone : PL.Env → Option Out := (fSeq (fSet 4 (fCall r_moved (fCons (fV 0) (fCons (fOp ixD (fV 2) (fC (.int 0))) (fCons (fV 3) fNil)))))
    (fSeq (fIfS (asB (fOp eqD (fV 4) (fC (.int 0)))) (fRet (fIf (asB (fOp eqD (fOp ixD (fV 2) (fC (.int 1))) (fOp subD (fV 1) (fC (.int 1))))) (fTup (fCons (fC (.int 0)) (fCons (fC (.int 0)) fNil))) (fC .non))) fNext)
    (fSeq (fIfS (asB (fOp eqD (fV 4) (fC (.int 1)))) (fRet (fIf (asB (fOp ltD (fOp addD (fOp ixD (fV 2) (fC (.int 1))) (fC (.int 1))) (fV 1))) (fTup (fCons (fC (.int 1)) (fCons (fOp addD (fOp ixD (fV 2) (fC (.int 1))) (fC (.int 1))) fNil))) (fC .non))) fNext)
    (fRet (fIf (asB (fOp isD (fV 4) (fC .non))) (fC .non) (fTup (fCons (fV 4) (fCons (fOp ixD (fV 2) (fC (.int 1))) fNil))))))))
def r_gone : List Dt → Option Dt := runF 4 1 b_gone
def b_put_ins : PL.Env → Option Out := (fRet (fOp addD (fL (fComp (fItems (fV 0)) 1 [1] (asB (fOp neD (fV 1) (fC (.str [])))) (fV 1))) (fL (fLst (fCons (fC (.str [10])) (fCons (fC (.str [110])) fNil))))))
def r_put_ins : List Dt → Option Dt := runF 1 1 b_put_ins
def L_widened_1 : PL.Env → Option Out := (fSeq (fSet 6 (fCall r_gone (fCons (fV 0) (fCons (fV 1) (fCons (fV 4) (fCons (fV 5) fNil))))))
    (fIfS (fAnd (asB (fOp isnD (fV 6) (fC .non))) (fOr (fDIn false (fV 6) (fV 2)) (asB (fOp gtD (fOp ixD (fOp dgD (fV 2) (fV 6)) (fC (.int 0))) (fOp addD (fOp ixD (fOp dgD (fV 2) (fV 4)) (fC (.int 0))) (fC (.int 1))))))) (fSeq (fDPut 2 (fV 6) (fFrzT (fTup (fCons (fOp addD (fOp ixD (fOp dgD (fV 2) (fV 4)) (fC (.int 0))) (fC (.int 1))) (fCons (fOp addD (fOp ixD (fOp dgD (fV 2) (fV 4)) (fC (.int 1))) (fV 5)) fNil)))))
    (fApp 3 (fV 6))) fNext))
def L_widened_2 : PL.Env → Option Out := (fSeq (fPopAt 4 3 (fC (.int 0)))
    (fFor (fItems (fCall r_put_ins (fCons (fV 0) fNil))) (tNm 5)
    L_widened_1))
def bd_widened : PL.Env → Option OT := (fSeqU (fSetO 3 (fListD 2))
    (fSeqU (whileF (asB (fOp neD (fV 3) (fL (fLst fNil)))) L_widened_2 100000)
    (fun r => gT r 2)))
def rd_widened : List Dt → List (Int × Int) → List Dt → Option OT := runD 2 4 bd_widened
def L_mend_of_1 : PL.Env → Option Out := (fSeq (fAsg (tTp [7, 8]) (fOp dgD (fV 3) (fV 6)))
    (fSeq (fIfS (fOr (fDIn false (fV 6) (fV 5)) (asB (fOp gtD (fOp ixD (fOp dgD (fV 5) (fV 6)) (fC (.int 0))) (fOp addD (fV 7) (fC (.int 1)))))) (fDPut 5 (fV 6) (fTup (fCons (fOp addD (fV 7) (fC (.int 1))) (fCons (fV 8) fNil)))) fNext)
    (fSeq (fSet 9 (fCall r_gone (fCons (fV 1) (fCons (fV 2) (fCons (fV 6) (fCons (fV 4) fNil))))))
    (fIfS (fAnd (asB (fOp isnD (fV 9) (fC .non))) (fOr (fDIn false (fV 9) (fV 5)) (asB (fOp gtD (fOp ixD (fOp dgD (fV 5) (fV 9)) (fC (.int 0))) (fV 7))))) (fDPut 5 (fV 9) (fTup (fCons (fV 7) (fCons (fOp addD (fV 8) (fV 4)) fNil)))) fNext))))
def L_mend_of_2 : PL.Env → Option Out := (fSeq (fSetU 5 (fun _ => some (.dic [] [])))
    (fSeq (fForD 3 (tNm 6) L_mend_of_1)
    (fCallN 3 5 rd_widened (fV 1) (fV 2))))
def b_mend_of : PL.Env → Option Out := (fSeq (fCallU 3 rd_widened (fV 1) (fV 2) (uDic1 (fTup (fCons (fC (.int 0)) (fCons (fC (.int 0)) fNil))) (fTup (fCons (fC (.int 0)) (fCons (fC (.str [])) fNil)))))
    (fSeq (fFor (fItems (fV 0)) (tNm 4)
    L_mend_of_2)
    (fRet (fOp dgD (fV 3) (fTup (fCons (fC (.int 0)) (fCons (fC (.int 0)) fNil)))))))
def r_mend_of : List Dt → Option Dt := runF 3 7 b_mend_of
def b_far : PL.Env → Option Out := (fSeq (fDrop (fCall r_check_all (fCons (fV 0) (fCons (fV 1) (fCons (fV 2) fNil)))))
    (fRet (fOp ixD (fCall r_mend_of (fCons (fV 0) (fCons (fV 1) (fCons (fV 2) fNil)))) (fC (.int 0)))))
def r_far : List Dt → Option Dt := runF 3 0 b_far
def b_is_even : PL.Env → Option Out := (fRet (fAndV (fOp neD (fV 0) (fL (fLst fNil))) (fAndV (fOp gtD (fCall lenD (fCons (fOp ixD (fV 0) (fC (.int 0))) fNil)) (fC (.int 1))) (fCall allD (fCons (fL (fComp (fItems (fV 0)) 1 [1] fYes (fOp eqD (fCall lenD (fCons (fV 1) fNil)) (fCall lenD (fCons (fOp ixD (fV 0) (fC (.int 0))) fNil))))) fNil)))))
def r_is_even : List Dt → Option Dt := runF 1 1 b_is_even
def L_fitting_of_1 : PL.Env → Option Out := (fSeq (fAsg (tTp [3, 4]) (fCall r_read_of (fCons (fV 0) (fCons (fV 2) fNil))))
    (fIfS (fAnd (asB (fOp ltD (fV 4) (fC (.int 0)))) (asB (fCall r_is_even (fCons (fV 3) fNil)))) (fApp 1 (fV 2)) fNext))
def b_fitting_of : PL.Env → Option Out := (fSeq (fSetO 1 (fLst fNil))
    (fSeq (fFor (fItems (fun _ => r_all_manners [])) (tNm 2)
    L_fitting_of_1)
    (fFrz 1 (fRet (fV 1)))))
def r_fitting_of : List Dt → Option Dt := runF 1 4 b_fitting_of
def b_fitting : PL.Env → Option Out := (fSeq (fDrop (fCall r_check_text (fCons (fV 0) fNil)))
    (fRet (fCall r_fitting_of (fCons (fV 0) fNil))))
def r_fitting : List Dt → Option Dt := runF 1 0 b_fitting
def L_law_1 : PL.Env → Option Out := (fSeq (fSet 7 (fCall r__law_manner (fCons (fV 0) (fCons (fOp addD (fV 1) (fV 6)) fNil))))
    (fSeq (fSet 8 (fCall tupleD (fCons (fL (fComp (fItems (fV 7)) 9 [9] fYes (fCall r__law_swapped (fCons (fV 9) (fCons (fV 3) (fCons (fV 4) fNil)))))) fNil)))
    (fSeq (fPar [10, 11] [.v (fCall r_read (fCons (fV 2) (fCons (fV 7) fNil))), .v (fCall r_read (fCons (fV 5) (fCons (fV 8) fNil)))])
    (fSeq (fIfS (asB (fOp neD (fCall (isiD sub) (fCons (fV 10) (fCons (fC (.cls 2)) fNil))) (fCall (isiD sub) (fCons (fV 11) (fCons (fC (.cls 2)) fNil))))) (fRet (fC (.bl false))) fNext)
    (fSeq (fIfS (fAnd (asB (fCall (isiD sub) (fCons (fV 10) (fCons (fC (.cls 2)) fNil)))) (asB (fOp neD (fUn (fldD 2 0) (fV 10)) (fUn (fldD 2 0) (fV 11))))) (fRet (fC (.bl false))) fNext)
    (fSeq (fIfS (asB (fCall (isiD sub) (fCons (fV 10) (fCons (fC (.cls 1)) fNil)))) (fSeq (fSet 12 (fL (fComp (fItems (fUn (fldD 1 0) (fV 10))) 13 [13] fYes (fL (fComp (fItems (fV 13)) 14 [14] fYes (fCall r__law_swapped (fCons (fV 14) (fCons (fV 3) (fCons (fV 4) fNil)))))))))
    (fIfS (asB (fOp neD (fUn (fldD 1 0) (fV 11)) (fV 12))) (fRet (fC (.bl false))) fNext)) fNext)
    (fIfS (asB (fOp neD (fCall r_far (fCons (fSlice (fV 2) oNo (oSo (fC (.int 12)))) (fCons (fV 7) (fCons (fC (.int 2)) fNil)))) (fCall r_far (fCons (fSlice (fV 5) oNo (oSo (fC (.int 12)))) (fCons (fV 8) (fCons (fC (.int 2)) fNil)))))) (fRet (fC (.bl false))) fNext)))))))
def L_law_2 : PL.Env → Option Out := (fSeq (fSet 5 (fCall r__law_swapped (fCons (fV 2) (fCons (fV 3) (fCons (fV 4) fNil)))))
    (fSeq (fFor (fArgs rng1 (fCons (fC (.int 3)) fNil)) (tNm 6)
    L_law_1)
    (fSeq (fSet 15 (fCall sortD (fCons (fL (fComp (fItems (fCall r_fitting (fCons (fV 2) fNil))) 7 [7] fYes (fCall tupleD (fCons (fL (fComp (fItems (fV 7)) 9 [9] fYes (fCall r__law_swapped (fCons (fV 9) (fCons (fV 3) (fCons (fV 4) fNil)))))) fNil)))) fNil)))
    (fIfS (asB (fOp neD (fCall sortD (fCons (fCall r_fitting (fCons (fV 5) fNil)) fNil)) (fV 15))) (fRet (fC (.bl false))) fNext))))
def L_law_3 : PL.Env → Option Out := (fSeq (fSet 2 (fCall r__law_text (fCons (fV 0) (fCons (fV 1) (fCons (fC (.int 50)) fNil)))))
    (fFor (fItems (fL (fLst (fCons (fTup (fCons (fC (.str [44])) (fCons (fC (.str [59])) fNil))) (fCons (fTup (fCons (fC (.str [124])) (fCons (fC (.str [58])) fNil))) (fCons (fTup (fCons (fC (.str [34])) (fCons (fC (.str [39])) fNil))) fNil)))))) (tTp [3, 4])
    L_law_2))
def b_law : PL.Env → Option Out := (fSeq (fFor (fArgs rng3 (fCons (fC (.int 0)) (fCons (fCall maxD (fCons (fC (.int 1)) (fCons (fCall minD (fCons (fC (.int 9)) (fCons (fCall lenD (fCons (fV 0) fNil)) fNil))) fNil))) (fCons (fC (.int 3)) fNil)))) (tNm 1)
    L_law_3)
    (fRet (fOp eqD (fUn (fldD 1 0) (fCall r_read (fCons (fC (.str [97, 59, 98, 10])) (fCons (fTup (fCons (fC (.str [59])) (fCons (fC (.str [])) (fCons (fC (.str [])) fNil)))) fNil)))) (fUn (fldD 1 0) (fCall r_read (fCons (fC (.str [97, 44, 98, 10])) (fCons (fTup (fCons (fC (.str [44])) (fCons (fC (.str [])) (fCons (fC (.str [])) fNil)))) fNil)))))))
def r_law : List Dt → Option Dt := runF 1 15 b_law
structure Txt (K : PySem.W.Frag) (mg : Str → Option Value) (T : CT) : Prop where
  n_all : mg "all" = none
  n_bool : mg "bool" = none
  n_enumerate : mg "enumerate" = none
  n_int : mg "int" = none
  n_isinstance : mg "isinstance" = none
  n_len : mg "len" = none
  n_list : mg "list" = none
  n_max : mg "max" = none
  n_min : mg "min" = none
  n_range : mg "range" = none
  n_sorted : mg "sorted" = none
  n_str : mg "str" = none
  n_tuple : mg "tuple" = none
  g_AFTER : GlobIs K T mg "AFTER" (.int 4)
  g_BARE : GlobIs K T mg "BARE" (.int 2)
  g_CELL : GlobIs K T mg "CELL" (.int 1)
  g_ESCAPED : GlobIs K T mg "ESCAPED" (.int 5)
  g_ESCAPES : GlobIs K T mg "ESCAPES" (.tup [(.str []), (.str [92])])
  g_LONGEST_manners : GlobIs K T mg "LONGEST_manners" (.int 200)
  g_LONGEST_mending : GlobIs K T mg "LONGEST_mending" (.int 16)
  g_MARKS : GlobIs K T mg "MARKS" (.tup [(.str [44]), (.str [59]), (.str [124]), (.str [58])])
  g_MOST_CELLS : GlobIs K T mg "MOST_CELLS" (.int 6)
  g_QUOTED : GlobIs K T mg "QUOTED" (.int 3)
  g_QUOTES : GlobIs K T mg "QUOTES" (.tup [(.str []), (.str [34]), (.str [39])])
  g_ROW : GlobIs K T mg "ROW" (.int 0)
  g_SIGNS : GlobIs K T mg "SIGNS" (.str zs_SIGNS)
  mg_Answer : mg "Answer" = some (.ref (T 0).1)
  mg_Table : mg "Table" = some (.ref (T 1).1)
  mg_Broken : mg "Broken" = some (.ref (T 2).1)
  cl_Table : Cls K (T 1).1
  nm_Table : (T 1).2 = (["rows"] : List Str)
  na_Table_rows : NoAttr K (T 1).1 "rows"
  cl_Broken : Cls K (T 2).1
  nm_Broken : (T 2).2 = (["place"] : List Str)
  na_Broken_place : NoAttr K (T 2).1 "place"
  cls : ClsOk K T sub
section
variable {P : Program} {w : World} {K : PySem.W.Frag} {mg : Str → Option Value} {base : Heap} {T : CT}
theorem ok__law_manners {f : Addr} {fd : FuncData} (F : Fun K "_law_manners" "_law_manners" s__law_manners f fd) (Tx : Txt K mg T) : FnOk P w K mg base CX0 1 f fd [] (spF K T 0 r__law_manners) :=
  okF (k := 0) (m := 3) F sc__law_manners rfl (fun cdv A os s H E hr =>
    (dss_cons (ds_set 0 sc__law_manners.nd (de_l (dl_lst da_nil)))
    (dss_cons (ds_for PassesOwn.never rfl (di_seq (de_tup (da_cons (de_str [44]) (da_cons (de_str [59]) (da_cons (de_str [124]) (da_cons (de_str [58]) da_nil)))))) (dg_name 1 sc__law_manners.nd)
    (dss_one (ds_for PassesOwn.never rfl (di_seq (de_tup (da_cons (de_str []) (da_cons (de_str [34]) (da_cons (de_str [39]) da_nil))))) (dg_name 2 sc__law_manners.nd)
    (dss_one (ds_set 0 sc__law_manners.nd (de_bin bd_add (de_var 0) (de_l (dl_lst (da_cons (de_tup (da_cons (de_var 1) (da_cons (de_var 2) (da_cons (de_str []) da_nil)))) (da_cons (de_tup (da_cons (de_var 1) (da_cons (de_var 2) (da_cons (de_str [92]) da_nil)))) da_nil))))))))))
    (dss_one (ds_ret (de_var 0))))))
theorem ok__law_draw {f : Addr} {fd : FuncData} (F : Fun K "_law_draw" "_law_draw" s__law_draw f fd) (Tx : Txt K mg T) : FnOk P w K mg base CX0 1 f fd ["_law_cell", "_law_k", "_law_most"] (spF K T 3 r__law_draw) :=
  okF (k := 0) (m := 1) F sc__law_draw rfl (fun cdv A os s H E hr =>
    (dss_cons (ds_set 3 sc__law_draw.nd (de_tup (da_cons de_int (da_cons de_int (da_cons de_int (da_cons de_int (da_cons de_int (da_cons de_int (da_cons de_int (da_cons de_int (da_cons de_int (da_cons de_int (da_cons de_int (da_cons de_int (da_cons de_int (da_cons de_int (da_cons de_int (da_cons de_int da_nil))))))))))))))))))
    (dss_one (ds_ret (de_bin bd_mod (de_bin bd_mod (de_bin bd_add (de_bin bd_mulI (de_var 0) de_int) (de_bin bd_mulI (de_var 1) de_int)) (de_ix ixd (de_var 3) (de_bin bd_mod (de_var 1) de_int))) (de_var 2))))))
theorem ok__law_number {f : Addr} {fd : FuncData} (F : Fun K "_law_number" "_law_number" s__law_number f fd) (Tx : Txt K mg T) (C__law_draw : Callee P w K mg base T 1 "_law_draw" r__law_draw) : FnOk P w K mg base CX0 2 f fd ["_law_cell", "_law_k", "_law_limit"] (spF K T 3 r__law_number) :=
  okF (k := 1) (m := 1) F sc__law_number rfl (fun cdv A os s H E hr =>
    (dss_cons (ds_if (dt_cmp bd_ge (de_var 0) (de_bin bd_pow de_int de_int)) (dss_cons (ds_set 3 sc__law_number.nd (de_ix ixd (de_tup (da_cons de_int (da_cons de_int (da_cons de_int (da_cons de_int (da_cons de_int da_nil)))))) (de_bin bd_mod (de_var 1) de_int)))
    (dss_one (ds_ret (de_bin bd_fdv (de_bin bd_mod (de_bin bd_sub (de_var 0) (de_bin bd_pow de_int de_int)) (de_bin bd_mulI (de_var 3) (de_var 2))) (de_var 3))))) dss_nil)
    (dss_cons (ds_if (dt_cmp bd_lt (de_var 0) (de_neg (de_bin bd_pow de_int de_int))) (dss_one (ds_set 0 sc__law_number.nd (de_bin bd_mod (de_var 0) de_int))) dss_nil)
    (dss_one (ds_ret (de_bin bd_mod (de_call C__law_draw (hr.mono (by decide)) (da_cons (de_bin bd_mulI (de_bin bd_add (de_var 0) (de_bin bd_mulI de_int (de_var 1))) (de_bin bd_add (de_bin bd_add (de_var 0) (de_bin bd_mulI de_int (de_var 1))) de_int)) (da_cons (de_bin bd_add (de_bin bd_mod (de_var 1) de_int) de_int) (da_cons de_int da_nil)))) (de_var 2)))))))
theorem ok__law_cell_at {f : Addr} {fd : FuncData} (F : Fun K "_law_cell_at" "_law_cell_at" s__law_cell_at f fd) (Tx : Txt K mg T) : FnOk P w K mg base CX0 1 f fd ["_law_script", "_law_k"] (spF K T 2 r__law_cell_at) :=
  okF (k := 0) (m := 0) F sc__law_cell_at rfl (fun cdv A os s H E hr =>
    (dss_cons (ds_if (dt_cmp bd_lt (de_var 1) (de_callB cal_len Tx.n_len (da_cons (de_var 0) da_nil))) (dss_one (ds_ret (de_ix ixd (de_var 0) (de_var 1)))) dss_nil)
    (dss_one (ds_ret de_int))))
theorem ok__law_manner {f : Addr} {fd : FuncData} (F : Fun K "_law_manner" "_law_manner" s__law_manner f fd) (Tx : Txt K mg T) (C__law_manners : Callee P w K mg base T 1 "_law_manners" r__law_manners) (C__law_number : Callee P w K mg base T 2 "_law_number" r__law_number) (C__law_cell_at : Callee P w K mg base T 1 "_law_cell_at" r__law_cell_at) : FnOk P w K mg base CX0 3 f fd ["_law_script", "_law_by"] (spF K T 2 r__law_manner) :=
  okF (k := 2) (m := 0) F sc__law_manner rfl (fun cdv A os s H E hr =>
    (dss_one (ds_ret (de_ix ixd (de_call0 C__law_manners (hr.mono (by decide))) (de_call C__law_number (hr.mono (by decide)) (da_cons (de_call C__law_cell_at (hr.mono (by decide)) (da_cons (de_var 0) (da_cons (de_var 1) da_nil))) (da_cons (de_bin bd_add (de_var 1) de_int) (da_cons de_int da_nil))))))))
theorem ok__law_plain {f : Addr} {fd : FuncData} (F : Fun K "_law_plain" "_law_plain" s__law_plain f fd) (Tx : Txt K mg T) : FnOk P w K mg base CX0 1 f fd ["_law_cell", "_law_manner_here"] (spF K T 2 r__law_plain) :=
  okF (k := 0) (m := 0) F sc__law_plain rfl (fun cdv A os s H E hr =>
    (dss_one (ds_ret (de_and (de_cmp (bd_ni (room65 hr)) (de_ix ixd (de_var 1) de_int) (de_var 0)) (de_and (de_cmp (bd_ni (room65 hr)) (de_str [10]) (de_var 0)) (de_one (de_or (de_cmp (bd_eq hr.units) (de_ix ixd (de_var 1) de_int) (de_str [])) (de_one (de_cmp (bd_ni (room65 hr)) (de_ix ixd (de_var 1) de_int) (de_var 0))))))))))
theorem ok__law_cell_text {f : Addr} {fd : FuncData} (F : Fun K "_law_cell_text" "_law_cell_text" s__law_cell_text f fd) (Tx : Txt K mg T) (C__law_plain : Callee P w K mg base T 1 "_law_plain" r__law_plain) : FnOk P w K mg base CX0 2 f fd ["_law_cell", "_law_manner_here"] (spF K T 2 r__law_cell_text) :=
  okF (k := 1) (m := 5) F sc__law_cell_text rfl (fun cdv A os s H E hr =>
    (dss_cons (ds_asg (dg_tup rfl (dgs_cons 2 sc__law_cell_text.nd (dgs_cons 3 sc__law_cell_text.nd (dgs_cons 4 sc__law_cell_text.nd dgs_nil)))) (de_var 1))
    (dss_cons (ds_if (dt_w (dw_or (dt_w (dw_and (dt_cmp (bd_eq hr.units) (de_var 3) (de_str [])) (dw_and1 (dt_cmp (bd_eq hr.units) (de_var 4) (de_str []))))) (dw_or1 (dt_w (dw_and (dt_cmp (bd_ne hr.units) (de_var 3) (de_str [])) (dw_and1 (dt_val (de_call C__law_plain (hr.mono (by decide)) (da_cons (de_var 0) (da_cons (de_var 1) da_nil)))))))))) (dss_one (ds_ret (de_if (dt_val (de_call C__law_plain (hr.mono (by decide)) (da_cons (de_var 0) (da_cons (de_var 1) da_nil)))) (de_var 0) de_non))) dss_nil)
    (dss_cons (ds_set 5 sc__law_cell_text.nd (de_var 3))
    (dss_cons (ds_for PassesOwn.never rfl (di_seq (de_var 0)) (dg_name 6 sc__law_cell_text.nd)
    (dss_one (ds_if (dt_w (dw_and (dt_cmp (bd_eq hr.units) (de_var 3) (de_str [])) (dw_and1 (dt_cmp (bd_eq hr.units) (de_var 6) (de_str [10]))))) (dss_one (ds_set 5 sc__law_cell_text.nd (de_bin bd_add (de_bin bd_add (de_var 5) (de_var 4)) (de_str [110])))) (dss_one (ds_if (dt_w (dw_and (dt_cmp (bd_eq hr.units) (de_var 6) (de_var 3)) (dw_and1 (dt_cmp (bd_eq hr.units) (de_var 4) (de_str []))))) (dss_one (ds_set 5 sc__law_cell_text.nd (de_bin bd_add (de_bin bd_add (de_var 5) (de_var 3)) (de_var 3)))) (dss_one (ds_if (dt_w (dw_or (dt_cmp (bd_eq hr.units) (de_var 6) (de_var 4)) (dw_or1 (dt_cmp (bd_eq hr.units) (de_var 6) (de_if (dt_cmp (bd_eq hr.units) (de_var 3) (de_str [])) (de_var 2) (de_var 3)))))) (dss_one (ds_set 5 sc__law_cell_text.nd (de_bin bd_add (de_bin bd_add (de_var 5) (de_var 4)) (de_var 6)))) (dss_one (ds_set 5 sc__law_cell_text.nd (de_bin bd_add (de_var 5) (de_var 6)))))))))))
    (dss_one (ds_ret (de_bin bd_add (de_var 5) (de_var 3)))))))))
theorem ok__law_write {f : Addr} {fd : FuncData} (F : Fun K "_law_write" "_law_write" s__law_write f fd) (Tx : Txt K mg T) (C__law_cell_text : Callee P w K mg base T 2 "_law_cell_text" r__law_cell_text) : FnOk P w K mg base CX0 3 f fd ["_law_rows_here", "_law_manner_here"] (spF K T 2 r__law_write) :=
  okF (k := 2) (m := 4) F sc__law_write rfl (fun cdv A os s H E hr =>
    (dss_cons (ds_set 2 sc__law_write.nd (de_str []))
    (dss_cons (ds_for PassesOwn.never rfl (di_seq (de_var 0)) (dg_name 3 sc__law_write.nd)
    (dss_cons (ds_setLc 4 (own := [("_law_cell", 5)]) rfl sc__law_write.nd (di_seq (de_var 3)) (blkOk_by (N := ["_law_rows_here", "_law_manner_here", "_law_found", "_law_row", "_law_cells_here", "_law_cell"]) (sc := defScope s__law_write) (by decide +kernel)) (by decide) (fun s0 H0 C0 cl0 fp0 => pg_name (i := 5) sc__law_write.nd rfl (Or.inl rfl)) (fun s0 H0 C0 cl0 fp0 => dts_nil) (fun s0 H0 C0 cl0 fp0 => (de_call C__law_cell_text (hr.mono (by decide)) (da_cons (de_var 5) (da_cons (de_var 1) da_nil)))) (hsw := sw_true rfl rfl rfl (by decide +kernel)))
    (dss_cons (ds_if (dt_cmp (bd_in (room65 hr)) de_non (de_var 4)) (dss_one (ds_ret de_non)) dss_nil)
    (dss_one (ds_set 2 sc__law_write.nd (de_bin bd_add (de_bin bd_add (de_var 2) (de_join (de_ix ixd (de_var 1) de_int) (de_var 4))) (de_str [10])))))))
    (dss_one (ds_ret (de_var 2))))))
theorem ok__law_cells {f : Addr} {fd : FuncData} (F : Fun K "_law_cells" "_law_cells" s__law_cells f fd) (Tx : Txt K mg T) (C__law_cell_at : Callee P w K mg base T 1 "_law_cell_at" r__law_cell_at) (C__law_number : Callee P w K mg base T 2 "_law_number" r__law_number) : FnOk P w K mg base CX0 3 f fd ["_law_script", "_law_by", "_law_manner_here"] (spF K T 3 r__law_cells) :=
  okF (k := 2) (m := 9) F sc__law_cells rfl (fun cdv A os s H E hr =>
    (dss_cons (ds_setO 3 sc__law_cells.nd (dl_lst da_nil))
    (dss_cons (ds_set 4 sc__law_cells.nd (de_tup (da_cons (de_str [97]) (da_cons (de_str [98]) (da_cons (de_str [110]) (da_cons (de_str [32]) (da_cons (de_ix ixd (de_var 2) de_int) (da_cons (de_ix ixd (de_var 2) de_int) (da_cons (de_ix ixd (de_var 2) de_int) (da_cons (de_str [10]) (da_cons (de_str [34]) (da_cons (de_str [44]) (da_cons (de_str [55]) da_nil)))))))))))))
    (dss_cons (ds_for PassesOwn.never rfl (di_range1 Tx.n_range (da_cons de_int da_nil)) (dg_name 5 sc__law_cells.nd)
    (dss_cons (ds_par2 6 7 rfl sc__law_cells.nd (dm_v (de_bin bd_add (de_call C__law_cell_at (hr.mono (by decide)) (da_cons (de_var 0) (da_cons (de_bin bd_add (de_var 1) (de_var 5)) da_nil))) (de_bin bd_mulI de_int (de_var 5))) (dm_v (de_str []) dm_nil)) (by decide))
    (dss_cons (ds_set 8 sc__law_cells.nd (de_call C__law_number (hr.mono (by decide)) (da_cons (de_var 6) (da_cons (de_bin bd_add (de_var 1) (de_var 5)) (da_cons (de_ix ixd (de_tup (da_cons de_int (da_cons de_int (da_cons de_int (da_cons de_int da_nil))))) (de_call C__law_number (hr.mono (by decide)) (da_cons (de_var 6) (da_cons (de_bin bd_add (de_bin bd_add (de_var 1) (de_var 5)) de_int) (da_cons de_int da_nil))))) da_nil)))))
    (dss_cons (ds_for PassesOwn.never rfl (di_range1 Tx.n_range (da_cons (de_var 8) da_nil)) (dg_name 9 sc__law_cells.nd)
    (dss_cons (ds_set 10 sc__law_cells.nd (de_call C__law_number (hr.mono (by decide)) (da_cons (de_bin bd_add (de_var 6) (de_bin bd_mulI de_int (de_var 9))) (da_cons (de_bin bd_add (de_bin bd_add (de_bin bd_add (de_var 1) (de_var 5)) (de_var 9)) de_int) (da_cons de_int da_nil)))))
    (dss_cons (ds_set 11 sc__law_cells.nd (de_ix ixd (de_var 4) (de_bin bd_mod (de_var 10) de_int)))
    (dss_cons (ds_if (dt_cmp (bd_eq hr.units) (de_var 11) (de_str [98])) (dss_one (ds_set 11 sc__law_cells.nd (de_ix ixd (de_str zs_az) (de_bin bd_fdv (de_var 10) de_int)))) dss_nil)
    (dss_one (ds_set 7 sc__law_cells.nd (de_bin bd_add (de_var 7) (de_var 11))))))))
    (dss_one (ds_app 3 (de_var 7)))))))
    (dss_one (ds_frz 3 (ds_ret (de_var 3))))))))
theorem ok__law_rows {f : Addr} {fd : FuncData} (F : Fun K "_law_rows" "_law_rows" s__law_rows f fd) (Tx : Txt K mg T) (C__law_cell_at : Callee P w K mg base T 1 "_law_cell_at" r__law_cell_at) (C__law_number : Callee P w K mg base T 2 "_law_number" r__law_number) (C__law_cells : Callee P w K mg base T 3 "_law_cells" r__law_cells) : FnOk P w K mg base CX0 4 f fd ["_law_script", "_law_by", "_law_manner_here"] (spF K T 3 r__law_rows) :=
  okF (k := 3) (m := 6) F sc__law_rows rfl (fun cdv A os s H E hr =>
    (dss_cons (ds_par2 3 4 rfl sc__law_rows.nd (dm_v (de_call C__law_cell_at (hr.mono (by decide)) (da_cons (de_var 0) (da_cons (de_var 1) da_nil))) (dm_o (dl_lst da_nil) dm_nil)) (by decide))
    (dss_cons (ds_par2 5 6 rfl sc__law_rows.nd (dm_v (de_bin bd_add de_int (de_call C__law_number (hr.mono (by decide)) (da_cons (de_var 3) (da_cons (de_bin bd_add (de_var 1) de_int) (da_cons de_int da_nil))))) (dm_v (de_call C__law_number (hr.mono (by decide)) (da_cons (de_var 3) (da_cons (de_bin bd_add (de_var 1) de_int) (da_cons de_int da_nil)))) dm_nil)) (by decide))
    (dss_cons (ds_if (dt_cmp (bd_eq hr.units) (de_call C__law_number (hr.mono (by decide)) (da_cons (de_var 3) (da_cons (de_bin bd_add (de_var 1) de_int) (da_cons de_int da_nil)))) de_int) (dss_one (ds_parN rfl (dps_cons 5 sc__law_rows.nd (dps_cons 6 sc__law_rows.nd dps_nil)) (dm_v de_int (dm_v de_int dm_nil)))) dss_nil)
    (dss_cons (ds_for PassesOwn.never rfl (di_range1 Tx.n_range (da_cons (de_var 6) da_nil)) (dg_name 7 sc__law_rows.nd)
    (dss_cons (ds_set 8 sc__law_rows.nd (de_if (dt_cmp (bd_eq hr.units) (de_call C__law_number (hr.mono (by decide)) (da_cons (de_var 3) (da_cons (de_bin bd_add (de_var 1) de_int) (da_cons de_int da_nil)))) de_int) (de_call C__law_number (hr.mono (by decide)) (da_cons (de_var 3) (da_cons (de_bin bd_add (de_bin bd_add (de_var 1) (de_var 7)) de_int) (da_cons de_int da_nil)))) de_int))
    (dss_one (ds_app 4 (de_slice (de_call C__law_cells (hr.mono (by decide)) (da_cons (de_var 0) (da_cons (de_bin bd_add (de_var 1) (de_var 7)) (da_cons (de_var 2) da_nil)))) do_none (do_some (de_callB (cal_max rfl) Tx.n_max (da_cons de_int (da_cons (de_bin bd_sub (de_var 5) (de_var 8)) da_nil)))))))))
    (dss_one (ds_frz 4 (ds_ret (de_var 4)))))))))
theorem ok__law_text {f : Addr} {fd : FuncData} (F : Fun K "_law_text" "_law_text" s__law_text f fd) (Tx : Txt K mg T) (C__law_manner : Callee P w K mg base T 3 "_law_manner" r__law_manner) (C__law_write : Callee P w K mg base T 3 "_law_write" r__law_write) (C__law_rows : Callee P w K mg base T 4 "_law_rows" r__law_rows) (C__law_cell_at : Callee P w K mg base T 1 "_law_cell_at" r__law_cell_at) (C__law_number : Callee P w K mg base T 2 "_law_number" r__law_number) : FnOk P w K mg base CX0 5 f fd ["_law_script", "_law_by", "_law_most"] (spF K T 3 r__law_text) :=
  okF (k := 4) (m := 9) F sc__law_text rfl (fun cdv A os s H E hr =>
    (dss_cons (ds_set 3 sc__law_text.nd (de_call C__law_manner (hr.mono (by decide)) (da_cons (de_var 0) (da_cons (de_var 1) da_nil))))
    (dss_cons (ds_set 4 sc__law_text.nd (de_call C__law_write (hr.mono (by decide)) (da_cons (de_call C__law_rows (hr.mono (by decide)) (da_cons (de_var 0) (da_cons (de_var 1) (da_cons (de_var 3) da_nil)))) (da_cons (de_var 3) da_nil))))
    (dss_cons (ds_set 5 sc__law_text.nd (de_call C__law_cell_at (hr.mono (by decide)) (da_cons (de_var 0) (da_cons (de_var 1) da_nil))))
    (dss_cons (ds_if (dt_w (dw_or (dt_cmp bd_is (de_var 4) de_non) (dw_or1 (dt_cmp (bd_eq hr.units) (de_call C__law_number (hr.mono (by decide)) (da_cons (de_var 5) (da_cons (de_bin bd_add (de_var 1) de_int) (da_cons de_int da_nil)))) de_int)))) (dss_cons (ds_parN rfl (dps_cons 4 sc__law_text.nd (dps_cons 6 sc__law_text.nd dps_nil)) (dm_v (de_str []) (dm_v (de_tup (da_cons (de_str [97]) (da_cons (de_str [110]) (da_cons (de_str [44]) (da_cons (de_str [59]) (da_cons (de_str [34]) (da_cons (de_str [39]) (da_cons (de_str [92]) (da_cons (de_str [10]) (da_cons (de_str [10]) (da_cons (de_str [124]) da_nil))))))))))) dm_nil)))
    (dss_one (ds_for PassesOwn.never rfl (di_range1 Tx.n_range (da_cons (de_call C__law_number (hr.mono (by decide)) (da_cons (de_var 5) (da_cons (de_bin bd_add (de_var 1) de_int) (da_cons de_int da_nil)))) da_nil)) (dg_name 7 sc__law_text.nd)
    (dss_one (ds_set 4 sc__law_text.nd (de_bin bd_add (de_var 4) (de_ix ixd (de_var 6) (de_call C__law_number (hr.mono (by decide)) (da_cons (de_call C__law_cell_at (hr.mono (by decide)) (da_cons (de_var 0) (da_cons (de_bin bd_add (de_var 1) (de_var 7)) da_nil))) (da_cons (de_var 7) (da_cons de_int da_nil))))))))))) dss_nil)
    (dss_cons (ds_for PassesOwn.never rfl (di_range1 Tx.n_range (da_cons (de_call C__law_number (hr.mono (by decide)) (da_cons (de_var 5) (da_cons (de_bin bd_add (de_var 1) de_int) (da_cons de_int da_nil)))) da_nil)) (dg_name 8 sc__law_text.nd)
    (dss_cons (ds_set 9 sc__law_text.nd (de_call C__law_number (hr.mono (by decide)) (da_cons (de_var 5) (da_cons (de_bin bd_add (de_bin bd_add (de_var 1) (de_var 8)) de_int) (da_cons (de_bin bd_add (de_callB cal_len Tx.n_len (da_cons (de_var 4) da_nil)) de_int) da_nil)))))
    (dss_cons (ds_set 10 sc__law_text.nd (de_ix ixd (de_tup (da_cons (de_str []) (da_cons (de_str [10]) (da_cons (de_str [34]) (da_cons (de_str [92]) (da_cons (de_str [44]) (da_cons (de_str [97]) da_nil))))))) (de_call C__law_number (hr.mono (by decide)) (da_cons (de_var 5) (da_cons (de_bin bd_add (de_bin bd_add (de_var 1) (de_var 8)) de_int) (da_cons de_int da_nil))))))
    (dss_cons (ds_set 11 sc__law_text.nd (de_if (dt_w (dw_and (dt_cmp (bd_ne hr.units) (de_var 10) (de_str [])) (dw_and1 (dt_cmp (bd_eq hr.units) (de_var 8) de_int)))) (de_var 9) (de_bin bd_add (de_var 9) de_int)))
    (dss_one (ds_set 4 sc__law_text.nd (de_bin bd_add (de_bin bd_add (de_slice (de_var 4) do_none (do_some (de_var 9))) (de_var 10)) (de_slice (de_var 4) (do_some (de_var 11)) do_none))))))))
    (dss_one (ds_ret (de_slice (de_var 4) do_none (do_some (de_var 2)))))))))))
theorem ok__law_swapped {f : Addr} {fd : FuncData} (F : Fun K "_law_swapped" "_law_swapped" s__law_swapped f fd) (Tx : Txt K mg T) : FnOk P w K mg base CX0 1 f fd ["_law_text_here", "_law_one", "_law_other"] (spF K T 3 r__law_swapped) :=
  okF (k := 0) (m := 2) F sc__law_swapped rfl (fun cdv A os s H E hr =>
    (dss_cons (ds_set 3 sc__law_swapped.nd (de_str []))
    (dss_cons (ds_for PassesOwn.never rfl (di_seq (de_var 0)) (dg_name 4 sc__law_swapped.nd)
    (dss_one (ds_set 3 sc__law_swapped.nd (de_bin bd_add (de_var 3) (de_if (dt_cmp (bd_eq hr.units) (de_var 4) (de_var 1)) (de_var 2) (de_if (dt_cmp (bd_eq hr.units) (de_var 4) (de_var 2)) (de_var 1) (de_var 4)))))))
    (dss_one (ds_ret (de_var 3))))))
theorem ok_Table_init {f : Addr} {fd : FuncData} (F : Fun K "__init__" "Table.__init__" s_Table_init f fd) (Tx : Txt K mg T) : FnOk P w K mg base CX0 1 f fd ["self", "rows"] (spI K T 1 1 i_Table) := by
  refine okI (k := 0) (m := 1) F sc_Table_init rfl rfl (by rw [Tx.nm_Table]; decide +kernel) (by rw [Tx.nm_Table]; decide) (fun cdv A os s H E hr => ?_)
  rw [Tx.nm_Table]
  exact (din_cons Tx.cl_Table Tx.na_Table_rows (de_l (dl_lc (own := [("row", 2)]) rfl sc_Table_init.nd (di_seq (de_var 1)) (blkOk_by (N := ["self", "rows", "row"]) (sc := defScope s_Table_init) (by decide +kernel)) (by decide) (fun s0 H0 C0 cl0 fp0 => pg_name (i := 2) sc_Table_init.nd rfl (Or.inl rfl)) (fun s0 H0 C0 cl0 fp0 => dts_nil) (fun s0 H0 C0 cl0 fp0 => (de_l (dl_list Tx.n_list (de_var 2)))))) din_nil)
theorem ok_Broken_init {f : Addr} {fd : FuncData} (F : Fun K "__init__" "Broken.__init__" s_Broken_init f fd) (Tx : Txt K mg T) : FnOk P w K mg base CX0 1 f fd ["self", "place"] (spI K T 2 1 i_Broken) := by
  refine okI (k := 0) (m := 0) F sc_Broken_init rfl rfl (by rw [Tx.nm_Broken]; decide +kernel) (by rw [Tx.nm_Broken]; decide) (fun cdv A os s H E hr => ?_)
  rw [Tx.nm_Broken]
  exact (din_cons Tx.cl_Broken Tx.na_Broken_place (de_var 1) din_nil)
theorem ok_is_signs {f : Addr} {fd : FuncData} (F : Fun K "is_signs" "is_signs" s_is_signs f fd) (Tx : Txt K mg T) : FnOk P w K mg base CX0 1 f fd ["thing", "most"] (spF K T 2 r_is_signs) :=
  okF (k := 0) (m := 1) F sc_is_signs rfl (fun cdv A os s H E hr =>
    (dss_one (ds_ret (de_and (de_callB (cal_isi Tx.cls) Tx.n_isinstance (da_cons (de_var 0) (da_cons (de_ty Tx.n_str) da_nil))) (de_and (de_cmp bd_le (de_callB cal_len Tx.n_len (da_cons (de_var 0) da_nil)) (de_var 1)) (de_one (de_callB (cal_all rfl) Tx.n_all (da_cons (de_l (dl_lc (own := [("sign", 2)]) rfl sc_is_signs.nd (di_seq (de_var 0)) (blkOk_by (N := ["thing", "most", "sign"]) (sc := defScope s_is_signs) (by decide +kernel)) (by decide) (fun s0 H0 C0 cl0 fp0 => pg_name (i := 2) sc_is_signs.nd rfl (Or.inl rfl)) (fun s0 H0 C0 cl0 fp0 => dts_nil) (fun s0 H0 C0 cl0 fp0 => (de_cmp (bd_in (room65 hr)) (de_var 2) (de_gl Tx.g_SIGNS))))) da_nil))))))))
theorem ok_check_text {f : Addr} {fd : FuncData} (F : Fun K "check_text" "check_text" s_check_text f fd) (Tx : Txt K mg T) (C_is_signs : Callee P w K mg base T 1 "is_signs" r_is_signs) : FnOk P w K mg base CX0 2 f fd ["text"] (spF K T 1 r_check_text) :=
  okF (k := 1) (m := 0) F sc_check_text rfl (fun cdv A os s H E hr =>
    (dss_one (ds_if (dt_not (dt_val (de_call C_is_signs (hr.mono (by decide)) (da_cons (de_var 0) (da_cons (de_gl Tx.g_LONGEST_manners) da_nil))))) (dss_one ds_never) dss_nil)))
theorem ok_all_manners {f : Addr} {fd : FuncData} (F : Fun K "all_manners" "all_manners" s_all_manners f fd) (Tx : Txt K mg T) : FnOk P w K mg base CX0 1 f fd [] (spF K T 0 r_all_manners) :=
  okF (k := 0) (m := 4) F sc_all_manners rfl (fun cdv A os s H E hr =>
    (dss_cons (ds_setO 0 sc_all_manners.nd (dl_lst da_nil))
    (dss_cons (ds_for PassesOwn.never rfl (di_seq (de_gl Tx.g_MARKS)) (dg_name 1 sc_all_manners.nd)
    (dss_one (ds_for PassesOwn.never rfl (di_seq (de_gl Tx.g_QUOTES)) (dg_name 2 sc_all_manners.nd)
    (dss_one (ds_ext 0 (de_l (dl_lc (own := [("escape", 3)]) rfl sc_all_manners.nd (di_seq (de_gl Tx.g_ESCAPES)) (blkOk_by (N := ["found", "mark", "quote", "escape"]) (sc := defScope s_all_manners) (by decide +kernel)) (by decide) (fun s0 H0 C0 cl0 fp0 => pg_name (i := 3) sc_all_manners.nd rfl (Or.inl rfl)) (fun s0 H0 C0 cl0 fp0 => dts_nil) (fun s0 H0 C0 cl0 fp0 => (de_tup (da_cons (de_var 1) (da_cons (de_var 2) (da_cons (de_var 3) da_nil))))))))))))
    (dss_one (ds_frz 0 (ds_ret (de_var 0)))))))
theorem ok_check_manner {f : Addr} {fd : FuncData} (F : Fun K "check_manner" "check_manner" s_check_manner f fd) (Tx : Txt K mg T) (C_all_manners : Callee P w K mg base T 1 "all_manners" r_all_manners) : FnOk P w K mg base CX0 2 f fd ["manner"] (spF K T 1 r_check_manner) :=
  okF (k := 1) (m := 1) F sc_check_manner rfl (fun cdv A os s H E hr =>
    (dss_cons (ds_if (dt_w (dw_or (dt_not (dt_val (de_callB (cal_isi Tx.cls) Tx.n_isinstance (da_cons (de_var 0) (da_cons (de_ty Tx.n_tuple) da_nil))))) (dw_or (dt_cmp (bd_ne hr.units) (de_callB cal_len Tx.n_len (da_cons (de_var 0) da_nil)) de_int) (dw_or1 (dt_not (dt_val (de_callB (cal_all rfl) Tx.n_all (da_cons (de_l (dl_lc (own := [("part", 1)]) rfl sc_check_manner.nd (di_seq (de_var 0)) (blkOk_by (N := ["manner", "part"]) (sc := defScope s_check_manner) (by decide +kernel)) (by decide) (fun s0 H0 C0 cl0 fp0 => pg_name (i := 1) sc_check_manner.nd rfl (Or.inl rfl)) (fun s0 H0 C0 cl0 fp0 => dts_nil) (fun s0 H0 C0 cl0 fp0 => (de_callB (cal_isi Tx.cls) Tx.n_isinstance (da_cons (de_var 1) (da_cons (de_ty Tx.n_str) da_nil)))))) da_nil)))))))) (dss_one ds_never) dss_nil)
    (dss_one (ds_if (dt_cmp (bd_ni (room65 hr)) (de_var 0) (de_call0 C_all_manners (hr.mono (by decide)))) (dss_one ds_never) dss_nil))))
theorem ok_moved {f : Addr} {fd : FuncData} (F : Fun K "moved" "moved" s_moved f fd) (Tx : Txt K mg T) : FnOk P w K mg base CX0 1 f fd ["manner", "state", "sign"] (spF K T 3 r_moved) :=
  okF (k := 0) (m := 3) F sc_moved rfl (fun cdv A os s H E hr =>
    (dss_cons (ds_asg (dg_tup rfl (dgs_cons 3 sc_moved.nd (dgs_cons 4 sc_moved.nd (dgs_cons 5 sc_moved.nd dgs_nil)))) (de_var 0))
    (dss_cons (ds_if (dt_cmp (bd_eq hr.units) (de_var 1) (de_gl Tx.g_ESCAPED)) (dss_cons (ds_if (dt_cmp (bd_eq hr.units) (de_var 4) (de_str [])) (dss_one (ds_ret (de_if (dt_cmp (bd_in (room65 hr)) (de_var 2) (de_tup (da_cons (de_var 3) (da_cons (de_var 5) (da_cons (de_str [110]) da_nil))))) (de_gl Tx.g_BARE) de_non))) dss_nil)
    (dss_one (ds_ret (de_if (dt_cmp (bd_in (room65 hr)) (de_var 2) (de_tup (da_cons (de_var 4) (da_cons (de_var 5) da_nil)))) (de_gl Tx.g_QUOTED) de_non)))) dss_nil)
    (dss_cons (ds_if (dt_cmp (bd_eq hr.units) (de_var 1) (de_gl Tx.g_QUOTED)) (dss_cons (ds_if (dt_cmp (bd_eq hr.units) (de_var 2) (de_var 4)) (dss_one (ds_ret (de_gl Tx.g_AFTER))) dss_nil)
    (dss_one (ds_ret (de_if (dt_cmp (bd_eq hr.units) (de_var 2) (de_var 5)) (de_gl Tx.g_ESCAPED) (de_gl Tx.g_QUOTED))))) dss_nil)
    (dss_cons (ds_if (dt_cmp (bd_eq hr.units) (de_var 2) (de_str [10])) (dss_one (ds_ret (de_gl Tx.g_ROW))) dss_nil)
    (dss_cons (ds_if (dt_cmp (bd_eq hr.units) (de_var 2) (de_var 3)) (dss_one (ds_ret (de_gl Tx.g_CELL))) dss_nil)
    (dss_cons (ds_if (dt_cmp (bd_eq hr.units) (de_var 1) (de_gl Tx.g_AFTER)) (dss_one (ds_ret (de_if (dt_w (dw_and (dt_cmp (bd_eq hr.units) (de_var 2) (de_var 4)) (dw_and1 (dt_cmp (bd_eq hr.units) (de_var 5) (de_str []))))) (de_gl Tx.g_QUOTED) de_non))) dss_nil)
    (dss_cons (ds_if (dt_w (dw_and (dt_cmp (bd_eq hr.units) (de_var 4) (de_str [])) (dw_and1 (dt_cmp (bd_eq hr.units) (de_var 2) (de_var 5))))) (dss_one (ds_ret (de_gl Tx.g_ESCAPED))) dss_nil)
    (dss_cons (ds_if (dt_cmp (bd_eq hr.units) (de_var 2) (de_var 4)) (dss_one (ds_ret (de_if (dt_cmp (bd_in (room65 hr)) (de_var 1) (de_tup (da_cons (de_gl Tx.g_ROW) (da_cons (de_gl Tx.g_CELL) da_nil)))) (de_gl Tx.g_QUOTED) de_non))) dss_nil)
    (dss_one (ds_ret (de_gl Tx.g_BARE))))))))))))
theorem ok_sign_told {f : Addr} {fd : FuncData} (F : Fun K "sign_told" "sign_told" s_sign_told f fd) (Tx : Txt K mg T) : FnOk P w K mg base CX0 1 f fd ["manner", "state", "then", "sign"] (spF K T 4 r_sign_told) :=
  okF (k := 0) (m := 0) F sc_sign_told rfl (fun cdv A os s H E hr =>
    (dss_cons (ds_if (dt_cmp (bd_eq hr.units) (de_var 1) (de_gl Tx.g_ESCAPED)) (dss_one (ds_ret (de_if (dt_cmp (bd_eq hr.units) (de_var 3) (de_str [110])) (de_str [10]) (de_var 3)))) dss_nil)
    (dss_cons (ds_if (dt_cmp (bd_in (room65 hr)) (de_var 2) (de_tup (da_cons (de_gl Tx.g_ROW) (da_cons (de_gl Tx.g_CELL) (da_cons (de_gl Tx.g_AFTER) (da_cons (de_gl Tx.g_ESCAPED) da_nil)))))) (dss_one (ds_ret (de_str []))) dss_nil)
    (dss_one (ds_ret (de_if (dt_w (dw_and (dt_cmp (bd_eq hr.units) (de_var 2) (de_gl Tx.g_QUOTED)) (dw_and1 (dt_cmp (bd_in (room65 hr)) (de_var 1) (de_tup (da_cons (de_gl Tx.g_ROW) (da_cons (de_gl Tx.g_CELL) da_nil))))))) (de_str []) (de_var 3)))))))
theorem ok_read_of {f : Addr} {fd : FuncData} (F : Fun K "read_of" "read_of" s_read_of f fd) (Tx : Txt K mg T) (C_moved : Callee P w K mg base T 1 "moved" r_moved) (C_sign_told : Callee P w K mg base T 1 "sign_told" r_sign_told) : FnOk P w K mg base CX0 2 f fd ["text", "manner"] (spF K T 2 r_read_of) :=
  okF (k := 1) (m := 7) F sc_read_of rfl (fun cdv A os s H E hr =>
    (dss_cons (ds_parN rfl (dps_cons 2 sc_read_of.nd (dps_cons 3 sc_read_of.nd (dps_cons 4 sc_read_of.nd (dps_cons 5 sc_read_of.nd dps_nil)))) (dm_o (dl_lst da_nil) (dm_o (dl_lst da_nil) (dm_v (de_str []) (dm_v (de_gl Tx.g_ROW) dm_nil)))))
    (dss_cons (ds_for PassesOwn.never rfl (di_enum Tx.n_enumerate (da_cons (de_var 0) da_nil)) (dg_tup rfl (dgs_cons 6 sc_read_of.nd (dgs_cons 7 sc_read_of.nd dgs_nil)))
    (dss_cons (ds_set 8 sc_read_of.nd (de_call C_moved (hr.mono (by decide)) (da_cons (de_var 1) (da_cons (de_var 5) (da_cons (de_var 7) da_nil)))))
    (dss_cons (ds_if (dt_cmp bd_is (de_var 8) de_non) (dss_one (ds_ret (de_tup (da_cons (de_l (dl_lst da_nil)) (da_cons (de_var 6) da_nil))))) dss_nil)
    (dss_cons (ds_set 4 sc_read_of.nd (de_bin bd_add (de_var 4) (de_call C_sign_told (hr.mono (by decide)) (da_cons (de_var 1) (da_cons (de_var 5) (da_cons (de_var 8) (da_cons (de_var 7) da_nil)))))))
    (dss_cons (ds_if (dt_cmp (bd_in (room65 hr)) (de_var 8) (de_tup (da_cons (de_gl Tx.g_ROW) (da_cons (de_gl Tx.g_CELL) da_nil)))) (dss_cons (ds_app 3 (de_var 4))
    (dss_one (ds_set 4 sc_read_of.nd (de_str [])))) dss_nil)
    (dss_cons (ds_if (dt_cmp (bd_eq hr.units) (de_var 8) (de_gl Tx.g_ROW)) (dss_cons (ds_frz 3 (ds_app 2 (de_var 3)))
    (dss_one (ds_setO 3 sc_read_of.nd (dl_lst da_nil)))) dss_nil)
    (dss_one (ds_set 5 sc_read_of.nd (de_var 8)))))))))
    (dss_one (ds_frz 2 (ds_ret (de_if (dt_cmp (bd_eq hr.units) (de_var 5) (de_gl Tx.g_ROW)) (de_tup (da_cons (de_var 2) (da_cons (de_neg de_int) da_nil))) (de_tup (da_cons (de_l (dl_lst da_nil)) (da_cons (de_callB cal_len Tx.n_len (da_cons (de_var 0) da_nil)) da_nil))))))))))
theorem ok_read {f : Addr} {fd : FuncData} (F : Fun K "read" "read" s_read f fd) (Tx : Txt K mg T) (M_Table : MakeOk P w K mg base T 1 1 "Table" i_Table) (M_Broken : MakeOk P w K mg base T 1 2 "Broken" i_Broken) (C_check_text : Callee P w K mg base T 2 "check_text" r_check_text) (C_check_manner : Callee P w K mg base T 2 "check_manner" r_check_manner) (C_read_of : Callee P w K mg base T 2 "read_of" r_read_of) : FnOk P w K mg base CX0 3 f fd ["text", "manner"] (spF K T 2 r_read) :=
  okF (k := 2) (m := 2) F sc_read rfl (fun cdv A os s H E hr =>
    (dss_cons (ds_expr (de_call C_check_text (hr.mono (by decide)) (da_cons (de_var 0) da_nil)))
    (dss_cons (ds_expr (de_call C_check_manner (hr.mono (by decide)) (da_cons (de_var 1) da_nil)))
    (dss_cons (ds_asg (dg_tup rfl (dgs_cons 2 sc_read.nd (dgs_cons 3 sc_read.nd dgs_nil))) (de_call C_read_of (hr.mono (by decide)) (da_cons (de_var 0) (da_cons (de_var 1) da_nil))))
    (dss_one (ds_ret (de_if (dt_cmp bd_lt (de_var 3) de_int) (de_make M_Table (hr.mono (by decide)) (da_cons (de_var 2) da_nil) (hx := fun M O hm hb ha => pe_make M O (hr.mono (by decide)) rfl hm hb .nil pass0 ha)) (de_make M_Broken (hr.mono (by decide)) (da_cons (de_var 3) da_nil) (hx := fun M O hm hb ha => pe_make M O (hr.mono (by decide)) rfl hm hb .nil pass0 ha)))))))))
theorem ok_is_whole {f : Addr} {fd : FuncData} (F : Fun K "is_whole" "is_whole" s_is_whole f fd) (Tx : Txt K mg T) : FnOk P w K mg base CX0 1 f fd ["thing"] (spF K T 1 r_is_whole) :=
  okF (k := 0) (m := 0) F sc_is_whole rfl (fun cdv A os s H E hr =>
    (dss_one (ds_ret (de_and (de_callB (cal_isi Tx.cls) Tx.n_isinstance (da_cons (de_var 0) (da_cons (de_ty Tx.n_int) da_nil))) (de_one (de_not (de_callB (cal_isi Tx.cls) Tx.n_isinstance (da_cons (de_var 0) (da_cons (de_ty Tx.n_bool) da_nil)))))))))
theorem ok_check_wide {f : Addr} {fd : FuncData} (F : Fun K "check_wide" "check_wide" s_check_wide f fd) (Tx : Txt K mg T) (C_is_whole : Callee P w K mg base T 1 "is_whole" r_is_whole) : FnOk P w K mg base CX0 2 f fd ["wide"] (spF K T 1 r_check_wide) :=
  okF (k := 1) (m := 0) F sc_check_wide rfl (fun cdv A os s H E hr =>
    (dss_one (ds_if (dt_w (dw_or (dt_not (dt_val (de_call C_is_whole (hr.mono (by decide)) (da_cons (de_var 0) da_nil)))) (dw_or1 (dt_not (dt_chain bd_le bd_le de_int (de_var 0) (de_gl Tx.g_MOST_CELLS)))))) (dss_one ds_never) dss_nil)))
theorem ok_check_all {f : Addr} {fd : FuncData} (F : Fun K "check_all" "check_all" s_check_all f fd) (Tx : Txt K mg T) (C_check_text : Callee P w K mg base T 2 "check_text" r_check_text) (C_check_manner : Callee P w K mg base T 2 "check_manner" r_check_manner) (C_check_wide : Callee P w K mg base T 2 "check_wide" r_check_wide) : FnOk P w K mg base CX0 3 f fd ["text", "manner", "wide"] (spF K T 3 r_check_all) :=
  okF (k := 2) (m := 0) F sc_check_all rfl (fun cdv A os s H E hr =>
    (dss_cons (ds_expr (de_call C_check_text (hr.mono (by decide)) (da_cons (de_var 0) da_nil)))
    (dss_cons (ds_expr (de_call C_check_manner (hr.mono (by decide)) (da_cons (de_var 1) da_nil)))
    (dss_cons (ds_expr (de_call C_check_wide (hr.mono (by decide)) (da_cons (de_var 2) da_nil)))
    (dss_one (ds_if (dt_cmp bd_gt (de_callB cal_len Tx.n_len (da_cons (de_var 0) da_nil)) (de_gl Tx.g_LONGEST_mending)) (dss_one ds_never) dss_nil))))))
theorem ok_gone {f : Addr} {fd : FuncData} (F : Fun K "gone" "gone" s_gone f fd) (Tx : Txt K mg T) (C_moved : Callee P w K mg base T 1 "moved" r_moved) : FnOk P w K mg base CX0 2 f fd ["manner", "wide", "spot", "sign"] (spF K T 4 r_gone) :=
  okF (k := 1) (m := 1) F sc_gone rfl (fun cdv A os s H E hr =>
    (dss_cons (ds_set 4 sc_gone.nd (de_call C_moved (hr.mono (by decide)) (da_cons (de_var 0) (da_cons (de_ix ixd (de_var 2) de_int) (da_cons (de_var 3) da_nil)))))
    (dss_cons (ds_if (dt_cmp (bd_eq hr.units) (de_var 4) (de_gl Tx.g_ROW)) (dss_one (ds_ret (de_if (dt_cmp (bd_eq hr.units) (de_ix ixd (de_var 2) de_int) (de_bin bd_sub (de_var 1) de_int)) (de_tup (da_cons (de_gl Tx.g_ROW) (da_cons de_int da_nil))) de_non))) dss_nil)
    (dss_cons (ds_if (dt_cmp (bd_eq hr.units) (de_var 4) (de_gl Tx.g_CELL)) (dss_one (ds_ret (de_if (dt_cmp bd_lt (de_bin bd_add (de_ix ixd (de_var 2) de_int) de_int) (de_var 1)) (de_tup (da_cons (de_gl Tx.g_CELL) (da_cons (de_bin bd_add (de_ix ixd (de_var 2) de_int) de_int) da_nil))) de_non))) dss_nil)
    (dss_one (ds_ret (de_if (dt_cmp bd_is (de_var 4) de_non) de_non (de_tup (da_cons (de_var 4) (da_cons (de_ix ixd (de_var 2) de_int) da_nil))))))))))
theorem ok_put_ins {f : Addr} {fd : FuncData} (F : Fun K "put_ins" "put_ins" s_put_ins f fd) (Tx : Txt K mg T) : FnOk P w K mg base CX0 1 f fd ["manner"] (spF K T 1 r_put_ins) :=
  okF (k := 0) (m := 1) F sc_put_ins rfl (fun cdv A os s H E hr =>
    (dss_one (ds_ret (de_bin bd_add (de_l (dl_lc (own := [("sign", 1)]) rfl sc_put_ins.nd (di_seq (de_var 0)) (blkOk_by (N := ["manner", "sign"]) (sc := defScope s_put_ins) (by decide +kernel)) (by decide) (fun s0 H0 C0 cl0 fp0 => pg_name (i := 1) sc_put_ins.nd rfl (Or.inl rfl)) (fun s0 H0 C0 cl0 fp0 => (dts_one (dt_cmp (bd_ne hr.units) (de_var 1) (de_str [])))) (fun s0 H0 C0 cl0 fp0 => (de_var 1)))) (de_l (dl_lst (da_cons (de_str [10]) (da_cons (de_str [110]) da_nil))))))))
theorem ok_widened {f : Addr} {fd : FuncData} (F : Fun K "widened" "widened" s_widened f fd) (Tx : Txt K mg T) (C_put_ins : Callee P w K mg base T 1 "put_ins" r_put_ins) (C_gone : Callee P w K mg base T 2 "gone" r_gone) : FnOk P w K mg base CX0 3 f fd ["manner", "wide", "line"] (spD K T 2 rd_widened) :=
  okDd (k := 2) (m := 4) F sc_widened rfl rfl (fun cdv A os s H E hr =>
    (dssu_cons (ds_setO 3 sc_widened.nd (dl_listD 2 rfl Tx.n_list))
    (dssu_cons (ds_while 100000 PassesOwn.never (dt_cmp (bd_ne hr.units) (de_var 3) (de_l (dl_lst da_nil))) (dss_cons (ds_popAt 4 3 sc_widened.nd de_int)
    (dss_one (ds_for PassesOwn.never rfl (di_seq (de_call C_put_ins (hr.mono (by decide)) (da_cons (de_var 0) da_nil))) (dg_name 5 sc_widened.nd)
    (dss_cons (ds_set 6 sc_widened.nd (de_call C_gone (hr.mono (by decide)) (da_cons (de_var 0) (da_cons (de_var 1) (da_cons (de_var 4) (da_cons (de_var 5) da_nil))))))
    (dss_one (ds_if (dt_w (dw_and (dt_cmp bd_isn (de_var 6) de_non) (dw_and1 (dt_w (dw_or (dt_dnin (room1 hr) (de_var 6) (de_var 2)) (dw_or1 (dt_cmp bd_gt (de_ix ixd (de_dget (room1 hr) (de_var 2) (de_var 6)) de_int) (de_bin bd_add (de_ix ixd (de_dget (room1 hr) (de_var 2) (de_var 4)) de_int) de_int)))))))) (dss_cons (ds_dput 2 (room1 hr) (de_var 6) (de_frzT (de_tup (da_cons (de_bin bd_add (de_ix ixd (de_dget (room1 hr) (de_var 2) (de_var 4)) de_int) de_int) (da_cons (de_bin bd_add (de_ix ixd (de_dget (room1 hr) (de_var 2) (de_var 4)) de_int) (de_var 5)) da_nil)))))
    (dss_one (ds_app 3 (de_var 6)))) dss_nil)))))))
    (dssu_own 2))))
theorem ok_mend_of {f : Addr} {fd : FuncData} (F : Fun K "mend_of" "mend_of" s_mend_of f fd) (Tx : Txt K mg T) (C_gone : Callee P w K mg base T 2 "gone" r_gone) (CD_widened : CalleeD P w K mg base T 3 "widened" 2 rd_widened) : FnOk P w K mg base CX0 4 f fd ["text", "manner", "wide"] (spF K T 3 r_mend_of) :=
  okF (k := 3) (m := 7) F sc_mend_of rfl (fun cdv A os s H E hr =>
    (dss_cons (ds_callU 3 sc_mend_of.nd CD_widened (hr.mono (by decide)) (de_var 1) (de_var 2) (du_dic1 (room1 hr) (de_tup (da_cons (de_gl Tx.g_ROW) (da_cons de_int da_nil))) (de_tup (da_cons de_int (da_cons (de_str []) da_nil)))))
    (dss_cons (ds_for PassesOwn.never rfl (di_seq (de_var 0)) (dg_name 4 sc_mend_of.nd)
    (dss_cons (ds_setU 5 sc_mend_of.nd du_dic0)
    (dss_cons (ds_forD 3 PassesOwn.never rfl (dg_name 6 sc_mend_of.nd)
    (dss_cons (ds_asg (dg_tup rfl (dgs_cons 7 sc_mend_of.nd (dgs_cons 8 sc_mend_of.nd dgs_nil))) (de_dget (room1 hr) (de_var 3) (de_var 6)))
    (dss_cons (ds_if (dt_w (dw_or (dt_dnin (room1 hr) (de_var 6) (de_var 5)) (dw_or1 (dt_cmp bd_gt (de_ix ixd (de_dget (room1 hr) (de_var 5) (de_var 6)) de_int) (de_bin bd_add (de_var 7) de_int))))) (dss_one (ds_dput 5 (room1 hr) (de_var 6) (de_tup (da_cons (de_bin bd_add (de_var 7) de_int) (da_cons (de_var 8) da_nil))))) dss_nil)
    (dss_cons (ds_set 9 sc_mend_of.nd (de_call C_gone (hr.mono (by decide)) (da_cons (de_var 1) (da_cons (de_var 2) (da_cons (de_var 6) (da_cons (de_var 4) da_nil))))))
    (dss_one (ds_if (dt_w (dw_and (dt_cmp bd_isn (de_var 9) de_non) (dw_and1 (dt_w (dw_or (dt_dnin (room1 hr) (de_var 9) (de_var 5)) (dw_or1 (dt_cmp bd_gt (de_ix ixd (de_dget (room1 hr) (de_var 5) (de_var 9)) de_int) (de_var 7)))))))) (dss_one (ds_dput 5 (room1 hr) (de_var 9) (de_tup (da_cons (de_var 7) (da_cons (de_bin bd_add (de_var 8) (de_var 4)) da_nil))))) dss_nil))))))
    (dss_one (ds_callN 3 5 sc_mend_of.nd CD_widened (hr.mono (by decide)) (de_var 1) (de_var 2))))))
    (dss_one (ds_ret (de_dget (room1 hr) (de_var 3) (de_tup (da_cons (de_gl Tx.g_ROW) (da_cons de_int da_nil)))))))))
theorem ok_far {f : Addr} {fd : FuncData} (F : Fun K "far" "far" s_far f fd) (Tx : Txt K mg T) (C_check_all : Callee P w K mg base T 3 "check_all" r_check_all) (C_mend_of : Callee P w K mg base T 4 "mend_of" r_mend_of) : FnOk P w K mg base CX0 5 f fd ["text", "manner", "wide"] (spF K T 3 r_far) :=
  okF (k := 4) (m := 0) F sc_far rfl (fun cdv A os s H E hr =>
    (dss_cons (ds_expr (de_call C_check_all (hr.mono (by decide)) (da_cons (de_var 0) (da_cons (de_var 1) (da_cons (de_var 2) da_nil)))))
    (dss_one (ds_ret (de_ix ixd (de_call C_mend_of (hr.mono (by decide)) (da_cons (de_var 0) (da_cons (de_var 1) (da_cons (de_var 2) da_nil)))) de_int)))))
theorem ok_is_even {f : Addr} {fd : FuncData} (F : Fun K "is_even" "is_even" s_is_even f fd) (Tx : Txt K mg T) : FnOk P w K mg base CX0 1 f fd ["rows"] (spF K T 1 r_is_even) :=
  okF (k := 0) (m := 1) F sc_is_even rfl (fun cdv A os s H E hr =>
    (dss_one (ds_ret (de_and (de_cmp (bd_ne hr.units) (de_var 0) (de_l (dl_lst da_nil))) (de_and (de_cmp bd_gt (de_callB cal_len Tx.n_len (da_cons (de_ix ixd (de_var 0) de_int) da_nil)) de_int) (de_one (de_callB (cal_all rfl) Tx.n_all (da_cons (de_l (dl_lc (own := [("row", 1)]) rfl sc_is_even.nd (di_seq (de_var 0)) (blkOk_by (N := ["rows", "row"]) (sc := defScope s_is_even) (by decide +kernel)) (by decide) (fun s0 H0 C0 cl0 fp0 => pg_name (i := 1) sc_is_even.nd rfl (Or.inl rfl)) (fun s0 H0 C0 cl0 fp0 => dts_nil) (fun s0 H0 C0 cl0 fp0 => (de_cmp (bd_eq hr.units) (de_callB cal_len Tx.n_len (da_cons (de_var 1) da_nil)) (de_callB cal_len Tx.n_len (da_cons (de_ix ixd (de_var 0) de_int) da_nil)))))) da_nil))))))))
theorem ok_fitting_of {f : Addr} {fd : FuncData} (F : Fun K "fitting_of" "fitting_of" s_fitting_of f fd) (Tx : Txt K mg T) (C_all_manners : Callee P w K mg base T 1 "all_manners" r_all_manners) (C_read_of : Callee P w K mg base T 2 "read_of" r_read_of) (C_is_even : Callee P w K mg base T 1 "is_even" r_is_even) : FnOk P w K mg base CX0 3 f fd ["text"] (spF K T 1 r_fitting_of) :=
  okF (k := 2) (m := 4) F sc_fitting_of rfl (fun cdv A os s H E hr =>
    (dss_cons (ds_setO 1 sc_fitting_of.nd (dl_lst da_nil))
    (dss_cons (ds_for PassesOwn.never rfl (di_seq (de_call0 C_all_manners (hr.mono (by decide)))) (dg_name 2 sc_fitting_of.nd)
    (dss_cons (ds_asg (dg_tup rfl (dgs_cons 3 sc_fitting_of.nd (dgs_cons 4 sc_fitting_of.nd dgs_nil))) (de_call C_read_of (hr.mono (by decide)) (da_cons (de_var 0) (da_cons (de_var 2) da_nil))))
    (dss_one (ds_if (dt_w (dw_and (dt_cmp bd_lt (de_var 4) de_int) (dw_and1 (dt_val (de_call C_is_even (hr.mono (by decide)) (da_cons (de_var 3) da_nil)))))) (dss_one (ds_app 1 (de_var 2))) dss_nil))))
    (dss_one (ds_frz 1 (ds_ret (de_var 1)))))))
theorem ok_fitting {f : Addr} {fd : FuncData} (F : Fun K "fitting" "fitting" s_fitting f fd) (Tx : Txt K mg T) (C_check_text : Callee P w K mg base T 2 "check_text" r_check_text) (C_fitting_of : Callee P w K mg base T 3 "fitting_of" r_fitting_of) : FnOk P w K mg base CX0 4 f fd ["text"] (spF K T 1 r_fitting) :=
  okF (k := 3) (m := 0) F sc_fitting rfl (fun cdv A os s H E hr =>
    (dss_cons (ds_expr (de_call C_check_text (hr.mono (by decide)) (da_cons (de_var 0) da_nil)))
    (dss_one (ds_ret (de_call C_fitting_of (hr.mono (by decide)) (da_cons (de_var 0) da_nil))))))
theorem ok_law {f : Addr} {fd : FuncData} (F : Fun K "law" "law" s_law f fd) (Tx : Txt K mg T) (C__law_text : Callee P w K mg base T 5 "_law_text" r__law_text) (C__law_swapped : Callee P w K mg base T 1 "_law_swapped" r__law_swapped) (C__law_manner : Callee P w K mg base T 3 "_law_manner" r__law_manner) (C_read : Callee P w K mg base T 3 "read" r_read) (C_far : Callee P w K mg base T 5 "far" r_far) (C_fitting : Callee P w K mg base T 4 "fitting" r_fitting) : FnOk P w K mg base CX0 6 f fd ["_law_script"] (spF K T 1 r_law) :=
  okF (k := 5) (m := 15) F sc_law rfl (fun cdv A os s H E hr =>
    (dss_cons (ds_for PassesOwn.never rfl (di_range3 Tx.n_range (da_cons de_int (da_cons (de_callB (cal_max rfl) Tx.n_max (da_cons de_int (da_cons (de_callB (cal_min rfl) Tx.n_min (da_cons de_int (da_cons (de_callB cal_len Tx.n_len (da_cons (de_var 0) da_nil)) da_nil))) da_nil))) (da_cons de_int da_nil)))) (dg_name 1 sc_law.nd)
    (dss_cons (ds_set 2 sc_law.nd (de_call C__law_text (hr.mono (by decide)) (da_cons (de_var 0) (da_cons (de_var 1) (da_cons de_int da_nil)))))
    (dss_one (ds_for PassesOwn.never rfl (di_seq (de_l (dl_lst (da_cons (de_tup (da_cons (de_str [44]) (da_cons (de_str [59]) da_nil))) (da_cons (de_tup (da_cons (de_str [124]) (da_cons (de_str [58]) da_nil))) (da_cons (de_tup (da_cons (de_str [34]) (da_cons (de_str [39]) da_nil))) da_nil)))))) (dg_tup rfl (dgs_cons 3 sc_law.nd (dgs_cons 4 sc_law.nd dgs_nil)))
    (dss_cons (ds_set 5 sc_law.nd (de_call C__law_swapped (hr.mono (by decide)) (da_cons (de_var 2) (da_cons (de_var 3) (da_cons (de_var 4) da_nil)))))
    (dss_cons (ds_for PassesOwn.never rfl (di_range1 Tx.n_range (da_cons de_int da_nil)) (dg_name 6 sc_law.nd)
    (dss_cons (ds_set 7 sc_law.nd (de_call C__law_manner (hr.mono (by decide)) (da_cons (de_var 0) (da_cons (de_bin bd_add (de_var 1) (de_var 6)) da_nil))))
    (dss_cons (ds_set 8 sc_law.nd (de_callTy cal_tuple Tx.n_tuple (da_cons (de_l (dl_lc (own := [("_law_part", 9)]) rfl sc_law.nd (di_seq (de_var 7)) (blkOk_by (N := ["_law_script", "_law_by", "_law_text_here", "_law_one", "_law_other", "_law_there", "_law_at", "_law_manner_here", "_law_swapped_here", "_law_part", "_law_found", "_law_more", "_law_rows_here", "_law_row", "_law_cell", "_law_due"]) (sc := defScope s_law) (by decide +kernel)) (by decide) (fun s0 H0 C0 cl0 fp0 => pg_name (i := 9) sc_law.nd rfl (Or.inl rfl)) (fun s0 H0 C0 cl0 fp0 => dts_nil) (fun s0 H0 C0 cl0 fp0 => (de_call C__law_swapped (hr.mono (by decide)) (da_cons (de_var 9) (da_cons (de_var 3) (da_cons (de_var 4) da_nil))))))) da_nil)))
    (dss_cons (ds_par2 10 11 rfl sc_law.nd (dm_v (de_call C_read (hr.mono (by decide)) (da_cons (de_var 2) (da_cons (de_var 7) da_nil))) (dm_v (de_call C_read (hr.mono (by decide)) (da_cons (de_var 5) (da_cons (de_var 8) da_nil))) dm_nil)) (by decide))
    (dss_cons (ds_if (dt_cmp (bd_ne hr.units) (de_callB (cal_isi Tx.cls) Tx.n_isinstance (da_cons (de_var 10) (da_cons (de_cls Tx.mg_Broken) da_nil))) (de_callB (cal_isi Tx.cls) Tx.n_isinstance (da_cons (de_var 11) (da_cons (de_cls Tx.mg_Broken) da_nil)))) (dss_one (ds_ret de_bl)) dss_nil)
    (dss_cons (ds_if (dt_w (dw_and (dt_val (de_callB (cal_isi Tx.cls) Tx.n_isinstance (da_cons (de_var 10) (da_cons (de_cls Tx.mg_Broken) da_nil)))) (dw_and1 (dt_cmp (bd_ne hr.units) (de_fld 2 0 Tx.cl_Broken Tx.na_Broken_place (by rw [Tx.nm_Broken]; decide +kernel) (by rw [Tx.nm_Broken]; rfl) (de_var 10)) (de_fld 2 0 Tx.cl_Broken Tx.na_Broken_place (by rw [Tx.nm_Broken]; decide +kernel) (by rw [Tx.nm_Broken]; rfl) (de_var 11)))))) (dss_one (ds_ret de_bl)) dss_nil)
    (dss_cons (ds_if (dt_val (de_callB (cal_isi Tx.cls) Tx.n_isinstance (da_cons (de_var 10) (da_cons (de_cls Tx.mg_Table) da_nil)))) (dss_cons (ds_setLc 12 (own := [("_law_row", 13)]) rfl sc_law.nd (di_seq (de_fld 1 0 Tx.cl_Table Tx.na_Table_rows (by rw [Tx.nm_Table]; decide +kernel) (by rw [Tx.nm_Table]; rfl) (de_var 10))) (blkOk_by (N := ["_law_script", "_law_by", "_law_text_here", "_law_one", "_law_other", "_law_there", "_law_at", "_law_manner_here", "_law_swapped_here", "_law_part", "_law_found", "_law_more", "_law_rows_here", "_law_row", "_law_cell", "_law_due"]) (sc := defScope s_law) (by decide +kernel)) (by decide) (fun s0 H0 C0 cl0 fp0 => pg_name (i := 13) sc_law.nd rfl (Or.inl rfl)) (fun s0 H0 C0 cl0 fp0 => dts_nil) (fun s0 H0 C0 cl0 fp0 => (de_l (dl_lc (own := [("_law_cell", 14)]) rfl sc_law.nd (di_seq (de_var 13)) (blkOk_by (N := ["_law_script", "_law_by", "_law_text_here", "_law_one", "_law_other", "_law_there", "_law_at", "_law_manner_here", "_law_swapped_here", "_law_part", "_law_found", "_law_more", "_law_rows_here", "_law_row", "_law_cell", "_law_due"]) (by rfl)) (by decide) (fun s0 H0 C0 cl0 fp0 => pg_name (i := 14) sc_law.nd rfl (Or.inl rfl)) (fun s0 H0 C0 cl0 fp0 => dts_nil) (fun s0 H0 C0 cl0 fp0 => (de_call C__law_swapped (hr.mono (by decide)) (da_cons (de_var 14) (da_cons (de_var 3) (da_cons (de_var 4) da_nil)))))))) (hsw := sw_true rfl rfl rfl (by decide +kernel)))
    (dss_one (ds_if (dt_cmp (bd_ne hr.units) (de_fld 1 0 Tx.cl_Table Tx.na_Table_rows (by rw [Tx.nm_Table]; decide +kernel) (by rw [Tx.nm_Table]; rfl) (de_var 11)) (de_var 12)) (dss_one (ds_ret de_bl)) dss_nil))) dss_nil)
    (dss_one (ds_if (dt_cmp (bd_ne hr.units) (de_call C_far (hr.mono (by decide)) (da_cons (de_slice (de_var 2) do_none (do_some de_int)) (da_cons (de_var 7) (da_cons de_int da_nil)))) (de_call C_far (hr.mono (by decide)) (da_cons (de_slice (de_var 5) do_none (do_some de_int)) (da_cons (de_var 8) (da_cons de_int da_nil))))) (dss_one (ds_ret de_bl)) dss_nil)))))))))
    (dss_cons (ds_set 15 sc_law.nd (de_callB cal_sorted Tx.n_sorted (da_cons (de_l (dl_lc (own := [("_law_manner_here", 7)]) rfl sc_law.nd (di_seq (de_call C_fitting (hr.mono (by decide)) (da_cons (de_var 2) da_nil))) (blkOk_by (N := ["_law_script", "_law_by", "_law_text_here", "_law_one", "_law_other", "_law_there", "_law_at", "_law_manner_here", "_law_swapped_here", "_law_part", "_law_found", "_law_more", "_law_rows_here", "_law_row", "_law_cell", "_law_due"]) (sc := defScope s_law) (by decide +kernel)) (by decide) (fun s0 H0 C0 cl0 fp0 => pg_name (i := 7) sc_law.nd rfl (Or.inl rfl)) (fun s0 H0 C0 cl0 fp0 => dts_nil) (fun s0 H0 C0 cl0 fp0 => (de_callTy cal_tuple Tx.n_tuple (da_cons (de_l (dl_lc (own := [("_law_part", 9)]) rfl sc_law.nd (di_seq (de_var 7)) (blkOk_by (N := ["_law_script", "_law_by", "_law_text_here", "_law_one", "_law_other", "_law_there", "_law_at", "_law_manner_here", "_law_swapped_here", "_law_part", "_law_found", "_law_more", "_law_rows_here", "_law_row", "_law_cell", "_law_due"]) (by rfl)) (by decide) (fun s0 H0 C0 cl0 fp0 => pg_name (i := 9) sc_law.nd rfl (Or.inl rfl)) (fun s0 H0 C0 cl0 fp0 => dts_nil) (fun s0 H0 C0 cl0 fp0 => (de_call C__law_swapped (hr.mono (by decide)) (da_cons (de_var 9) (da_cons (de_var 3) (da_cons (de_var 4) da_nil))))))) da_nil))))) da_nil)))
    (dss_one (ds_if (dt_cmp (bd_ne hr.units) (de_callB cal_sorted Tx.n_sorted (da_cons (de_call C_fitting (hr.mono (by decide)) (da_cons (de_var 5) da_nil)) da_nil)) (de_var 15)) (dss_one (ds_ret de_bl)) dss_nil)))))))))
    (dss_one (ds_ret (de_cmp (bd_eq hr.units) (de_fld 1 0 Tx.cl_Table Tx.na_Table_rows (by rw [Tx.nm_Table]; decide +kernel) (by rw [Tx.nm_Table]; rfl) (de_call C_read (hr.mono (by decide)) (da_cons (de_str [97, 59, 98, 10]) (da_cons (de_tup (da_cons (de_str [59]) (da_cons (de_str []) (da_cons (de_str []) da_nil)))) da_nil)))) (de_fld 1 0 Tx.cl_Table Tx.na_Table_rows (by rw [Tx.nm_Table]; decide +kernel) (by rw [Tx.nm_Table]; rfl) (de_call C_read (hr.mono (by decide)) (da_cons (de_str [97, 44, 98, 10]) (da_cons (de_tup (da_cons (de_str [44]) (da_cons (de_str []) (da_cons (de_str []) da_nil)))) da_nil)))))))))
end
def spLaw (K : PySem.W.Frag) : Sp := fun vs H Q _ => ∃ (a : Addr) (ns : List Int), vs = [.ref a] ∧ SqL K H a (ns.map V.int) ∧ ns.length ≤ 63 ∧ ∀ H', Q (.bl true) H'
theorem all_mk (plain : ∀ ns : List Int, ns.length ≤ 63 → r_law [.scr ns] = some (.bl true)) {l : PySem.W.OpenLaw} {w : World} {K : PySem.W.Frag} {h : Heap} {mg : Str → Option Value} {fa : Addr} (X : K.In h) (G : h.Ns mainGlobals mg) (hfa : mg "law" = some (.ref fa))
    {c0 c1 c2 : Addr}
    {od0 an0 : Option Addr} {sl0 : Array (Option Value)} {oc0 kV0 dc0 pm0 cd0 ct0 : Value} {f0 : Addr}
    {od1 an1 : Option Addr} {sl1 : Array (Option Value)} {oc1 kV1 dc1 pm1 cd1 ct1 : Value} {f1 : Addr}
    {od2 an2 : Option Addr} {sl2 : Array (Option Value)} {oc2 kV2 dc2 pm2 cd2 ct2 : Value} {f2 : Addr}
    {od3 an3 : Option Addr} {sl3 : Array (Option Value)} {oc3 kV3 dc3 pm3 cd3 ct3 : Value} {f3 : Addr}
    {od4 an4 : Option Addr} {sl4 : Array (Option Value)} {oc4 kV4 dc4 pm4 cd4 ct4 : Value} {f4 : Addr}
    {od5 an5 : Option Addr} {sl5 : Array (Option Value)} {oc5 kV5 dc5 pm5 cd5 ct5 : Value} {f5 : Addr}
    {od6 an6 : Option Addr} {sl6 : Array (Option Value)} {oc6 kV6 dc6 pm6 cd6 ct6 : Value} {f6 : Addr}
    {od7 an7 : Option Addr} {sl7 : Array (Option Value)} {oc7 kV7 dc7 pm7 cd7 ct7 : Value} {f7 : Addr}
    {od8 an8 : Option Addr} {sl8 : Array (Option Value)} {oc8 kV8 dc8 pm8 cd8 ct8 : Value} {f8 : Addr}
    {od9 an9 : Option Addr} {sl9 : Array (Option Value)} {oc9 kV9 dc9 pm9 cd9 ct9 : Value} {f9 : Addr}
    {od10 an10 : Option Addr} {sl10 : Array (Option Value)} {oc10 kV10 dc10 pm10 cd10 ct10 : Value} {f10 : Addr}
    {od11 an11 : Option Addr} {sl11 : Array (Option Value)} {oc11 kV11 dc11 pm11 cd11 ct11 : Value} {f11 : Addr}
    {od12 an12 : Option Addr} {sl12 : Array (Option Value)} {oc12 kV12 dc12 pm12 cd12 ct12 : Value} {f12 : Addr}
    {od13 an13 : Option Addr} {sl13 : Array (Option Value)} {oc13 kV13 dc13 pm13 cd13 ct13 : Value} {f13 : Addr}
    {od14 an14 : Option Addr} {sl14 : Array (Option Value)} {oc14 kV14 dc14 pm14 cd14 ct14 : Value} {f14 : Addr}
    {od15 an15 : Option Addr} {sl15 : Array (Option Value)} {oc15 kV15 dc15 pm15 cd15 ct15 : Value} {f15 : Addr}
    {od16 an16 : Option Addr} {sl16 : Array (Option Value)} {oc16 kV16 dc16 pm16 cd16 ct16 : Value} {f16 : Addr}
    {od17 an17 : Option Addr} {sl17 : Array (Option Value)} {oc17 kV17 dc17 pm17 cd17 ct17 : Value} {f17 : Addr}
    {od18 an18 : Option Addr} {sl18 : Array (Option Value)} {oc18 kV18 dc18 pm18 cd18 ct18 : Value} {f18 : Addr}
    {od19 an19 : Option Addr} {sl19 : Array (Option Value)} {oc19 kV19 dc19 pm19 cd19 ct19 : Value} {f19 : Addr}
    {od20 an20 : Option Addr} {sl20 : Array (Option Value)} {oc20 kV20 dc20 pm20 cd20 ct20 : Value} {f20 : Addr}
    {od21 an21 : Option Addr} {sl21 : Array (Option Value)} {oc21 kV21 dc21 pm21 cd21 ct21 : Value} {f21 : Addr}
    {od22 an22 : Option Addr} {sl22 : Array (Option Value)} {oc22 kV22 dc22 pm22 cd22 ct22 : Value} {f22 : Addr}
    {od23 an23 : Option Addr} {sl23 : Array (Option Value)} {oc23 kV23 dc23 pm23 cd23 ct23 : Value} {f23 : Addr}
    {od24 an24 : Option Addr} {sl24 : Array (Option Value)} {oc24 kV24 dc24 pm24 cd24 ct24 : Value} {f24 : Addr}
    {od25 an25 : Option Addr} {sl25 : Array (Option Value)} {oc25 kV25 dc25 pm25 cd25 ct25 : Value} {f25 : Addr}
    {od26 an26 : Option Addr} {sl26 : Array (Option Value)} {oc26 kV26 dc26 pm26 cd26 ct26 : Value} {f26 : Addr}
    {od27 an27 : Option Addr} {sl27 : Array (Option Value)} {oc27 kV27 dc27 pm27 cd27 ct27 : Value} {f27 : Addr}
    {od28 an28 : Option Addr} {sl28 : Array (Option Value)} {oc28 kV28 dc28 pm28 cd28 ct28 : Value} {f28 : Addr}
    {od29 an29 : Option Addr} {sl29 : Array (Option Value)} {oc29 kV29 dc29 pm29 cd29 ct29 : Value} {f29 : Addr}
    {od30 an30 : Option Addr} {sl30 : Array (Option Value)} {oc30 kV30 dc30 pm30 cd30 ct30 : Value} {f30 : Addr}
    {od31 an31 : Option Addr} {sl31 : Array (Option Value)} {oc31 kV31 dc31 pm31 cd31 ct31 : Value} {f31 : Addr}
    {od32 an32 : Option Addr} {sl32 : Array (Option Value)} {oc32 kV32 dc32 pm32 cd32 ct32 : Value} {f32 : Addr}
    {od33 an33 : Option Addr} {sl33 : Array (Option Value)} {oc33 kV33 dc33 pm33 cd33 ct33 : Value} {f33 : Addr}
    {t_AFTER : Tok}
    {t_BARE : Tok}
    {t_CELL : Tok}
    {t_ESCAPED : Tok}
    {p_ESCAPES : Addr} {dd_ESCAPES : Option Addr} {it_ESCAPES : Array Value} {n_ESCAPES : Nat} {y_ESCAPES : Array (Option Value)} {vs_ESCAPES : List V}
    {t_LONGEST_manners : Tok}
    {t_LONGEST_mending : Tok}
    {p_MARKS : Addr} {dd_MARKS : Option Addr} {it_MARKS : Array Value} {n_MARKS : Nat} {y_MARKS : Array (Option Value)} {vs_MARKS : List V}
    {t_MOST_CELLS : Tok}
    {t_QUOTED : Tok}
    {p_QUOTES : Addr} {dd_QUOTES : Option Addr} {it_QUOTES : Array Value} {n_QUOTES : Nat} {y_QUOTES : Array (Option Value)} {vs_QUOTES : List V}
    {t_ROW : Tok}
    {t_SIGNS : Tok} {s_SIGNS : Str}
    (C0 : PySem.W.nsIn K mainGlobals "Answer" = some (some (.ref c0)))
    (C1 : PySem.W.nsIn K mainGlobals "Table" = some (some (.ref c1)))
    (C2 : PySem.W.nsIn K mainGlobals "Broken" = some (some (.ref c2)))
    (a0 : PySem.W.nsIn K mainGlobals "_law_manners" = some (some (.ref f0)))
    (l0 : K.lookup f0 = some ⟨oc0, od0, .func (PySem.W.fnOf "_law_manners" "_law_manners" (defArgs s__law_manners) (defBody s__law_manners) (defScope s__law_manners) .none kV0 dc0 pm0 an0 cd0 ct0), sl0⟩)
    (c0c : PySem.W.codeIn K cd0 "_law_manners" = true)
    (k0 : PySem.W.keepIn K (.ref f0) = true)
    (a1 : PySem.W.nsIn K mainGlobals "_law_draw" = some (some (.ref f1)))
    (l1 : K.lookup f1 = some ⟨oc1, od1, .func (PySem.W.fnOf "_law_draw" "_law_draw" (defArgs s__law_draw) (defBody s__law_draw) (defScope s__law_draw) .none kV1 dc1 pm1 an1 cd1 ct1), sl1⟩)
    (c1c : PySem.W.codeIn K cd1 "_law_draw" = true)
    (k1 : PySem.W.keepIn K (.ref f1) = true)
    (a2 : PySem.W.nsIn K mainGlobals "_law_number" = some (some (.ref f2)))
    (l2 : K.lookup f2 = some ⟨oc2, od2, .func (PySem.W.fnOf "_law_number" "_law_number" (defArgs s__law_number) (defBody s__law_number) (defScope s__law_number) .none kV2 dc2 pm2 an2 cd2 ct2), sl2⟩)
    (c2c : PySem.W.codeIn K cd2 "_law_number" = true)
    (k2 : PySem.W.keepIn K (.ref f2) = true)
    (a3 : PySem.W.nsIn K mainGlobals "_law_cell_at" = some (some (.ref f3)))
    (l3 : K.lookup f3 = some ⟨oc3, od3, .func (PySem.W.fnOf "_law_cell_at" "_law_cell_at" (defArgs s__law_cell_at) (defBody s__law_cell_at) (defScope s__law_cell_at) .none kV3 dc3 pm3 an3 cd3 ct3), sl3⟩)
    (c3c : PySem.W.codeIn K cd3 "_law_cell_at" = true)
    (k3 : PySem.W.keepIn K (.ref f3) = true)
    (a4 : PySem.W.nsIn K mainGlobals "_law_manner" = some (some (.ref f4)))
    (l4 : K.lookup f4 = some ⟨oc4, od4, .func (PySem.W.fnOf "_law_manner" "_law_manner" (defArgs s__law_manner) (defBody s__law_manner) (defScope s__law_manner) .none kV4 dc4 pm4 an4 cd4 ct4), sl4⟩)
    (c4c : PySem.W.codeIn K cd4 "_law_manner" = true)
    (k4 : PySem.W.keepIn K (.ref f4) = true)
    (a5 : PySem.W.nsIn K mainGlobals "_law_plain" = some (some (.ref f5)))
    (l5 : K.lookup f5 = some ⟨oc5, od5, .func (PySem.W.fnOf "_law_plain" "_law_plain" (defArgs s__law_plain) (defBody s__law_plain) (defScope s__law_plain) .none kV5 dc5 pm5 an5 cd5 ct5), sl5⟩)
    (c5c : PySem.W.codeIn K cd5 "_law_plain" = true)
    (k5 : PySem.W.keepIn K (.ref f5) = true)
    (a6 : PySem.W.nsIn K mainGlobals "_law_cell_text" = some (some (.ref f6)))
    (l6 : K.lookup f6 = some ⟨oc6, od6, .func (PySem.W.fnOf "_law_cell_text" "_law_cell_text" (defArgs s__law_cell_text) (defBody s__law_cell_text) (defScope s__law_cell_text) .none kV6 dc6 pm6 an6 cd6 ct6), sl6⟩)
    (c6c : PySem.W.codeIn K cd6 "_law_cell_text" = true)
    (k6 : PySem.W.keepIn K (.ref f6) = true)
    (a7 : PySem.W.nsIn K mainGlobals "_law_write" = some (some (.ref f7)))
    (l7 : K.lookup f7 = some ⟨oc7, od7, .func (PySem.W.fnOf "_law_write" "_law_write" (defArgs s__law_write) (defBody s__law_write) (defScope s__law_write) .none kV7 dc7 pm7 an7 cd7 ct7), sl7⟩)
    (c7c : PySem.W.codeIn K cd7 "_law_write" = true)
    (k7 : PySem.W.keepIn K (.ref f7) = true)
    (a8 : PySem.W.nsIn K mainGlobals "_law_cells" = some (some (.ref f8)))
    (l8 : K.lookup f8 = some ⟨oc8, od8, .func (PySem.W.fnOf "_law_cells" "_law_cells" (defArgs s__law_cells) (defBody s__law_cells) (defScope s__law_cells) .none kV8 dc8 pm8 an8 cd8 ct8), sl8⟩)
    (c8c : PySem.W.codeIn K cd8 "_law_cells" = true)
    (k8 : PySem.W.keepIn K (.ref f8) = true)
    (a9 : PySem.W.nsIn K mainGlobals "_law_rows" = some (some (.ref f9)))
    (l9 : K.lookup f9 = some ⟨oc9, od9, .func (PySem.W.fnOf "_law_rows" "_law_rows" (defArgs s__law_rows) (defBody s__law_rows) (defScope s__law_rows) .none kV9 dc9 pm9 an9 cd9 ct9), sl9⟩)
    (c9c : PySem.W.codeIn K cd9 "_law_rows" = true)
    (k9 : PySem.W.keepIn K (.ref f9) = true)
    (a10 : PySem.W.nsIn K mainGlobals "_law_text" = some (some (.ref f10)))
    (l10 : K.lookup f10 = some ⟨oc10, od10, .func (PySem.W.fnOf "_law_text" "_law_text" (defArgs s__law_text) (defBody s__law_text) (defScope s__law_text) .none kV10 dc10 pm10 an10 cd10 ct10), sl10⟩)
    (c10c : PySem.W.codeIn K cd10 "_law_text" = true)
    (k10 : PySem.W.keepIn K (.ref f10) = true)
    (a11 : PySem.W.nsIn K mainGlobals "_law_swapped" = some (some (.ref f11)))
    (l11 : K.lookup f11 = some ⟨oc11, od11, .func (PySem.W.fnOf "_law_swapped" "_law_swapped" (defArgs s__law_swapped) (defBody s__law_swapped) (defScope s__law_swapped) .none kV11 dc11 pm11 an11 cd11 ct11), sl11⟩)
    (c11c : PySem.W.codeIn K cd11 "_law_swapped" = true)
    (k11 : PySem.W.keepIn K (.ref f11) = true)
    (a12 : PySem.W.findIn K (.ref c1) "__init__" = some (some (.ref f12)))
    (i12 : PySem.W.isFn K (.ref f12) = true)
    (l12 : K.lookup f12 = some ⟨oc12, od12, .func (PySem.W.fnOf "__init__" "Table.__init__" (defArgs s_Table_init) (defBody s_Table_init) (defScope s_Table_init) .none kV12 dc12 pm12 an12 cd12 ct12), sl12⟩)
    (c12c : PySem.W.codeIn K cd12 "Table.__init__" = true)
    (k12 : PySem.W.keepIn K (.ref f12) = true)
    (a13 : PySem.W.findIn K (.ref c2) "__init__" = some (some (.ref f13)))
    (i13 : PySem.W.isFn K (.ref f13) = true)
    (l13 : K.lookup f13 = some ⟨oc13, od13, .func (PySem.W.fnOf "__init__" "Broken.__init__" (defArgs s_Broken_init) (defBody s_Broken_init) (defScope s_Broken_init) .none kV13 dc13 pm13 an13 cd13 ct13), sl13⟩)
    (c13c : PySem.W.codeIn K cd13 "Broken.__init__" = true)
    (k13 : PySem.W.keepIn K (.ref f13) = true)
    (a14 : PySem.W.nsIn K mainGlobals "is_signs" = some (some (.ref f14)))
    (l14 : K.lookup f14 = some ⟨oc14, od14, .func (PySem.W.fnOf "is_signs" "is_signs" (defArgs s_is_signs) (defBody s_is_signs) (defScope s_is_signs) .none kV14 dc14 pm14 an14 cd14 ct14), sl14⟩)
    (c14c : PySem.W.codeIn K cd14 "is_signs" = true)
    (k14 : PySem.W.keepIn K (.ref f14) = true)
    (a15 : PySem.W.nsIn K mainGlobals "check_text" = some (some (.ref f15)))
    (l15 : K.lookup f15 = some ⟨oc15, od15, .func (PySem.W.fnOf "check_text" "check_text" (defArgs s_check_text) (defBody s_check_text) (defScope s_check_text) .none kV15 dc15 pm15 an15 cd15 ct15), sl15⟩)
    (c15c : PySem.W.codeIn K cd15 "check_text" = true)
    (k15 : PySem.W.keepIn K (.ref f15) = true)
    (a16 : PySem.W.nsIn K mainGlobals "all_manners" = some (some (.ref f16)))
    (l16 : K.lookup f16 = some ⟨oc16, od16, .func (PySem.W.fnOf "all_manners" "all_manners" (defArgs s_all_manners) (defBody s_all_manners) (defScope s_all_manners) .none kV16 dc16 pm16 an16 cd16 ct16), sl16⟩)
    (c16c : PySem.W.codeIn K cd16 "all_manners" = true)
    (k16 : PySem.W.keepIn K (.ref f16) = true)
    (a17 : PySem.W.nsIn K mainGlobals "check_manner" = some (some (.ref f17)))
    (l17 : K.lookup f17 = some ⟨oc17, od17, .func (PySem.W.fnOf "check_manner" "check_manner" (defArgs s_check_manner) (defBody s_check_manner) (defScope s_check_manner) .none kV17 dc17 pm17 an17 cd17 ct17), sl17⟩)
    (c17c : PySem.W.codeIn K cd17 "check_manner" = true)
    (k17 : PySem.W.keepIn K (.ref f17) = true)
    (a18 : PySem.W.nsIn K mainGlobals "moved" = some (some (.ref f18)))
    (l18 : K.lookup f18 = some ⟨oc18, od18, .func (PySem.W.fnOf "moved" "moved" (defArgs s_moved) (defBody s_moved) (defScope s_moved) .none kV18 dc18 pm18 an18 cd18 ct18), sl18⟩)
    (c18c : PySem.W.codeIn K cd18 "moved" = true)
    (k18 : PySem.W.keepIn K (.ref f18) = true)
    (a19 : PySem.W.nsIn K mainGlobals "sign_told" = some (some (.ref f19)))
    (l19 : K.lookup f19 = some ⟨oc19, od19, .func (PySem.W.fnOf "sign_told" "sign_told" (defArgs s_sign_told) (defBody s_sign_told) (defScope s_sign_told) .none kV19 dc19 pm19 an19 cd19 ct19), sl19⟩)
    (c19c : PySem.W.codeIn K cd19 "sign_told" = true)
    (k19 : PySem.W.keepIn K (.ref f19) = true)
    (a20 : PySem.W.nsIn K mainGlobals "read_of" = some (some (.ref f20)))
    (l20 : K.lookup f20 = some ⟨oc20, od20, .func (PySem.W.fnOf "read_of" "read_of" (defArgs s_read_of) (defBody s_read_of) (defScope s_read_of) .none kV20 dc20 pm20 an20 cd20 ct20), sl20⟩)
    (c20c : PySem.W.codeIn K cd20 "read_of" = true)
    (k20 : PySem.W.keepIn K (.ref f20) = true)
    (a21 : PySem.W.nsIn K mainGlobals "read" = some (some (.ref f21)))
    (l21 : K.lookup f21 = some ⟨oc21, od21, .func (PySem.W.fnOf "read" "read" (defArgs s_read) (defBody s_read) (defScope s_read) .none kV21 dc21 pm21 an21 cd21 ct21), sl21⟩)
    (c21c : PySem.W.codeIn K cd21 "read" = true)
    (k21 : PySem.W.keepIn K (.ref f21) = true)
    (a22 : PySem.W.nsIn K mainGlobals "is_whole" = some (some (.ref f22)))
    (l22 : K.lookup f22 = some ⟨oc22, od22, .func (PySem.W.fnOf "is_whole" "is_whole" (defArgs s_is_whole) (defBody s_is_whole) (defScope s_is_whole) .none kV22 dc22 pm22 an22 cd22 ct22), sl22⟩)
    (c22c : PySem.W.codeIn K cd22 "is_whole" = true)
    (k22 : PySem.W.keepIn K (.ref f22) = true)
    (a23 : PySem.W.nsIn K mainGlobals "check_wide" = some (some (.ref f23)))
    (l23 : K.lookup f23 = some ⟨oc23, od23, .func (PySem.W.fnOf "check_wide" "check_wide" (defArgs s_check_wide) (defBody s_check_wide) (defScope s_check_wide) .none kV23 dc23 pm23 an23 cd23 ct23), sl23⟩)
    (c23c : PySem.W.codeIn K cd23 "check_wide" = true)
    (k23 : PySem.W.keepIn K (.ref f23) = true)
    (a24 : PySem.W.nsIn K mainGlobals "check_all" = some (some (.ref f24)))
    (l24 : K.lookup f24 = some ⟨oc24, od24, .func (PySem.W.fnOf "check_all" "check_all" (defArgs s_check_all) (defBody s_check_all) (defScope s_check_all) .none kV24 dc24 pm24 an24 cd24 ct24), sl24⟩)
    (c24c : PySem.W.codeIn K cd24 "check_all" = true)
    (k24 : PySem.W.keepIn K (.ref f24) = true)
    (a25 : PySem.W.nsIn K mainGlobals "gone" = some (some (.ref f25)))
    (l25 : K.lookup f25 = some ⟨oc25, od25, .func (PySem.W.fnOf "gone" "gone" (defArgs s_gone) (defBody s_gone) (defScope s_gone) .none kV25 dc25 pm25 an25 cd25 ct25), sl25⟩)
    (c25c : PySem.W.codeIn K cd25 "gone" = true)
    (k25 : PySem.W.keepIn K (.ref f25) = true)
    (a26 : PySem.W.nsIn K mainGlobals "put_ins" = some (some (.ref f26)))
    (l26 : K.lookup f26 = some ⟨oc26, od26, .func (PySem.W.fnOf "put_ins" "put_ins" (defArgs s_put_ins) (defBody s_put_ins) (defScope s_put_ins) .none kV26 dc26 pm26 an26 cd26 ct26), sl26⟩)
    (c26c : PySem.W.codeIn K cd26 "put_ins" = true)
    (k26 : PySem.W.keepIn K (.ref f26) = true)
    (a27 : PySem.W.nsIn K mainGlobals "widened" = some (some (.ref f27)))
    (l27 : K.lookup f27 = some ⟨oc27, od27, .func (PySem.W.fnOf "widened" "widened" (defArgs s_widened) (defBody s_widened) (defScope s_widened) .none kV27 dc27 pm27 an27 cd27 ct27), sl27⟩)
    (c27c : PySem.W.codeIn K cd27 "widened" = true)
    (k27 : PySem.W.keepIn K (.ref f27) = true)
    (a28 : PySem.W.nsIn K mainGlobals "mend_of" = some (some (.ref f28)))
    (l28 : K.lookup f28 = some ⟨oc28, od28, .func (PySem.W.fnOf "mend_of" "mend_of" (defArgs s_mend_of) (defBody s_mend_of) (defScope s_mend_of) .none kV28 dc28 pm28 an28 cd28 ct28), sl28⟩)
    (c28c : PySem.W.codeIn K cd28 "mend_of" = true)
    (k28 : PySem.W.keepIn K (.ref f28) = true)
    (a29 : PySem.W.nsIn K mainGlobals "far" = some (some (.ref f29)))
    (l29 : K.lookup f29 = some ⟨oc29, od29, .func (PySem.W.fnOf "far" "far" (defArgs s_far) (defBody s_far) (defScope s_far) .none kV29 dc29 pm29 an29 cd29 ct29), sl29⟩)
    (c29c : PySem.W.codeIn K cd29 "far" = true)
    (k29 : PySem.W.keepIn K (.ref f29) = true)
    (a30 : PySem.W.nsIn K mainGlobals "is_even" = some (some (.ref f30)))
    (l30 : K.lookup f30 = some ⟨oc30, od30, .func (PySem.W.fnOf "is_even" "is_even" (defArgs s_is_even) (defBody s_is_even) (defScope s_is_even) .none kV30 dc30 pm30 an30 cd30 ct30), sl30⟩)
    (c30c : PySem.W.codeIn K cd30 "is_even" = true)
    (k30 : PySem.W.keepIn K (.ref f30) = true)
    (a31 : PySem.W.nsIn K mainGlobals "fitting_of" = some (some (.ref f31)))
    (l31 : K.lookup f31 = some ⟨oc31, od31, .func (PySem.W.fnOf "fitting_of" "fitting_of" (defArgs s_fitting_of) (defBody s_fitting_of) (defScope s_fitting_of) .none kV31 dc31 pm31 an31 cd31 ct31), sl31⟩)
    (c31c : PySem.W.codeIn K cd31 "fitting_of" = true)
    (k31 : PySem.W.keepIn K (.ref f31) = true)
    (a32 : PySem.W.nsIn K mainGlobals "fitting" = some (some (.ref f32)))
    (l32 : K.lookup f32 = some ⟨oc32, od32, .func (PySem.W.fnOf "fitting" "fitting" (defArgs s_fitting) (defBody s_fitting) (defScope s_fitting) .none kV32 dc32 pm32 an32 cd32 ct32), sl32⟩)
    (c32c : PySem.W.codeIn K cd32 "fitting" = true)
    (k32 : PySem.W.keepIn K (.ref f32) = true)
    (a33 : PySem.W.nsIn K mainGlobals "law" = some (some (.ref f33)))
    (l33 : K.lookup f33 = some ⟨oc33, od33, .func (PySem.W.fnOf "law" "law" (defArgs s_law) (defBody s_law) (defScope s_law) .none kV33 dc33 pm33 an33 cd33 ct33), sl33⟩)
    (c33c : PySem.W.codeIn K cd33 "law" = true)
    (k33 : PySem.W.keepIn K (.ref f33) = true)
    (pg1 : PySem.W.plainGet K c1 Str.empty = true)
    (hd1 : PySem.W.hasDictIn K c1 = true)
    (po1 : PySem.W.plainOver K c1 = true)
    (sa1 : PySem.W.findIn K (.ref c1) "__setattr__" = some (some (.builtin "object.__setattr__")))
    (mk1 : PySem.W.makesIn K c1 = true)
    (kc1 : PySem.W.keepIn K (.ref c1) = true)
    (ha1 : PySem.W.findIn K (.ref c1) "__class__" = some (some (.builtin "object.__class__")))
    (mr1 : PySem.W.mroIn K c1 (.type "object") = some true)
    (na1_0 : PySem.W.findIn K (.ref c1) "rows" = some none)
    (pg2 : PySem.W.plainGet K c2 Str.empty = true)
    (hd2 : PySem.W.hasDictIn K c2 = true)
    (po2 : PySem.W.plainOver K c2 = true)
    (sa2 : PySem.W.findIn K (.ref c2) "__setattr__" = some (some (.builtin "object.__setattr__")))
    (mk2 : PySem.W.makesIn K c2 = true)
    (kc2 : PySem.W.keepIn K (.ref c2) = true)
    (ha2 : PySem.W.findIn K (.ref c2) "__class__" = some (some (.builtin "object.__class__")))
    (mr2 : PySem.W.mroIn K c2 (.type "object") = some true)
    (na2_0 : PySem.W.findIn K (.ref c2) "place" = some none)
    (kt1_0 : PySem.W.kitOne K (.ref c1) (.ref c0) = some true)
    (kt1_1 : PySem.W.kitOne K (.ref c1) (.ref c1) = some true)
    (kt1_2 : PySem.W.kitOne K (.ref c1) (.ref c2) = some false)
    (kt2_0 : PySem.W.kitOne K (.ref c2) (.ref c0) = some true)
    (kt2_1 : PySem.W.kitOne K (.ref c2) (.ref c1) = some false)
    (kt2_2 : PySem.W.kitOne K (.ref c2) (.ref c2) = some true)
    (gt : PySem.W.specialIn K (.builtin "object.__class__") "__get__" = some (some (.builtin "getset_descriptor.__get__")))
    (tk : PySem.W.takesIn K (.builtin "object.__class__") = some true)
    (z_all : PySem.W.nsIn K mainGlobals "all" = some none)
    (z_bool : PySem.W.nsIn K mainGlobals "bool" = some none)
    (z_enumerate : PySem.W.nsIn K mainGlobals "enumerate" = some none)
    (z_int : PySem.W.nsIn K mainGlobals "int" = some none)
    (z_isinstance : PySem.W.nsIn K mainGlobals "isinstance" = some none)
    (z_len : PySem.W.nsIn K mainGlobals "len" = some none)
    (z_list : PySem.W.nsIn K mainGlobals "list" = some none)
    (z_max : PySem.W.nsIn K mainGlobals "max" = some none)
    (z_min : PySem.W.nsIn K mainGlobals "min" = some none)
    (z_range : PySem.W.nsIn K mainGlobals "range" = some none)
    (z_sorted : PySem.W.nsIn K mainGlobals "sorted" = some none)
    (z_str : PySem.W.nsIn K mainGlobals "str" = some none)
    (z_tuple : PySem.W.nsIn K mainGlobals "tuple" = some none)
    (q_AFTER : PySem.W.nsIn K mainGlobals "AFTER" = some (some (.int 4 t_AFTER)))
    (q_BARE : PySem.W.nsIn K mainGlobals "BARE" = some (some (.int 2 t_BARE)))
    (q_CELL : PySem.W.nsIn K mainGlobals "CELL" = some (some (.int 1 t_CELL)))
    (q_ESCAPED : PySem.W.nsIn K mainGlobals "ESCAPED" = some (some (.int 5 t_ESCAPED)))
    (q_ESCAPES : PySem.W.nsIn K mainGlobals "ESCAPES" = some (some (.ref p_ESCAPES)))
    (h_ESCAPES : K.lookup p_ESCAPES = some ⟨.type "tuple", dd_ESCAPES, .seq it_ESCAPES n_ESCAPES, y_ESCAPES⟩)
    (v_ESCAPES : valsD it_ESCAPES.toList = some (vs_ESCAPES, [(.str []), (.str [92])]))
    (q_LONGEST_manners : PySem.W.nsIn K mainGlobals "LONGEST_manners" = some (some (.int 200 t_LONGEST_manners)))
    (q_LONGEST_mending : PySem.W.nsIn K mainGlobals "LONGEST_mending" = some (some (.int 16 t_LONGEST_mending)))
    (q_MARKS : PySem.W.nsIn K mainGlobals "MARKS" = some (some (.ref p_MARKS)))
    (h_MARKS : K.lookup p_MARKS = some ⟨.type "tuple", dd_MARKS, .seq it_MARKS n_MARKS, y_MARKS⟩)
    (v_MARKS : valsD it_MARKS.toList = some (vs_MARKS, [(.str [44]), (.str [59]), (.str [124]), (.str [58])]))
    (q_MOST_CELLS : PySem.W.nsIn K mainGlobals "MOST_CELLS" = some (some (.int 6 t_MOST_CELLS)))
    (q_QUOTED : PySem.W.nsIn K mainGlobals "QUOTED" = some (some (.int 3 t_QUOTED)))
    (q_QUOTES : PySem.W.nsIn K mainGlobals "QUOTES" = some (some (.ref p_QUOTES)))
    (h_QUOTES : K.lookup p_QUOTES = some ⟨.type "tuple", dd_QUOTES, .seq it_QUOTES n_QUOTES, y_QUOTES⟩)
    (v_QUOTES : valsD it_QUOTES.toList = some (vs_QUOTES, [(.str []), (.str [34]), (.str [39])]))
    (q_ROW : PySem.W.nsIn K mainGlobals "ROW" = some (some (.int 0 t_ROW)))
    (q_SIGNS : PySem.W.nsIn K mainGlobals "SIGNS" = some (some (.str s_SIGNS t_SIGNS)))
    (v_SIGNS : s_SIGNS = ⟨(zs_SIGNS : List Nat).toArray⟩)
    : ∃ fd : FuncData, (∀ (s : Shared) (v : Value), BindsTo s fd ⟨[v], []⟩ [("_law_script", v)]) ∧ ∀ base : Heap, K.In base → base.Ns mainGlobals mg → FnOk l.prog w K mg base CX0 6 fa fd ["_law_script"] (spLaw K) := by
  have e := (PySem.W.mg_of X G a33).symm.trans hfa
  cases e
  obtain ⟨T, hT⟩ : ∃ T : CT, T 0 = (c0, ([] : List Str)) ∧ T 1 = (c1, (["rows"] : List Str)) ∧ T 2 = (c2, (["place"] : List Str)) :=
    ⟨fun i => match i with | 0 => (c0, ([] : List Str)) | 1 => (c1, (["rows"] : List Str)) | 2 => (c2, (["place"] : List Str)) | _ => (0, []), ⟨rfl, rfl, rfl⟩⟩
  obtain ⟨hT0, hT1, hT2⟩ := hT
  have Tx : Txt K mg T := by
    refine { n_all := PySem.W.mg_none_of X G z_all, n_bool := PySem.W.mg_none_of X G z_bool, n_enumerate := PySem.W.mg_none_of X G z_enumerate, n_int := PySem.W.mg_none_of X G z_int, n_isinstance := PySem.W.mg_none_of X G z_isinstance, n_len := PySem.W.mg_none_of X G z_len, n_list := PySem.W.mg_none_of X G z_list, n_max := PySem.W.mg_none_of X G z_max, n_min := PySem.W.mg_none_of X G z_min, n_range := PySem.W.mg_none_of X G z_range, n_sorted := PySem.W.mg_none_of X G z_sorted, n_str := PySem.W.mg_none_of X G z_str, n_tuple := PySem.W.mg_none_of X G z_tuple, g_AFTER := ?g_AFTER, g_BARE := ?g_BARE, g_CELL := ?g_CELL, g_ESCAPED := ?g_ESCAPED, g_ESCAPES := ?g_ESCAPES, g_LONGEST_manners := ?g_LONGEST_manners, g_LONGEST_mending := ?g_LONGEST_mending, g_MARKS := ?g_MARKS, g_MOST_CELLS := ?g_MOST_CELLS, g_QUOTED := ?g_QUOTED, g_QUOTES := ?g_QUOTES, g_ROW := ?g_ROW, g_SIGNS := ?g_SIGNS, mg_Answer := by rw [hT0]; exact PySem.W.mg_of X G C0, mg_Table := by rw [hT1]; exact PySem.W.mg_of X G C1, mg_Broken := by rw [hT2]; exact PySem.W.mg_of X G C2, cl_Table := by rw [hT1]; exact ⟨pg1, hd1, po1, sa1⟩, cl_Broken := by rw [hT2]; exact ⟨pg2, hd2, po2, sa2⟩, nm_Table := by rw [hT1], nm_Broken := by rw [hT2], na_Table_rows := by rw [hT1]; exact na1_0, na_Broken_place := by rw [hT2]; exact na2_0, cls := ⟨fun c k b hb => ?kit, gt, tk⟩ }
    case g_AFTER => exact glob_int (PySem.W.mg_of X G q_AFTER)
    case g_BARE => exact glob_int (PySem.W.mg_of X G q_BARE)
    case g_CELL => exact glob_int (PySem.W.mg_of X G q_CELL)
    case g_ESCAPED => exact glob_int (PySem.W.mg_of X G q_ESCAPED)
    case g_ESCAPES => exact glob_tup (PySem.W.mg_of X G q_ESCAPES) h_ESCAPES v_ESCAPES (by decide)
    case g_LONGEST_manners => exact glob_int (PySem.W.mg_of X G q_LONGEST_manners)
    case g_LONGEST_mending => exact glob_int (PySem.W.mg_of X G q_LONGEST_mending)
    case g_MARKS => exact glob_tup (PySem.W.mg_of X G q_MARKS) h_MARKS v_MARKS (by decide)
    case g_MOST_CELLS => exact glob_int (PySem.W.mg_of X G q_MOST_CELLS)
    case g_QUOTED => exact glob_int (PySem.W.mg_of X G q_QUOTED)
    case g_QUOTES => exact glob_tup (PySem.W.mg_of X G q_QUOTES) h_QUOTES v_QUOTES (by decide)
    case g_ROW => exact glob_int (PySem.W.mg_of X G q_ROW)
    case g_SIGNS => exact glob_str zs_SIGNS (PySem.W.mg_of X G q_SIGNS) v_SIGNS
    case kit =>
      unfold sub at hb
      split at hb <;> first | (cases hb; done) | skip
      · cases hb; rw [hT1, hT0]; exact ⟨kt1_0, ⟨pg1, hd1, po1, sa1⟩, ha1, mr1⟩
      · cases hb; rw [hT1]; exact ⟨kt1_1, ⟨pg1, hd1, po1, sa1⟩, ha1, mr1⟩
      · cases hb; rw [hT1, hT2]; exact ⟨kt1_2, ⟨pg1, hd1, po1, sa1⟩, ha1, mr1⟩
      · cases hb; rw [hT2, hT0]; exact ⟨kt2_0, ⟨pg2, hd2, po2, sa2⟩, ha2, mr2⟩
      · cases hb; rw [hT2, hT1]; exact ⟨kt2_1, ⟨pg2, hd2, po2, sa2⟩, ha2, mr2⟩
      · cases hb; rw [hT2]; exact ⟨kt2_2, ⟨pg2, hd2, po2, sa2⟩, ha2, mr2⟩
  have F0 := fun_mk (st := s__law_manners) l0 c0c k0
  have b0 := F0.binds (ps := []) fun _ _ _ _ _ _ us hl => match us, hl with | [], _ => rfl
  have F1 := fun_mk (st := s__law_draw) l1 c1c k1
  have b1 := F1.binds (ps := ["_law_cell", "_law_k", "_law_most"]) fun _ _ _ _ _ _ us hl => match us, hl with | [_, _, _], _ => rfl
  have F2 := fun_mk (st := s__law_number) l2 c2c k2
  have b2 := F2.binds (ps := ["_law_cell", "_law_k", "_law_limit"]) fun _ _ _ _ _ _ us hl => match us, hl with | [_, _, _], _ => rfl
  have F3 := fun_mk (st := s__law_cell_at) l3 c3c k3
  have b3 := F3.binds (ps := ["_law_script", "_law_k"]) fun _ _ _ _ _ _ us hl => match us, hl with | [_, _], _ => rfl
  have F4 := fun_mk (st := s__law_manner) l4 c4c k4
  have b4 := F4.binds (ps := ["_law_script", "_law_by"]) fun _ _ _ _ _ _ us hl => match us, hl with | [_, _], _ => rfl
  have F5 := fun_mk (st := s__law_plain) l5 c5c k5
  have b5 := F5.binds (ps := ["_law_cell", "_law_manner_here"]) fun _ _ _ _ _ _ us hl => match us, hl with | [_, _], _ => rfl
  have F6 := fun_mk (st := s__law_cell_text) l6 c6c k6
  have b6 := F6.binds (ps := ["_law_cell", "_law_manner_here"]) fun _ _ _ _ _ _ us hl => match us, hl with | [_, _], _ => rfl
  have F7 := fun_mk (st := s__law_write) l7 c7c k7
  have b7 := F7.binds (ps := ["_law_rows_here", "_law_manner_here"]) fun _ _ _ _ _ _ us hl => match us, hl with | [_, _], _ => rfl
  have F8 := fun_mk (st := s__law_cells) l8 c8c k8
  have b8 := F8.binds (ps := ["_law_script", "_law_by", "_law_manner_here"]) fun _ _ _ _ _ _ us hl => match us, hl with | [_, _, _], _ => rfl
  have F9 := fun_mk (st := s__law_rows) l9 c9c k9
  have b9 := F9.binds (ps := ["_law_script", "_law_by", "_law_manner_here"]) fun _ _ _ _ _ _ us hl => match us, hl with | [_, _, _], _ => rfl
  have F10 := fun_mk (st := s__law_text) l10 c10c k10
  have b10 := F10.binds (ps := ["_law_script", "_law_by", "_law_most"]) fun _ _ _ _ _ _ us hl => match us, hl with | [_, _, _], _ => rfl
  have F11 := fun_mk (st := s__law_swapped) l11 c11c k11
  have b11 := F11.binds (ps := ["_law_text_here", "_law_one", "_law_other"]) fun _ _ _ _ _ _ us hl => match us, hl with | [_, _, _], _ => rfl
  have F12 := fun_mk (st := s_Table_init) l12 c12c k12
  have b12 := F12.binds (ps := ["self", "rows"]) fun _ _ _ _ _ _ us hl => match us, hl with | [_, _], _ => rfl
  have F13 := fun_mk (st := s_Broken_init) l13 c13c k13
  have b13 := F13.binds (ps := ["self", "place"]) fun _ _ _ _ _ _ us hl => match us, hl with | [_, _], _ => rfl
  have F14 := fun_mk (st := s_is_signs) l14 c14c k14
  have b14 := F14.binds (ps := ["thing", "most"]) fun _ _ _ _ _ _ us hl => match us, hl with | [_, _], _ => rfl
  have F15 := fun_mk (st := s_check_text) l15 c15c k15
  have b15 := F15.binds (ps := ["text"]) fun _ _ _ _ _ _ us hl => match us, hl with | [_], _ => rfl
  have F16 := fun_mk (st := s_all_manners) l16 c16c k16
  have b16 := F16.binds (ps := []) fun _ _ _ _ _ _ us hl => match us, hl with | [], _ => rfl
  have F17 := fun_mk (st := s_check_manner) l17 c17c k17
  have b17 := F17.binds (ps := ["manner"]) fun _ _ _ _ _ _ us hl => match us, hl with | [_], _ => rfl
  have F18 := fun_mk (st := s_moved) l18 c18c k18
  have b18 := F18.binds (ps := ["manner", "state", "sign"]) fun _ _ _ _ _ _ us hl => match us, hl with | [_, _, _], _ => rfl
  have F19 := fun_mk (st := s_sign_told) l19 c19c k19
  have b19 := F19.binds (ps := ["manner", "state", "then", "sign"]) fun _ _ _ _ _ _ us hl => match us, hl with | [_, _, _, _], _ => rfl
  have F20 := fun_mk (st := s_read_of) l20 c20c k20
  have b20 := F20.binds (ps := ["text", "manner"]) fun _ _ _ _ _ _ us hl => match us, hl with | [_, _], _ => rfl
  have F21 := fun_mk (st := s_read) l21 c21c k21
  have b21 := F21.binds (ps := ["text", "manner"]) fun _ _ _ _ _ _ us hl => match us, hl with | [_, _], _ => rfl
  have F22 := fun_mk (st := s_is_whole) l22 c22c k22
  have b22 := F22.binds (ps := ["thing"]) fun _ _ _ _ _ _ us hl => match us, hl with | [_], _ => rfl
  have F23 := fun_mk (st := s_check_wide) l23 c23c k23
  have b23 := F23.binds (ps := ["wide"]) fun _ _ _ _ _ _ us hl => match us, hl with | [_], _ => rfl
  have F24 := fun_mk (st := s_check_all) l24 c24c k24
  have b24 := F24.binds (ps := ["text", "manner", "wide"]) fun _ _ _ _ _ _ us hl => match us, hl with | [_, _, _], _ => rfl
  have F25 := fun_mk (st := s_gone) l25 c25c k25
  have b25 := F25.binds (ps := ["manner", "wide", "spot", "sign"]) fun _ _ _ _ _ _ us hl => match us, hl with | [_, _, _, _], _ => rfl
  have F26 := fun_mk (st := s_put_ins) l26 c26c k26
  have b26 := F26.binds (ps := ["manner"]) fun _ _ _ _ _ _ us hl => match us, hl with | [_], _ => rfl
  have F27 := fun_mk (st := s_widened) l27 c27c k27
  have b27 := F27.binds (ps := ["manner", "wide", "line"]) fun _ _ _ _ _ _ us hl => match us, hl with | [_, _, _], _ => rfl
  have F28 := fun_mk (st := s_mend_of) l28 c28c k28
  have b28 := F28.binds (ps := ["text", "manner", "wide"]) fun _ _ _ _ _ _ us hl => match us, hl with | [_, _, _], _ => rfl
  have F29 := fun_mk (st := s_far) l29 c29c k29
  have b29 := F29.binds (ps := ["text", "manner", "wide"]) fun _ _ _ _ _ _ us hl => match us, hl with | [_, _, _], _ => rfl
  have F30 := fun_mk (st := s_is_even) l30 c30c k30
  have b30 := F30.binds (ps := ["rows"]) fun _ _ _ _ _ _ us hl => match us, hl with | [_], _ => rfl
  have F31 := fun_mk (st := s_fitting_of) l31 c31c k31
  have b31 := F31.binds (ps := ["text"]) fun _ _ _ _ _ _ us hl => match us, hl with | [_], _ => rfl
  have F32 := fun_mk (st := s_fitting) l32 c32c k32
  have b32 := F32.binds (ps := ["text"]) fun _ _ _ _ _ _ us hl => match us, hl with | [_], _ => rfl
  have F33 := fun_mk (st := s_law) l33 c33c k33
  have b33 := F33.binds (ps := ["_law_script"]) fun _ _ _ _ _ _ us hl => match us, hl with | [_], _ => rfl
  have H : ∀ base : Heap, FnOk l.prog w K mg base CX0 6 fa _ ["_law_script"] (spF K T 1 r_law) := fun base => by
    have C__law_manners : Callee l.prog w K mg base T 1 "_law_manners" r__law_manners := callee_of F0 (ok__law_manners F0 Tx) (PySem.W.mg_of X G a0) b0
    have C__law_draw : Callee l.prog w K mg base T 1 "_law_draw" r__law_draw := callee_of F1 (ok__law_draw F1 Tx) (PySem.W.mg_of X G a1) b1
    have C__law_number : Callee l.prog w K mg base T 2 "_law_number" r__law_number := callee_of F2 (ok__law_number F2 Tx C__law_draw) (PySem.W.mg_of X G a2) b2
    have C__law_cell_at : Callee l.prog w K mg base T 1 "_law_cell_at" r__law_cell_at := callee_of F3 (ok__law_cell_at F3 Tx) (PySem.W.mg_of X G a3) b3
    have C__law_manner : Callee l.prog w K mg base T 3 "_law_manner" r__law_manner := callee_of F4 (ok__law_manner F4 Tx C__law_manners C__law_number C__law_cell_at) (PySem.W.mg_of X G a4) b4
    have C__law_plain : Callee l.prog w K mg base T 1 "_law_plain" r__law_plain := callee_of F5 (ok__law_plain F5 Tx) (PySem.W.mg_of X G a5) b5
    have C__law_cell_text : Callee l.prog w K mg base T 2 "_law_cell_text" r__law_cell_text := callee_of F6 (ok__law_cell_text F6 Tx C__law_plain) (PySem.W.mg_of X G a6) b6
    have C__law_write : Callee l.prog w K mg base T 3 "_law_write" r__law_write := callee_of F7 (ok__law_write F7 Tx C__law_cell_text) (PySem.W.mg_of X G a7) b7
    have C__law_cells : Callee l.prog w K mg base T 3 "_law_cells" r__law_cells := callee_of F8 (ok__law_cells F8 Tx C__law_cell_at C__law_number) (PySem.W.mg_of X G a8) b8
    have C__law_rows : Callee l.prog w K mg base T 4 "_law_rows" r__law_rows := callee_of F9 (ok__law_rows F9 Tx C__law_cell_at C__law_number C__law_cells) (PySem.W.mg_of X G a9) b9
    have C__law_text : Callee l.prog w K mg base T 5 "_law_text" r__law_text := callee_of F10 (ok__law_text F10 Tx C__law_manner C__law_write C__law_rows C__law_cell_at C__law_number) (PySem.W.mg_of X G a10) b10
    have C__law_swapped : Callee l.prog w K mg base T 1 "_law_swapped" r__law_swapped := callee_of F11 (ok__law_swapped F11 Tx) (PySem.W.mg_of X G a11) b11
    have M_Table : MakeOk l.prog w K mg base T 1 1 "Table" i_Table := make_of F12 (ok_Table_init F12 Tx) (by rw [hT1]; exact ⟨mk1, a12, i12, kc1⟩) Tx.mg_Table b12
    have M_Broken : MakeOk l.prog w K mg base T 1 2 "Broken" i_Broken := make_of F13 (ok_Broken_init F13 Tx) (by rw [hT2]; exact ⟨mk2, a13, i13, kc2⟩) Tx.mg_Broken b13
    have C_is_signs : Callee l.prog w K mg base T 1 "is_signs" r_is_signs := callee_of F14 (ok_is_signs F14 Tx) (PySem.W.mg_of X G a14) b14
    have C_check_text : Callee l.prog w K mg base T 2 "check_text" r_check_text := callee_of F15 (ok_check_text F15 Tx C_is_signs) (PySem.W.mg_of X G a15) b15
    have C_all_manners : Callee l.prog w K mg base T 1 "all_manners" r_all_manners := callee_of F16 (ok_all_manners F16 Tx) (PySem.W.mg_of X G a16) b16
    have C_check_manner : Callee l.prog w K mg base T 2 "check_manner" r_check_manner := callee_of F17 (ok_check_manner F17 Tx C_all_manners) (PySem.W.mg_of X G a17) b17
    have C_moved : Callee l.prog w K mg base T 1 "moved" r_moved := callee_of F18 (ok_moved F18 Tx) (PySem.W.mg_of X G a18) b18
    have C_sign_told : Callee l.prog w K mg base T 1 "sign_told" r_sign_told := callee_of F19 (ok_sign_told F19 Tx) (PySem.W.mg_of X G a19) b19
    have C_read_of : Callee l.prog w K mg base T 2 "read_of" r_read_of := callee_of F20 (ok_read_of F20 Tx C_moved C_sign_told) (PySem.W.mg_of X G a20) b20
    have C_read : Callee l.prog w K mg base T 3 "read" r_read := callee_of F21 (ok_read F21 Tx M_Table M_Broken C_check_text C_check_manner C_read_of) (PySem.W.mg_of X G a21) b21
    have C_is_whole : Callee l.prog w K mg base T 1 "is_whole" r_is_whole := callee_of F22 (ok_is_whole F22 Tx) (PySem.W.mg_of X G a22) b22
    have C_check_wide : Callee l.prog w K mg base T 2 "check_wide" r_check_wide := callee_of F23 (ok_check_wide F23 Tx C_is_whole) (PySem.W.mg_of X G a23) b23
    have C_check_all : Callee l.prog w K mg base T 3 "check_all" r_check_all := callee_of F24 (ok_check_all F24 Tx C_check_text C_check_manner C_check_wide) (PySem.W.mg_of X G a24) b24
    have C_gone : Callee l.prog w K mg base T 2 "gone" r_gone := callee_of F25 (ok_gone F25 Tx C_moved) (PySem.W.mg_of X G a25) b25
    have C_put_ins : Callee l.prog w K mg base T 1 "put_ins" r_put_ins := callee_of F26 (ok_put_ins F26 Tx) (PySem.W.mg_of X G a26) b26
    have CD_widened : CalleeD l.prog w K mg base T 3 "widened" 2 rd_widened := calleeD_of F27 (ok_widened F27 Tx C_put_ins C_gone) (PySem.W.mg_of X G a27) b27
    have C_mend_of : Callee l.prog w K mg base T 4 "mend_of" r_mend_of := callee_of F28 (ok_mend_of F28 Tx C_gone CD_widened) (PySem.W.mg_of X G a28) b28
    have C_far : Callee l.prog w K mg base T 5 "far" r_far := callee_of F29 (ok_far F29 Tx C_check_all C_mend_of) (PySem.W.mg_of X G a29) b29
    have C_is_even : Callee l.prog w K mg base T 1 "is_even" r_is_even := callee_of F30 (ok_is_even F30 Tx) (PySem.W.mg_of X G a30) b30
    have C_fitting_of : Callee l.prog w K mg base T 3 "fitting_of" r_fitting_of := callee_of F31 (ok_fitting_of F31 Tx C_all_manners C_read_of C_is_even) (PySem.W.mg_of X G a31) b31
    have C_fitting : Callee l.prog w K mg base T 4 "fitting" r_fitting := callee_of F32 (ok_fitting F32 Tx C_check_text C_fitting_of) (PySem.W.mg_of X G a32) b32
    exact ok_law F33 Tx C__law_text C__law_swapped C__law_manner C_read C_far C_fitting
  refine ⟨PySem.W.fnOf "law" "law" (defArgs s_law) (defBody s_law) (defScope s_law) .none kV33 dc33 pm33 an33 cd33 ct33, fun s v => .of_eq rfl, fun base _ _ => (H base).imp fun vs H Q E h => ?_⟩
  obtain ⟨a, ns, rfl, hS, hl, k⟩ := h
  exact ⟨rfl, H, [.scr ns], .bl true, Same.refl H, .cons (.scr hS) .nil, plain ns hl, fun v G' H' _ r => by cases r; exact k H'⟩
end W

/-! ### what the denotations answer at data with open parts: rewriting rules, loops by an invariant -/
namespace PL
open PySem PySem.Spec PyProof.Rows L2

/-! the environment -/
@[simp] theorem gV_zero (d : Dt) (r : PL.Env) : gV (.val d :: r) 0 = some d := (rfl)
@[simp] theorem gV_zeroN (r : PL.Env) : gV (.no :: r) 0 = none := (rfl)
@[simp] theorem gV_zeroO (l : List Dt) (r : PL.Env) : gV (.own l :: r) 0 = none := (rfl)
@[simp] theorem gV_succ (s : Sl) (r : PL.Env) (i : Nat) : gV (s :: r) (i + 1) = gV r i := (rfl)
@[simp] theorem gO_zero (d : List Dt) (r : PL.Env) : gO (.own d :: r) 0 = some d := (rfl)
@[simp] theorem gO_succ (s : Sl) (r : PL.Env) (i : Nat) : gO (s :: r) (i + 1) = gO r i := (rfl)
@[simp] theorem frzE_nil : frzE [] = [] := (rfl)
@[simp] theorem frzE_cons (s : Sl) (r : PL.Env) : frzE (s :: r) = frz1 s :: frzE r := (rfl)
@[simp] theorem frz1_no : frz1 .no = .no := (rfl)
@[simp] theorem frz1_val (d : Dt) : frz1 (.val d) = .val d := (rfl)
@[simp] theorem frz1_own (d : List Dt) : frz1 (.own d) = .val (.lst d) := (rfl)
@[simp] theorem frzAt_zero (l : List Dt) (r : PL.Env) : frzAt 0 (.own l :: r) = .val (.lst l) :: r := (rfl)
@[simp] theorem frzAt_zeroV (d : Dt) (r : PL.Env) : frzAt 0 (.val d :: r) = .val d :: r := (rfl)
@[simp] theorem frzAt_zeroN (r : PL.Env) : frzAt 0 (.no :: r) = .no :: r := (rfl)
@[simp] theorem frzAt_succ (s : Sl) (r : PL.Env) (i : Nat) : frzAt (i + 1) (s :: r) = s :: frzAt i r := by
  unfold frzAt
  simp only [List.getElem?_cons_succ]
  split <;> simp_all
@[simp] theorem wipeE_nil (r : PL.Env) : wipeE r [] = r := (rfl)
@[simp] theorem wipeE_cons (r : PL.Env) (v : Nat) (vs : List Nat) : wipeE r (v :: vs) = (wipeE r vs).set v .no := (rfl)

/-! binding (not by the core's own, so that no step is checked by unfolding what is bound) -/
def bO {α β : Type} (x : Option α) (f : α → Option β) : Option β := x.bind f
@[simp] theorem bO_some {α β : Type} (x : α) (f : α → Option β) : bO (some x) f = f x := (rfl)
@[simp] theorem bO_none {α β : Type} (f : α → Option β) : bO none f = none := (rfl)
/-! expressions -/
@[simp] theorem e_fV (i : Nat) (r : PL.Env) : fV i r = gV r i := (rfl)
@[simp] theorem e_fC (d : Dt) (r : PL.Env) : fC d r = some d := (rfl)
@[simp] theorem e_fOp (f : Dt → Dt → Option Dt) (a b : PL.Env → Option Dt) (r : PL.Env) : fOp f a b r = bO (a r) fun x => bO (b r) fun y => f x y := (rfl)
@[simp] theorem e_fUn (f : Dt → Option Dt) (a : PL.Env → Option Dt) (r : PL.Env) : fUn f a r = bO (a r) f := (rfl)
@[simp] theorem e_fNeg (i : Int) : fNeg (.int i) = some (.int (-i)) := (rfl)
@[simp] theorem e_fNotV (b : Bool) : fNotV (.bl b) = some (.bl (!b)) := (rfl)
def blO : Option Dt → Option Bool
  | some (.bl b) => some b
  | _ => none
@[simp] theorem blO_some (b : Bool) : blO (some (.bl b)) = some b := (rfl)
@[simp] theorem e_asB (f : PL.Env → Option Dt) (r : PL.Env) : asB f r = blO (f r) := by unfold asB blO; rfl
def andO (a : Option Bool) (b : Option Bool) : Option Bool := match a with
  | some true => b
  | some false => some false
  | none => none
def orO (a : Option Bool) (b : Option Bool) : Option Bool := match a with
  | some true => some true
  | some false => b
  | none => none
@[simp] theorem andO_t (b : Option Bool) : andO (some true) b = b := (rfl)
@[simp] theorem andO_f (b : Option Bool) : andO (some false) b = some false := (rfl)
@[simp] theorem andO_s (a b : Bool) : andO (some a) (some b) = some (a && b) := by cases a <;> rfl
@[simp] theorem orO_t (b : Option Bool) : orO (some true) b = some true := (rfl)
@[simp] theorem orO_f (b : Option Bool) : orO (some false) b = b := (rfl)
@[simp] theorem orO_s (a b : Bool) : orO (some a) (some b) = some (a || b) := by cases a <;> rfl
@[simp] theorem e_fAnd (a b : PL.Env → Option Bool) (r : PL.Env) : fAnd a b r = andO (a r) (b r) := by unfold fAnd andO; rfl
@[simp] theorem e_fOr (a b : PL.Env → Option Bool) (r : PL.Env) : fOr a b r = orO (a r) (b r) := by unfold fOr orO; rfl
@[simp] theorem e_fNot (a : PL.Env → Option Bool) (r : PL.Env) : fNot a r = (a r).map (!·) := (rfl)
def andV (a b : Option Dt) : Option Dt := match a with
  | some (.bl true) => b
  | some (.bl false) => some (.bl false)
  | _ => none
def orV (a b : Option Dt) : Option Dt := match a with
  | some (.bl true) => some (.bl true)
  | some (.bl false) => b
  | _ => none
@[simp] theorem andV_t (b : Option Dt) : andV (some (.bl true)) b = b := (rfl)
@[simp] theorem andV_f (b : Option Dt) : andV (some (.bl false)) b = some (.bl false) := (rfl)
@[simp] theorem andV_s (a b : Bool) : andV (some (.bl a)) (some (.bl b)) = some (.bl (a && b)) := by cases a <;> rfl
@[simp] theorem orV_t (b : Option Dt) : orV (some (.bl true)) b = some (.bl true) := (rfl)
@[simp] theorem orV_f (b : Option Dt) : orV (some (.bl false)) b = b := (rfl)
@[simp] theorem orV_s (a b : Bool) : orV (some (.bl a)) (some (.bl b)) = some (.bl (a || b)) := by cases a <;> rfl
@[simp] theorem e_fAndV (a b : PL.Env → Option Dt) (r : PL.Env) : fAndV a b r = andV (a r) (b r) := by unfold fAndV andV; rfl
@[simp] theorem e_fOrV (a b : PL.Env → Option Dt) (r : PL.Env) : fOrV a b r = orV (a r) (b r) := by unfold fOrV orV; rfl
def ifO {α : Type} (c : Option Bool) (a b : Option α) : Option α := match c with
  | some true => a
  | some false => b
  | none => none
@[simp] theorem ifO_t {α : Type} (a b : Option α) : ifO (some true) a b = a := (rfl)
@[simp] theorem ifO_f {α : Type} (a b : Option α) : ifO (some false) a b = b := (rfl)
@[simp] theorem ifO_s {α : Type} (c : Bool) (a b : Option α) : ifO (some c) a b = if c = true then a else b := by cases c <;> rfl
@[simp] theorem ifO_d {α : Type} (p : Prop) [Decidable p] (a b : Option α) : ifO (some (decide p)) a b = if p then a else b := by
  by_cases h : p <;> simp [h]
@[simp] theorem ifO_n {α : Type} (p : Bool) (a b : Option α) : ifO (some (!p)) a b = ifO (some p) b a := by cases p <;> rfl
@[simp] theorem e_fIf (t : PL.Env → Option Bool) (a b : PL.Env → Option Dt) (r : PL.Env) : fIf t a b r = ifO (t r) (a r) (b r) := by unfold fIf ifO; rfl
@[simp] theorem e_fNil (r : PL.Env) : fNil r = some [] := (rfl)
@[simp] theorem e_fCons (a : PL.Env → Option Dt) (b : PL.Env → Option (List Dt)) (r : PL.Env) : fCons a b r = bO (a r) fun x => (b r).map fun xs => x :: xs := (rfl)
def tupO : Option (List Dt) → Option Dt
  | some l => if l.length ≤ 100000 then some (.tup l) else none
  | none => none
@[simp] theorem e_fTup (a : PL.Env → Option (List Dt)) (r : PL.Env) : fTup a r = tupO (a r) := by unfold fTup tupO; rfl
theorem tupO_some (l : List Dt) (h : l.length ≤ 100000) : tupO (some l) = some (.tup l) := if_pos h
@[simp] theorem tupO_0 : tupO (some []) = some (.tup []) := (rfl)
@[simp] theorem tupO_1 (a : Dt) : tupO (some [a]) = some (.tup [a]) := (rfl)
@[simp] theorem tupO_2 (a b : Dt) : tupO (some [a, b]) = some (.tup [a, b]) := (rfl)
@[simp] theorem tupO_3 (a b c : Dt) : tupO (some [a, b, c]) = some (.tup [a, b, c]) := (rfl)
@[simp] theorem tupO_4 (a b c d : Dt) : tupO (some [a, b, c, d]) = some (.tup [a, b, c, d]) := (rfl)
@[simp] theorem tupO_5 (a b c d e : Dt) : tupO (some [a, b, c, d, e]) = some (.tup [a, b, c, d, e]) := (rfl)
@[simp] theorem tupO_6 (a b c d e f : Dt) : tupO (some [a, b, c, d, e, f]) = some (.tup [a, b, c, d, e, f]) := (rfl)
@[simp] theorem tupO_7 (a b c d e f g : Dt) : tupO (some [a, b, c, d, e, f, g]) = some (.tup [a, b, c, d, e, f, g]) := (rfl)
@[simp] theorem tupO_8 (x0 x1 x2 x3 x4 x5 x6 x7 : Dt) : tupO (some [x0, x1, x2, x3, x4, x5, x6, x7]) = some (.tup [x0, x1, x2, x3, x4, x5, x6, x7]) := (rfl)
@[simp] theorem tupO_9 (x0 x1 x2 x3 x4 x5 x6 x7 x8 : Dt) : tupO (some [x0, x1, x2, x3, x4, x5, x6, x7, x8]) = some (.tup [x0, x1, x2, x3, x4, x5, x6, x7, x8]) := (rfl)
@[simp] theorem tupO_10 (x0 x1 x2 x3 x4 x5 x6 x7 x8 x9 : Dt) : tupO (some [x0, x1, x2, x3, x4, x5, x6, x7, x8, x9]) = some (.tup [x0, x1, x2, x3, x4, x5, x6, x7, x8, x9]) := (rfl)
@[simp] theorem tupO_11 (x0 x1 x2 x3 x4 x5 x6 x7 x8 x9 x10 : Dt) : tupO (some [x0, x1, x2, x3, x4, x5, x6, x7, x8, x9, x10]) = some (.tup [x0, x1, x2, x3, x4, x5, x6, x7, x8, x9, x10]) := (rfl)
@[simp] theorem tupO_12 (x0 x1 x2 x3 x4 x5 x6 x7 x8 x9 x10 x11 : Dt) : tupO (some [x0, x1, x2, x3, x4, x5, x6, x7, x8, x9, x10, x11]) = some (.tup [x0, x1, x2, x3, x4, x5, x6, x7, x8, x9, x10, x11]) := (rfl)
@[simp] theorem tupO_13 (x0 x1 x2 x3 x4 x5 x6 x7 x8 x9 x10 x11 x12 : Dt) : tupO (some [x0, x1, x2, x3, x4, x5, x6, x7, x8, x9, x10, x11, x12]) = some (.tup [x0, x1, x2, x3, x4, x5, x6, x7, x8, x9, x10, x11, x12]) := (rfl)
@[simp] theorem tupO_14 (x0 x1 x2 x3 x4 x5 x6 x7 x8 x9 x10 x11 x12 x13 : Dt) : tupO (some [x0, x1, x2, x3, x4, x5, x6, x7, x8, x9, x10, x11, x12, x13]) = some (.tup [x0, x1, x2, x3, x4, x5, x6, x7, x8, x9, x10, x11, x12, x13]) := (rfl)
@[simp] theorem tupO_15 (x0 x1 x2 x3 x4 x5 x6 x7 x8 x9 x10 x11 x12 x13 x14 : Dt) : tupO (some [x0, x1, x2, x3, x4, x5, x6, x7, x8, x9, x10, x11, x12, x13, x14]) = some (.tup [x0, x1, x2, x3, x4, x5, x6, x7, x8, x9, x10, x11, x12, x13, x14]) := (rfl)
@[simp] theorem tupO_16 (x0 x1 x2 x3 x4 x5 x6 x7 x8 x9 x10 x11 x12 x13 x14 x15 : Dt) : tupO (some [x0, x1, x2, x3, x4, x5, x6, x7, x8, x9, x10, x11, x12, x13, x14, x15]) = some (.tup [x0, x1, x2, x3, x4, x5, x6, x7, x8, x9, x10, x11, x12, x13, x14, x15]) := (rfl)

/-! operations at data -/
@[simp] theorem addD_i (i j : Int) : addD (.int i) (.int j) = some (.int (i + j)) := (rfl)
@[simp] theorem addD_s (a b : List Nat) (h : a.length + b.length ≤ 1000000) : addD (.str a) (.str b) = some (.str (a ++ b)) := if_pos h
@[simp] theorem addD_s1 (a : List Nat) (c : Nat) (h : a.length < 1000000) : addD (.str a) (.str [c]) = some (.str (a ++ [c])) := addD_s a [c] h
@[simp] theorem addD_l1 (a : List Dt) (c : Dt) (h : a.length < 100000) : addD (.lst a) (.lst [c]) = some (.lst (a ++ [c])) := if_pos h
@[simp] theorem addD_l (a b : List Dt) (h : a.length + b.length ≤ 100000) : addD (.lst a) (.lst b) = some (.lst (a ++ b)) := if_pos h
@[simp] theorem subD_i (i j : Int) : subD (.int i) (.int j) = some (.int (i - j)) := (rfl)
theorem mulI_i (i j : Int) (h : (-(2 ^ 64) < i ∧ i < 2 ^ 64) ∨ (-(2 ^ 64) < j ∧ j < 2 ^ 64) ∨ i.natAbs.log2 + j.natAbs.log2 < 1000000) : mulI (.int i) (.int j) = some (.int (i * j)) := if_pos h
@[simp] theorem mulI_l (i j : Int) (h1 : -18446744073709551616 < i) (h2 : i < 18446744073709551616) : mulI (.int i) (.int j) = some (.int (i * j)) := mulI_i i j (.inl ⟨h1, h2⟩)
@[simp] theorem mulI_r (i j : Int) (h1 : -18446744073709551616 < j) (h2 : j < 18446744073709551616) : mulI (.int i) (.int j) = some (.int (i * j)) := mulI_i i j (.inr (.inl ⟨h1, h2⟩))
@[simp] theorem modD_i (i j : Int) (h : 0 < j) : modD (.int i) (.int j) = some (.int (i % j)) := if_pos h
@[simp] theorem fdvD_i (i j : Int) (h : 0 < j) (h2 : j < 1073741824) : fdvD (.int i) (.int j) = some (.int (i / j)) := if_pos ⟨h, h2⟩
@[simp] theorem powD_i (i j : Int) (h : 0 ≤ j) (h2 : j ≤ 1000) (h3 : i.natAbs < 18446744073709551616) : powD (.int i) (.int j) = some (.int (i ^ j.toNat)) := if_pos ⟨h, h2, h3⟩
@[simp] theorem ltD_i (i j : Int) : ltD (.int i) (.int j) = some (.bl (decide (i < j))) := (rfl)
@[simp] theorem leD_i (i j : Int) : leD (.int i) (.int j) = some (.bl (decide (i ≤ j))) := (rfl)
@[simp] theorem gtD_i (i j : Int) : gtD (.int i) (.int j) = some (.bl (decide (j < i))) := (rfl)
@[simp] theorem geD_i (i j : Int) : geD (.int i) (.int j) = some (.bl (decide (j ≤ i))) := (rfl)
@[simp] theorem eqD_i (i j : Int) : eqD (.int i) (.int j) = some (.bl (decide (i = j))) := (rfl)
@[simp] theorem eqD_s (i j : List Nat) : eqD (.str i) (.str j) = some (.bl (decide (i = j))) := (rfl)
@[simp] theorem neD_i (i j : Int) : neD (.int i) (.int j) = some (.bl (!decide (i = j))) := (rfl)
@[simp] theorem neD_s (i j : List Nat) : neD (.str i) (.str j) = some (.bl (!decide (i = j))) := (rfl)
@[simp] theorem isD_n (d : Dt) : isD d .non = some (.bl (match d with | .non => true | _ => false)) := by unfold isD; cases d <;> rfl
@[simp] theorem isnD_n (d : Dt) : isnD d .non = some (.bl (match d with | .non => false | _ => true)) := by unfold isnD; cases d <;> rfl
theorem inText_1 (c : Nat) (z : List Nat) : inD (.str [c]) (.str z) = some (.bl (z.contains c)) := rfl
theorem niText_1 (c : Nat) (z : List Nat) : niD (.str [c]) (.str z) = some (.bl (!z.contains c)) := rfl
@[simp] theorem inD_text (c : Nat) (z : List Nat) : inD (.str [c]) (.str z) = some (.bl (z.contains c)) := (rfl)
@[simp] theorem niD_text (c : Nat) (z : List Nat) : niD (.str [c]) (.str z) = some (.bl (!z.contains c)) := (rfl)
@[simp] theorem lenD_l (l : List Dt) : lenD [.lst l] = some (.int l.length) := (rfl)
@[simp] theorem lenD_t (l : List Dt) : lenD [.tup l] = some (.int l.length) := (rfl)
@[simp] theorem lenD_c (l : List Int) : lenD [.scr l] = some (.int l.length) := (rfl)
@[simp] theorem lenD_s (l : List Nat) (h : l.length ≤ 1000000) : lenD [.str l] = some (.int l.length) := if_pos h
@[simp] theorem maxD_i (i j : Int) : maxD [.int i, .int j] = some (.int (if j > i then j else i)) := (rfl)
@[simp] theorem minD_i (i j : Int) : minD [.int i, .int j] = some (.int (if j < i then j else i)) := (rfl)
@[simp] theorem absD_i (i : Int) : absD [.int i] = some (.int (if i < 0 then -i else i)) := (rfl)
@[simp] theorem e_fCall (f : List Dt → Option Dt) (a : PL.Env → Option (List Dt)) (r : PL.Env) : fCall f a r = bO (a r) f := (rfl)
@[simp] theorem e_fMake (c : Nat) (f : List Dt → Option (List Dt)) (a : PL.Env → Option (List Dt)) (r : PL.Env) : fMake c f a r = (bO (a r) f).map (Dt.obj c) := (rfl)
@[simp] theorem fldD_0 (c : Nat) (a : Dt) (l : List Dt) : fldD c 0 (.obj c (a :: l)) = some a := by unfold fldD; simp
@[simp] theorem fldD_1 (c : Nat) (a b : Dt) (l : List Dt) : fldD c 1 (.obj c (a :: b :: l)) = some b := by unfold fldD; simp
theorem e_fldD (c i : Nat) (l : List Dt) : fldD c i (.obj c l) = l[i]? := by unfold fldD; simp

/-! lists, iterables -/
@[simp] theorem e_fLst (a : PL.Env → Option (List Dt)) (r : PL.Env) (l : List Dt) (h : a r = some l) (hl : l.length ≤ 100000) : fLst a r = some l := by unfold fLst; rw [h]; simp [hl]
@[simp] theorem e_fL (a : PL.Env → Option (List Dt)) (r : PL.Env) : fL a r = (a r).map Dt.lst := (rfl)
@[simp] theorem e_fItems (a : PL.Env → Option Dt) (r : PL.Env) : fItems a r = bO (a r) itemsD := (rfl)
@[simp] theorem e_fArgs (f : List Dt → Option (List Dt)) (a : PL.Env → Option (List Dt)) (r : PL.Env) : fArgs f a r = bO (a r) f := (rfl)
@[simp] theorem itemsD_l (l : List Dt) : itemsD (.lst l) = some l := (rfl)
@[simp] theorem itemsD_t (l : List Dt) : itemsD (.tup l) = some l := (rfl)
@[simp] theorem itemsD_c (l : List Int) : itemsD (.scr l) = some (l.map Dt.int) := (rfl)
@[simp] theorem itemsD_s (l : List Nat) : itemsD (.str l) = some (signsOf l) := (rfl)
@[simp] theorem e_fYes (r : PL.Env) : fYes r = some true := (rfl)
@[simp] theorem rng1_i (j : Int) (h1 : -100000 ≤ j) (h2 : j ≤ 100000) : rng1 [.int j] = some (rangeL 0 1 j.toNat) := if_pos ⟨h1, h2⟩
@[simp] theorem rng2_i (i j : Int) (h1 : -100000 ≤ i) (h2 : i ≤ 100000) (h3 : -100000 ≤ j) (h4 : j ≤ 100000) : rng2 [.int i, .int j] = some (rangeL i 1 (j - i).toNat) := if_pos ⟨h1, h2, h3, h4⟩
@[simp] theorem rng3_i (i j c : Int) (h1 : -100000 ≤ i) (h2 : i ≤ 100000) (h3 : -100000 ≤ j) (h4 : j ≤ 100000) (h5 : 0 < c) (h6 : c ≤ 100000) : rng3 [.int i, .int j, .int c] = some (rangeL i c (if i < j then (j - i - 1) / c + 1 else 0).toNat) := if_pos ⟨h1, h2, h3, h4, h5, h6⟩
@[simp] theorem e_oNo (r : PL.Env) : oNo r = some none := (rfl)
def intO : Option Dt → Option (Option Int)
  | some (.int i) => some (some i)
  | _ => none
@[simp] theorem intO_s (i : Int) : intO (some (.int i)) = some (some i) := (rfl)
@[simp] theorem e_oSo (f : PL.Env → Option Dt) (r : PL.Env) : oSo f r = intO (f r) := by unfold oSo intO; rfl
@[simp] theorem e_fSlice (a : PL.Env → Option Dt) (lo hi : PL.Env → Option (Option Int)) (r : PL.Env) : fSlice a lo hi r = bO (a r) fun d => bO (lo r) fun l => bO (hi r) fun h => sliceD d l h := (rfl)
@[simp] theorem sliceD_s (z : List Nat) (lo hi : Option Int) (h : z.length ≤ 1000000) : sliceD (.str z) lo hi = some (.str (cutL z lo hi)) := if_pos h
@[simp] theorem sliceD_l (z : List Dt) (lo hi : Option Int) : sliceD (.lst z) lo hi = some (.lst (cutL z lo hi)) := (rfl)

/-! statements -/
def seqO (o : Option Out) (b : PL.Env → Option Out) : Option Out := match o with
  | some (.nx r') => b r'
  | o => o
@[simp] theorem seqO_nx (r : PL.Env) (b : PL.Env → Option Out) : seqO (some (.nx r)) b = b r := (rfl)
@[simp] theorem seqO_rt (d : Dt) (b : PL.Env → Option Out) : seqO (some (.rt d)) b = some (.rt d) := (rfl)
@[simp] theorem seqO_bk (d : PL.Env) (b : PL.Env → Option Out) : seqO (some (.bk d)) b = some (.bk d) := (rfl)
@[simp] theorem seqO_ct (d : PL.Env) (b : PL.Env → Option Out) : seqO (some (.ct d)) b = some (.ct d) := (rfl)
@[simp] theorem e_fSeq (a b : PL.Env → Option Out) (r : PL.Env) : fSeq a b r = seqO (a r) b := by unfold fSeq seqO; rfl
@[simp] theorem seqO_if (p : Prop) [Decidable p] (x y : Option Out) (b : PL.Env → Option Out) : seqO (if p then x else y) b = if p then seqO x b else seqO y b := by split <;> rfl
@[simp] theorem e_fNext (r : PL.Env) : fNext r = some (.nx r) := (rfl)
@[simp] theorem e_fFrz (j : Nat) (a : PL.Env → Option Out) (r : PL.Env) : fFrz j a r = a (frzAt j r) := (rfl)
@[simp] theorem e_fSet (i : Nat) (f : PL.Env → Option Dt) (r : PL.Env) : fSet i f r = (f r).map fun d => .nx (r.set i (.val d)) := (rfl)
@[simp] theorem e_fSetO (i : Nat) (f : PL.Env → Option (List Dt)) (r : PL.Env) : fSetO i f r = (f r).map fun d => .nx (r.set i (.own d)) := (rfl)
@[simp] theorem e_tNm (i : Nat) (d : Dt) (r : PL.Env) : tNm i d r = some (r.set i (.val d)) := (rfl)
@[simp] theorem e_tTp (is : List Nat) (ds : List Dt) (r : PL.Env) : tTp is (.tup ds) r = tNs is ds r := (rfl)
@[simp] theorem e_tNs_nil (r : PL.Env) : tNs [] [] r = some r := (rfl)
@[simp] theorem e_tNs_cons (i : Nat) (is : List Nat) (d : Dt) (ds : List Dt) (r : PL.Env) : tNs (i :: is) (d :: ds) r = tNs is ds (r.set i (.val d)) := (rfl)
@[simp] theorem e_fAsg (t : Dt → PL.Env → Option PL.Env) (f : PL.Env → Option Dt) (r : PL.Env) : fAsg t f r = bO (f r) fun d => (t d r).map .nx := (rfl)
@[simp] theorem e_fMs_nil (r : PL.Env) : fMs [] r = some [] := (rfl)
@[simp] theorem e_fMs_v (f : PL.Env → Option Dt) (l : List Me) (r : PL.Env) : fMs (.v f :: l) r = bO (f r) fun d => (fMs l r).map fun s => .val d :: s := (rfl)
@[simp] theorem e_fMs_o (f : PL.Env → Option (List Dt)) (l : List Me) (r : PL.Env) : fMs (.o f :: l) r = bO (f r) fun d => (fMs l r).map fun s => .own d :: s := (rfl)
@[simp] theorem e_fPar (is : List Nat) (l : List Me) (r : PL.Env) : fPar is l r = (fMs l r).map fun ss => .nx (setS is ss r) := (rfl)
@[simp] theorem e_setS_cons (i : Nat) (is : List Nat) (s : Sl) (ss : List Sl) (r : PL.Env) : setS (i :: is) (s :: ss) r = setS is ss (r.set i s) := (rfl)
@[simp] theorem e_setS_nil (r : PL.Env) : setS [] [] r = r := (rfl)
@[simp] theorem e_fIfS (c : PL.Env → Option Bool) (a b : PL.Env → Option Out) (r : PL.Env) : fIfS c a b r = ifO (c (frzE r)) (a r) (b r) := by unfold fIfS ifO; rfl
@[simp] theorem e_fRet (f : PL.Env → Option Dt) (r : PL.Env) : fRet f r = (f r).map .rt := (rfl)
@[simp] theorem e_fRetN (r : PL.Env) : fRetN r = some (.rt .non) := (rfl)
@[simp] theorem e_fDrop (f : PL.Env → Option Dt) (r : PL.Env) : fDrop f r = (f r).map fun _ => .nx r := (rfl)
theorem e_fApp (i : Nat) (f : PL.Env → Option Dt) (r : PL.Env) {ds : List Dt} {d : Dt} (h1 : gO r i = some ds) (h2 : f r = some d) : fApp i f r = if ds.length ≤ 100000 then some (.nx (r.set i (.own (ds ++ [d])))) else none := by unfold fApp; rw [h1, h2]
def appO (i : Nat) (r : PL.Env) : Option (List Dt) → Option Dt → Option Out
  | some ds, some d => if ds.length ≤ 100000 then some (.nx (r.set i (.own (ds ++ [d])))) else none
  | _, _ => none
@[simp] theorem e_fApp' (i : Nat) (f : PL.Env → Option Dt) (r : PL.Env) : fApp i f r = appO i r (gO r i) (f r) := by unfold fApp appO; rfl
@[simp] theorem appO_s (i : Nat) (r : PL.Env) (ds : List Dt) (d : Dt) (h : ds.length ≤ 100000) : appO i r (some ds) (some d) = some (.nx (r.set i (.own (ds ++ [d])))) := if_pos h
@[simp] theorem e_fFor (f : PL.Env → Option (List Dt)) (t : Dt → PL.Env → Option PL.Env) (b : PL.Env → Option Out) (r : PL.Env) : fFor f t b r = bO (f r) fun items => loopF t b items r := (rfl)

/-! loops -/
/-- one turn of a loop -/
def turnO (t : Dt → PL.Env → Option PL.Env) (b : PL.Env → Option Out) (x : Dt) (r : PL.Env) : Option Out := (t x r).bind b
theorem loop_cons {t : Dt → PL.Env → Option PL.Env} {b : PL.Env → Option Out} {x : Dt} {xs : List Dt} {r : PL.Env} : loopF t b (x :: xs) r = match turnO t b x r with
      | some (.nx r2) => loopF t b xs r2
      | some (.ct r2) => loopF t b xs r2
      | some (.bk r2) => some (.nx r2)
      | some (.rt d) => some (.rt d)
      | none => none := by
  unfold turnO
  show (match t x r with | none => none | some r1 => _) = _
  cases t x r with
  | none => rfl
  | some r1 => rfl
theorem loop_nil {t : Dt → PL.Env → Option PL.Env} {b : PL.Env → Option Out} {r : PL.Env} : loopF t b [] r = some (.nx r) := rfl
/-- each turn goes on and keeps the invariant -/
theorem loop_inv {t : Dt → PL.Env → Option PL.Env} {b : PL.Env → Option Out} (I : PL.Env → Prop) : ∀ (items : List Dt) (r : PL.Env), (∀ x ∈ items, ∀ r, I r → ∃ r2, (turnO t b x r = some (.nx r2) ∨ turnO t b x r = some (.ct r2)) ∧ I r2) → I r → ∃ r', loopF t b items r = some (.nx r') ∧ I r'
  | [], r, _, h => ⟨r, rfl, h⟩
  | x :: xs, r, hb, h => by
    obtain ⟨r2, e, h2⟩ := hb x (.head _) r h
    obtain ⟨r', e', h'⟩ := loop_inv I xs r2 (fun y hy => hb y (.tail _ hy)) h2
    refine ⟨r', ?_, h'⟩
    rw [loop_cons]
    rcases e with e | e <;> rw [e] <;> exact e'
/-- each turn goes on, the invariant over what is done and what is left -/
theorem loop_ix {t : Dt → PL.Env → Option PL.Env} {b : PL.Env → Option Out} (I : Nat → PL.Env → Prop) (items : List Dt) (hb : ∀ (k : Nat) (x : Dt), items[k]? = some x → ∀ r, I k r → ∃ r2, (turnO t b x r = some (.nx r2) ∨ turnO t b x r = some (.ct r2)) ∧ I (k + 1) r2) :
    ∀ (n k : Nat) (r : PL.Env), k + n = items.length → I k r → ∃ r', loopF t b (items.drop k) r = some (.nx r') ∧ I items.length r'
  | 0, k, r, e, h => by
    have : items.drop k = [] := List.drop_eq_nil_of_le (by omega)
    rw [this]
    have e' : k = items.length := by omega
    exact ⟨r, rfl, e' ▸ h⟩
  | n + 1, k, r, e, h => by
    have hk : k < items.length := by omega
    rw [List.drop_eq_getElem_cons hk, loop_cons]
    obtain ⟨r2, e2, h2⟩ := hb k items[k] (List.getElem?_eq_getElem hk) r h
    obtain ⟨r', e', h'⟩ := loop_ix I items hb n (k + 1) r2 (by omega) h2
    refine ⟨r', ?_, h'⟩
    rcases e2 with e2 | e2 <;> rw [e2] <;> exact e'
theorem loop_ix0 {t : Dt → PL.Env → Option PL.Env} {b : PL.Env → Option Out} (I : Nat → PL.Env → Prop) (items : List Dt) (r : PL.Env) (hb : ∀ (k : Nat) (x : Dt), items[k]? = some x → ∀ r, I k r → ∃ r2, (turnO t b x r = some (.nx r2) ∨ turnO t b x r = some (.ct r2)) ∧ I (k + 1) r2) (h : I 0 r) :
    ∃ r', loopF t b items r = some (.nx r') ∧ I items.length r' := loop_ix I items hb items.length 0 r (by omega) h
/-- a loop over a mapped list as a fold of plain states -/
theorem loop_fold {α σ : Type} {t : Dt → PL.Env → Option PL.Env} {b : PL.Env → Option Out} (I : σ → PL.Env → Prop) (dt : α → Dt) (step : σ → α → σ) : ∀ (l : List α) (s : σ) (r : PL.Env), (∀ x ∈ l, ∀ s r, I s r → ∃ r2, (turnO t b (dt x) r = some (.nx r2) ∨ turnO t b (dt x) r = some (.ct r2)) ∧ I (step s x) r2) → I s r → ∃ r', loopF t b (l.map dt) r = some (.nx r') ∧ I (l.foldl step s) r'
  | [], s, r, _, h => ⟨r, rfl, h⟩
  | x :: xs, s, r, hb, h => by
    obtain ⟨r2, e, h2⟩ := hb x (.head _) s r h
    obtain ⟨r', e', h'⟩ := loop_fold I dt step xs (step s x) r2 (fun y hy => hb y (.tail _ hy)) h2
    refine ⟨r', ?_, h'⟩
    rw [List.map_cons, loop_cons]
    rcases e with e | e <;> rw [e] <;> exact e'
/-- a loop that looks for a first -/
theorem loop_any {α : Type} {t : Dt → PL.Env → Option PL.Env} {b : PL.Env → Option Out} (I : PL.Env → Prop) (dt : α → Dt) (p : α → Bool) (d : Dt) : ∀ (l : List α) (r : PL.Env), (∀ x ∈ l, ∀ r, I r → if p x = true then turnO t b (dt x) r = some (.rt d) else ∃ r2, turnO t b (dt x) r = some (.nx r2) ∧ I r2) → I r →
    if l.any p = true then loopF t b (l.map dt) r = some (.rt d) else ∃ r', loopF t b (l.map dt) r = some (.nx r') ∧ I r'
  | [], r, _, h => by rw [if_neg (by simp)]; exact ⟨r, rfl, h⟩
  | x :: xs, r, hb, h => by
    have h1 := hb x (.head _) r h
    rw [List.any_cons, List.map_cons, loop_cons]
    cases hp : p x with
    | true =>
      rw [if_pos hp] at h1
      rw [if_pos (by simp), h1]
    | false =>
      rw [if_neg (by simp [hp])] at h1
      obtain ⟨r2, e, h2⟩ := h1
      rw [e, Bool.false_or]
      exact loop_any I dt p d xs r2 (fun y hy => hb y (.tail _ hy)) h2
/-- the elements of a range -/
theorem range_mem {lo c : Int} {n : Nat} {x : Dt} (h : x ∈ rangeL lo c n) : ∃ k : Nat, k < n ∧ x = .int (lo + k * c) := by
  unfold rangeL at h
  obtain ⟨k, hk, rfl⟩ := List.mem_map.mp h
  exact ⟨k, List.mem_range.mp hk, rfl⟩
theorem range_len {lo c : Int} {n : Nat} : (rangeL lo c n).length = n := by unfold rangeL; simp
theorem range_get {lo c : Int} {n k : Nat} {x : Dt} (h : (rangeL lo c n)[k]? = some x) : k < n ∧ x = .int (lo + k * c) := by
  unfold rangeL at h
  rw [List.getElem?_map] at h
  by_cases hk : k < n
  · rw [List.getElem?_range hk] at h; cases h; exact ⟨hk, rfl⟩
  · rw [List.getElem?_eq_none (by simp; omega)] at h; cases h
/-- a comprehension without a test, over a mapped list -/
theorem comp_map {α β : Type} {j : Nat} {e : PL.Env → Option Dt} {r : PL.Env} (dt : α → Dt) (du : β → Dt) (g : α → β) : ∀ (l : List α), (∀ x ∈ l, e (r.set j (.val (dt x))) = some (du (g x))) → compL j fYes e (l.map dt) r = some ((l.map g).map du)
  | [], _ => rfl
  | x :: xs, h => by
    rw [List.map_cons, compL]
    rw [show fYes (r.set j (.val (dt x))) = some true from rfl]
    simp only
    rw [h x (.head _), comp_map dt du g xs fun y hy => h y (.tail _ hy)]
    rfl
/-- a comprehension with a test -/
theorem comp_filter {α β : Type} {j : Nat} {c : PL.Env → Option Bool} {e : PL.Env → Option Dt} {r : PL.Env} (dt : α → Dt) (du : β → Dt) (p : α → Bool) (g : α → β) : ∀ (l : List α), (∀ x ∈ l, c (r.set j (.val (dt x))) = some (p x)) → (∀ x ∈ l, p x = true → e (r.set j (.val (dt x))) = some (du (g x))) → compL j c e (l.map dt) r = some (((l.filter p).map g).map du)
  | [], _, _ => rfl
  | x :: xs, h, h2 => by
    rw [List.map_cons, compL, h x (.head _)]
    have ih := comp_filter dt du p g xs (fun y hy => h y (.tail _ hy)) fun y hy => h2 y (.tail _ hy)
    cases hp : p x with
    | true =>
      simp only
      rw [h2 x (.head _) hp, ih, List.filter_cons_of_pos hp]
      rfl
    | false =>
      simp only
      rw [ih, List.filter_cons_of_neg (by simp [hp])]
theorem e_fComp (f : PL.Env → Option (List Dt)) (j : Nat) (vs : List Nat) (c : PL.Env → Option Bool) (e : PL.Env → Option Dt) (r : PL.Env) {items : List Dt} (h : f r = some items) (hl : items.length ≤ 100000) : fComp f j vs c e r = compL j c e items (wipeE r vs) := by
  unfold fComp; rw [h]; simp [hl]
/-- a run -/
theorem run_rt {n m : Nat} {g : PL.Env → Option Out} {ds : List Dt} {d : Dt} (hn : ds.length = n) (h : g (ds.map Sl.val ++ List.replicate m Sl.no) = some (.rt d)) : runF n m g ds = some d := by
  unfold runF; rw [if_pos hn, h]
theorem run_nx {n m : Nat} {g : PL.Env → Option Out} {ds : List Dt} {r : PL.Env} (hn : ds.length = n) (h : g (ds.map Sl.val ++ List.replicate m Sl.no) = some (.nx r)) : runF n m g ds = some .non := by
  unfold runF; rw [if_pos hn, h]
/-! index, slices by natural numbers -/
theorem ixN_nat (n k : Nat) : ixN n (k : Int) = if k < n then some k else none := by
  unfold ixN
  rw [if_pos (Int.natCast_nonneg k)]
  by_cases h : k < n
  · rw [if_pos (by omega), if_pos h]; simp
  · rw [if_neg (by omega), if_neg h]
theorem atI_nat {α : Type} (l : List α) (k : Nat) : atI l (k : Int) = l[k]? := by
  unfold atI
  rw [ixN_nat]
  by_cases h : k < l.length
  · rw [if_pos h]; rfl
  · rw [if_neg h, List.getElem?_eq_none (by omega)]; rfl
theorem ixD_l (l : List Dt) (k : Nat) : ixD (.lst l) (.int k) = l[k]? := atI_nat l k
theorem ixD_t (l : List Dt) (k : Nat) : ixD (.tup l) (.int k) = l[k]? := atI_nat l k
theorem ixD_c (l : List Int) (k : Nat) : ixD (.scr l) (.int k) = (l[k]?).map Dt.int := by
  show (atI l (k : Int)).map Dt.int = _
  rw [atI_nat]
theorem ixD_s (l : List Nat) (k : Nat) (h : l.length ≤ 1000000) : ixD (.str l) (.int k) = (l[k]?).map fun c => Dt.str [c] := by
  show (if l.length ≤ 1000000 then _ else _) = _
  rw [if_pos h, atI_nat]
@[simp] theorem ixD_t0 (a : Dt) (l : List Dt) : ixD (.tup (a :: l)) (.int 0) = some a := ixD_t (a :: l) 0
@[simp] theorem ixD_t1 (a b : Dt) (l : List Dt) : ixD (.tup (a :: b :: l)) (.int 1) = some b := ixD_t (a :: b :: l) 1
@[simp] theorem ixD_t2 (a b c : Dt) (l : List Dt) : ixD (.tup (a :: b :: c :: l)) (.int 2) = some c := ixD_t (a :: b :: c :: l) 2
theorem cut_to {α : Type} (l : List α) (k : Nat) : cutL l none (some (k : Int)) = l.take k := by
  unfold cutL
  rw [HT.sIx_none, HT.sIx_nat, List.drop_zero, Nat.sub_zero, List.take_eq_take_iff]
  omega
theorem cut_from {α : Type} (l : List α) (k : Nat) : cutL l (some (k : Int)) none = l.drop k := by
  unfold cutL
  rw [HT.sIx_none, HT.sIx_nat]
  by_cases h : k ≤ l.length
  · rw [Nat.min_eq_left h, List.take_of_length_le (by simp)]
  · rw [Nat.min_eq_right (by omega), List.drop_eq_nil_of_le (Nat.le_refl _), List.drop_eq_nil_of_le (by omega), List.take_nil]
def scO : Option Dt → Option Dt
  | some d => if scB d = true then some d else none
  | none => none
@[simp] theorem e_fSc (f : PL.Env → Option Dt) (r : PL.Env) : fSc f r = scO (f (frzE r)) := by unfold fSc scO; rfl
@[simp] theorem scO_i (i : Int) : scO (some (.int i)) = some (.int i) := (rfl)
@[simp] theorem scO_b (i : Bool) : scO (some (.bl i)) = some (.bl i) := (rfl)
@[simp] theorem scO_s (i : List Nat) : scO (some (.str i)) = some (.str i) := (rfl)
theorem strs_map (l : List (List Nat)) : strsOf (l.map Dt.str) = some l := by
  induction l with
  | nil => rfl
  | cons x xs ih => rw [List.map_cons, strsOf, ih]; rfl
theorem joinD_map (sep : List Nat) (l : List (List Nat)) (h : (l.map List.length).sum + l.length * sep.length ≤ 1000000) : joinD (.str sep) (.lst (l.map Dt.str)) = some (.str (joinL sep l)) := by
  show (match strsOf (l.map Dt.str) with | some bs => _ | none => _) = _
  rw [strs_map]
  simp only
  rw [if_pos h]
theorem bools_map (l : List Bool) : boolsOf (l.map Dt.bl) = some l := by
  induction l with
  | nil => rfl
  | cons x xs ih => rw [List.map_cons, boolsOf, ih]; rfl
theorem allD_map (l : List Bool) : allD [.lst (l.map Dt.bl)] = some (.bl (l.all id)) := by
  show (boolsOf (l.map Dt.bl)).map _ = _
  rw [bools_map]; rfl
theorem isi_s (sub : Nat → Nat → Option Bool) (z : List Nat) : isiD sub [.str z, .ty "str"] = some (.bl true) := rfl
theorem isi_t (sub : Nat → Nat → Option Bool) (z : List Dt) : isiD sub [.tup z, .ty "tuple"] = some (.bl true) := rfl
end PL

/-! ### the law's own drawing of numbers, manners -/
namespace W
open PySem PL
structure Mn where
  m : Nat
  q : List Nat
  e : List Nat
  deriving DecidableEq
def mnD (M : Mn) : Dt := .tup [.str [M.m], .str M.q, .str M.e]
def mns : List Mn := [44, 59, 124, 58].flatMap fun m => [[], [34], [39]].flatMap fun q => [⟨m, q, []⟩, ⟨m, q, [92]⟩]
theorem manners_eq : r__law_manners [] = some (.lst (mns.map mnD)) := by rfl
theorem mns_len : mns.length = 24 := by rfl

theorem draw_ok (c k n : Int) (hk0 : 0 ≤ k) (hn0 : 0 < n) : ∃ m : Nat, r__law_draw [.int c, .int k, .int n] = some (.int m) ∧ (m : Int) < n := by
  obtain ⟨j, hj⟩ : ∃ j : Nat, k % 16 = j := ⟨(k % 16).toNat, by omega⟩
  have hj' : j < 16 := by omega
  have hp : ∃ p : Nat, ixD (.tup [.int 1000003, .int 1000033, .int 1000037, .int 1000039, .int 1000081, .int 1000099, .int 1000117, .int 1000121, .int 1000133, .int 1000151, .int 1000159, .int 1000171, .int 1000183, .int 1000187, .int 1000193, .int 1000199]) (.int j) = some (.int p) ∧ 0 < p := by
    rw [ixD_t]
    match j, hj' with
    | 0, _ => exact ⟨_, rfl, by decide⟩
    | 1, _ => exact ⟨_, rfl, by decide⟩
    | 2, _ => exact ⟨_, rfl, by decide⟩
    | 3, _ => exact ⟨_, rfl, by decide⟩
    | 4, _ => exact ⟨_, rfl, by decide⟩
    | 5, _ => exact ⟨_, rfl, by decide⟩
    | 6, _ => exact ⟨_, rfl, by decide⟩
    | 7, _ => exact ⟨_, rfl, by decide⟩
    | 8, _ => exact ⟨_, rfl, by decide⟩
    | 9, _ => exact ⟨_, rfl, by decide⟩
    | 10, _ => exact ⟨_, rfl, by decide⟩
    | 11, _ => exact ⟨_, rfl, by decide⟩
    | 12, _ => exact ⟨_, rfl, by decide⟩
    | 13, _ => exact ⟨_, rfl, by decide⟩
    | 14, _ => exact ⟨_, rfl, by decide⟩
    | 15, _ => exact ⟨_, rfl, by decide⟩
    | n + 16, h => exact absurd h (by omega)
  obtain ⟨p, hp, hp0⟩ := hp
  have hp1 : (0 : Int) < p := by omega
  have h1 : 0 ≤ (c * 48271 + k * 69621) % (p : Int) % n := Int.emod_nonneg _ (by omega)
  refine ⟨((c * 48271 + k * 69621) % (p : Int) % n).toNat, run_rt rfl ?_, ?_⟩
  · simp (disch := omega) [b__law_draw, hj, hp, hp0, hn0, Int.toNat_of_nonneg h1]
  · rw [Int.toNat_of_nonneg h1]; exact Int.emod_lt_of_pos _ hn0

theorem draw_bound (j : Nat) (h : j < 5) : ∃ d : Nat, ixD (.tup [.int 1, .int 7, .int 49, .int 343, .int 2401]) (.int j) = some (.int d) ∧ 0 < d ∧ d ≤ 2401 := by
  rw [ixD_t]
  match j, h with
  | 0, _ => exact ⟨_, rfl, by decide, by decide⟩
  | 1, _ => exact ⟨_, rfl, by decide, by decide⟩
  | 2, _ => exact ⟨_, rfl, by decide, by decide⟩
  | 3, _ => exact ⟨_, rfl, by decide, by decide⟩
  | 4, _ => exact ⟨_, rfl, by decide, by decide⟩
  | n + 5, h => exact absurd h (by omega)

theorem log_bound {a : Int} (h : a.natAbs < 1606938044258990275541962092341162602522202993782792835301376) : a.natAbs.log2 ≤ 200 := by
  by_cases h0 : a.natAbs = 0
  · rw [h0]; decide
  · exact Nat.le_of_lt ((Nat.log2_lt h0).mpr h)

theorem pow18 : powD (.int 10) (.int 18) = some (.int 1000000000000000000) := rfl
theorem number_ok (c k n : Int) (hk0 : 0 ≤ k) (hk : k ≤ 1000000) (hn0 : 0 < n) (hn : n ≤ 1000000) : ∃ m : Nat, r__law_number [.int c, .int k, .int n] = some (.int m) ∧ (m : Int) < n := by
  by_cases hc : 1000000000000000000 ≤ c
  · obtain ⟨j, hj⟩ : ∃ j : Nat, k % 5 = j := ⟨(k % 5).toNat, by omega⟩
    obtain ⟨d, hd, hd0, hd1⟩ := draw_bound j (by omega)
    have hdn : 0 < (d : Int) * n := Int.mul_pos (by omega) hn0
    have h1 : 0 ≤ (c - 1000000000000000000) % ((d : Int) * n) / (d : Int) := Int.ediv_nonneg (Int.emod_nonneg _ (by omega)) (by omega)
    refine ⟨((c - 1000000000000000000) % ((d : Int) * n) / (d : Int)).toNat, run_rt rfl ?_, ?_⟩
    · have e2 : (d : Int) < 1073741824 := by omega
      have e3 : 0 < d ∧ d < 1073741824 := by omega
      have e4 : -18446744073709551616 < n := by omega
      have e5 : n < 18446744073709551616 := by omega
      simp (disch := omega) [-powD_i, pow18, b__law_number, hc, hj, hd, hdn, e2, e3, e4, e5, Int.toNat_of_nonneg h1]
    · rw [Int.toNat_of_nonneg h1]
      refine Int.ediv_lt_of_lt_mul (by omega) ?_
      rw [Int.mul_comm]
      exact Int.emod_lt_of_pos _ (by rw [Int.mul_comm]; exact hdn)
  · obtain ⟨j, hj⟩ : ∃ j : Nat, k % 9 = j := ⟨(k % 9).toNat, by omega⟩
    have hl : ∀ c' : Int, -803469022129495137770981046170581301261101496891396417650688 < c' → c' < 803469022129495137770981046170581301261101496891396417650688 → ∃ m : Nat, (fRet (fOp modD (fCall r__law_draw (fCons (fOp mulI (fOp addD (fV 0) (fOp mulI (fC (.int 977)) (fV 1))) (fOp addD (fOp addD (fV 0) (fOp mulI (fC (.int 31)) (fV 1))) (fC (.int 5)))) (fCons (fOp addD (fOp modD (fV 1) (fC (.int 9))) (fC (.int 1))) (fCons (fC (.int 999983)) fNil)))) (fV 2))) [.val (.int c'), .val (.int k), .val (.int n), .no] = some (.rt (.int m)) ∧ (m : Int) < n := by
      intro c' h1 h2
      have hm : mulI (.int (c' + 977 * k)) (.int (c' + 31 * k + 5)) = some (.int ((c' + 977 * k) * (c' + 31 * k + 5))) := by
        have a1 := @log_bound (c' + 977 * k) (by omega)
        have a2 := @log_bound (c' + 31 * k + 5) (by omega)
        exact mulI_i _ _ (.inr (.inr (by omega)))
      obtain ⟨u, hu, hu2⟩ := draw_ok ((c' + 977 * k) * (c' + 31 * k + 5)) (j + 1) 999983 (by omega) (by decide)
      have hu3 : ((u : Int) % n) = ((u % n.toNat : Nat) : Int) := by
        have : (n.toNat : Int) = n := by omega
        rw [Int.natCast_emod, this]
      refine ⟨u % n.toNat, ?_, ?_⟩
      · simp (disch := omega) [hm, hj, hu, hn0, hu3]
      · rw [← hu3]; exact Int.emod_lt_of_pos _ hn0
    by_cases hc2 : c < -1000000000000000000
    · obtain ⟨m, e, hm⟩ := hl (c % 1000811284336359577647248616306026718125307353262274591) (by omega) (by omega)
      refine ⟨m, run_rt rfl ?_, hm⟩
      rw [← e]
      simp (disch := omega) [-powD_i, pow18, b__law_number, hc, hc2]
    · obtain ⟨m, e, hm⟩ := hl c (by omega) (by omega)
      refine ⟨m, run_rt rfl ?_, hm⟩
      rw [← e]
      simp (disch := omega) [-powD_i, pow18, b__law_number, hc, hc2]

theorem num_nat (c : Int) (k n : Nat) (hk : k ≤ 1000000) (hn0 : 0 < n) (hn : n ≤ 1000000) : ∃ m : Nat, r__law_number [.int c, .int k, .int n] = some (.int m) ∧ m < n := by
  obtain ⟨m, e, h⟩ := number_ok c k n (by omega) (by omega) (by omega) (by omega)
  exact ⟨m, e, by omega⟩

theorem cell_at_ok (ns : List Int) (k : Nat) : ∃ c : Int, r__law_cell_at [.scr ns, .int k] = some (.int c) := by
  by_cases h : k < ns.length
  · refine ⟨ns[k], run_rt rfl ?_⟩
    simp (disch := omega) [b__law_cell_at, h, ixD_c]
  · refine ⟨0, run_rt rfl ?_⟩
    simp (disch := omega) [b__law_cell_at, h]

theorem manner_ok (ns : List Int) (k : Nat) (hk : k ≤ 100000) : ∃ M, M ∈ mns ∧ r__law_manner [.scr ns, .int k] = some (mnD M) := by
  obtain ⟨c, hc⟩ := cell_at_ok ns k
  obtain ⟨m, hm, h⟩ := num_nat c (k + 7) 24 (by omega) (by decide) (by decide)
  have hm' : r__law_number [.int c, .int (k + 7), .int 24] = some (.int m) := hm
  have hl : m < mns.length := h
  refine ⟨mns[m], List.getElem_mem hl, run_rt rfl ?_⟩
  have e : ixD (.lst (mns.map mnD)) (.int m) = some (mnD mns[m]) := by
    rw [ixD_l, List.getElem?_map, List.getElem?_eq_getElem hl]; rfl
  simp (disch := omega) [b__law_manner, hc, hm', manners_eq, e]
end W

/-! ### the law's own cells, rows, texts -/
namespace W
open PySem PL
abbrev sgs : List Nat := zs_SIGNS
def good (t : List Nat) : Prop := ∀ c ∈ t, c ∈ sgs
theorem good_nil : good [] := fun _ h => by cases h
theorem good_app {a b : List Nat} (h : good a) (k : good b) : good (a ++ b) := fun c hc => (List.mem_append.mp hc).elim (h c) (k c)
theorem good_take {a : List Nat} (n : Nat) (h : good a) : good (a.take n) := fun c hc => h c (List.mem_of_mem_take hc)
theorem good_drop {a : List Nat} (n : Nat) (h : good a) : good (a.drop n) := fun c hc => h c (List.mem_of_mem_drop hc)
theorem good_one {c : Nat} (h : c ∈ sgs) : good [c] := fun d hd => by rw [List.mem_singleton.mp hd]; exact h
/-- a mark, a quote or none, an escape or none -/
structure MnOk (M : Mn) : Prop where
  m : M.m ∈ sgs
  q : good M.q
  e : good M.e
  q1 : M.q = [] ∨ ∃ c, M.q = [c]
  e1 : M.e = [] ∨ ∃ c, M.e = [c]
theorem mn_ok {M : Mn} (h : M ∈ mns) : MnOk M := by
  have : ∀ M ∈ mns, (M.m ∈ sgs ∧ (∀ c ∈ M.q, c ∈ sgs) ∧ (∀ c ∈ M.e, c ∈ sgs)) ∧ M.q.length ≤ 1 ∧ M.e.length ≤ 1 := by decide +kernel
  obtain ⟨⟨h1, h2, h3⟩, h4, h5⟩ := this M h
  refine ⟨h1, h2, h3, ?_, ?_⟩
  · match hq : M.q, h4 with
    | [], _ => exact .inl rfl
    | [c], _ => exact .inr ⟨c, rfl⟩
    | _ :: _ :: _, h => exact absurd h (by simp)
  · match hq : M.e, h5 with
    | [], _ => exact .inl rfl
    | [c], _ => exact .inr ⟨c, rfl⟩
    | _ :: _ :: _, h => exact absurd h (by simp)
theorem MnOk.q_len {M : Mn} (h : MnOk M) : M.q.length ≤ 1 := by rcases h.q1 with e | ⟨c, e⟩ <;> rw [e] <;> simp
theorem MnOk.e_len {M : Mn} (h : MnOk M) : M.e.length ≤ 1 := by rcases h.e1 with e | ⟨c, e⟩ <;> rw [e] <;> simp

/-- the eleven signs of a cell -/
def eleven (M : Mn) : List (List Nat) := [[97], [98], [110], [32], [M.m], M.q, M.e, [10], [34], [44], [55]]
theorem eleven_ok {M : Mn} (h : MnOk M) : ∀ t ∈ eleven M, good t ∧ t.length ≤ 1 := by
  intro t ht
  unfold eleven at ht
  have hs : ∀ c, c ∈ sgs → good [c] ∧ [c].length ≤ 1 := fun c hc => ⟨good_one hc, Nat.le_refl 1⟩
  simp only [List.mem_cons, List.not_mem_nil, or_false] at ht
  rcases ht with rfl | rfl | rfl | rfl | rfl | rfl | rfl | rfl | rfl | rfl | rfl
  · exact hs _ (by decide)
  · exact hs _ (by decide)
  · exact hs _ (by decide)
  · exact hs _ (by decide)
  · exact hs _ h.m
  · exact ⟨h.q, h.q_len⟩
  · exact ⟨h.e, h.e_len⟩
  · exact hs _ (by decide)
  · exact hs _ (by decide)
  · exact hs _ (by decide)
  · exact hs _ (by decide)
abbrev az : List Nat := zs_az
theorem az_ok : ∀ c ∈ az, c ∈ sgs := by decide
def cellEnv (ns : List Int) (by_ : Nat) (M : Mn) (l : List (List Nat)) (k : Nat) (c : Int) (t : List Nat) (size : Int) (x9 x10 x11 : Sl) : PL.Env :=
  [.val (.scr ns), .val (.int by_), .val (mnD M), .own (l.map Dt.str), .val (.tup ((eleven M).map Dt.str)), .val (.int k), .val (.int c), .val (.str t), .val (.int size), x9, x10, x11]
theorem cells_1 {ns : List Int} {by_ : Nat} {M : Mn} (hM : MnOk M) (hb : by_ ≤ 100000) {l : List (List Nat)} {k : Nat} (hk : k < 6) {c : Int} {t : List Nat} {size : Int} {x9 x10 x11 : Sl} (j : Nat) (hj : j < 9) (gt : good t) (ht : t.length ≤ j) :
    ∃ t' y9 y10 y11, turnO (tNm 9) L__law_cells_1 (.int j) (cellEnv ns by_ M l k c t size x9 x10 x11) = some (.nx (cellEnv ns by_ M l k c t' size y9 y10 y11)) ∧ good t' ∧ t'.length ≤ j + 1 := by
  obtain ⟨m, hm, h⟩ := num_nat (c + 104729 * j) (by_ + k + j + 2) 396 (by omega) (by decide) (by decide)
  have hl : m % 11 < (eleven M).length := Nat.mod_lt _ (by decide)
  obtain ⟨g1, g2⟩ := eleven_ok hM (eleven M)[m % 11] (List.getElem_mem hl)
  have e1 : ixD (.tup ((eleven M).map Dt.str)) (.int ((m : Int) % 11)) = some (.str (eleven M)[m % 11]) := by
    have : ((m : Int) % 11) = ((m % 11 : Nat) : Int) := by omega
    rw [this, ixD_t, List.getElem?_map, List.getElem?_eq_getElem hl]; rfl
  obtain ⟨z, hz, e2⟩ : ∃ z, z ∈ sgs ∧ ixD (.str zs_az) (.int ((m : Int) / 11)) = some (.str [z]) := by
    have hz : m / 11 < az.length := by
      have : az.length = 36 := rfl
      omega
    refine ⟨az[m / 11], az_ok _ (List.getElem_mem hz), ?_⟩
    have : ((m : Int) / 11) = ((m / 11 : Nat) : Int) := by omega
    show ixD (.str az) _ = _
    rw [this, ixD_s _ _ (by decide), List.getElem?_eq_getElem hz]; rfl
  have hm' : r__law_number [.int (c + 104729 * j), .int (by_ + k + j + 2), .int 396] = some (.int m) := hm
  by_cases hs : (eleven M)[m % 11] = [98]
  · refine ⟨t ++ [z], .val (.int j), .val (.int m), .val (.str [z]), ?_, good_app gt (good_one hz), by simp; omega⟩
    rw [hs] at e1
    simp (disch := omega) [turnO, cellEnv, L__law_cells_1, hm', e1, e2]
  · refine ⟨t ++ (eleven M)[m % 11], .val (.int j), .val (.int m), .val (.str (eleven M)[m % 11]), ?_, good_app gt g1, by rw [List.length_append]; omega⟩
    simp (disch := omega) [turnO, cellEnv, L__law_cells_1, hm', e1, hs]

theorem cells_in {ns : List Int} {by_ : Nat} {M : Mn} (hM : MnOk M) (hb : by_ ≤ 100000) {l : List (List Nat)} {k : Nat} (hk : k < 6) {c : Int} {size : Nat} (hs : size ≤ 8) {x9 x10 x11 : Sl} :
    ∃ t' y9 y10 y11, loopF (tNm 9) L__law_cells_1 (rangeL 0 1 size) (cellEnv ns by_ M l k c [] size x9 x10 x11) = some (.nx (cellEnv ns by_ M l k c t' size y9 y10 y11)) ∧ good t' ∧ t'.length ≤ 8 := by
  obtain ⟨r', e, t, y9, y10, y11, rfl, g, h⟩ := loop_ix0 (t := tNm 9) (b := L__law_cells_1) (fun j r => ∃ t y9 y10 y11, r = cellEnv ns by_ M l k c t size y9 y10 y11 ∧ good t ∧ t.length ≤ j) (rangeL 0 1 size) (cellEnv ns by_ M l k c [] size x9 x10 x11)
    (fun j x hx r ⟨t, y9, y10, y11, er, g, h⟩ => by
      obtain ⟨hj, rfl⟩ := range_get hx
      rw [er]
      obtain ⟨t', z9, z10, z11, e, g', h'⟩ := cells_1 (ns := ns) (by_ := by_) hM hb (l := l) hk (c := c) (t := t) (size := size) (x9 := y9) (x10 := y10) (x11 := y11) j (by omega) g h
      refine ⟨_, .inl ?_, t', z9, z10, z11, rfl, g', h'⟩
      rw [show ((0 : Int) + (j : Int) * 1) = (j : Int) by omega]
      exact e)
    ⟨[], x9, x10, x11, rfl, good_nil, Nat.zero_le _⟩
  rw [range_len] at h
  exact ⟨t, y9, y10, y11, e, g, by omega⟩
def cellsEnv (ns : List Int) (by_ : Nat) (M : Mn) (l : List (List Nat)) (x5 x6 x7 x8 x9 x10 x11 : Sl) : PL.Env :=
  [.val (.scr ns), .val (.int by_), .val (mnD M), .own (l.map Dt.str), .val (.tup ((eleven M).map Dt.str)), x5, x6, x7, x8, x9, x10, x11]
theorem cells_2 {ns : List Int} {by_ : Nat} {M : Mn} (hM : MnOk M) (hb : by_ ≤ 100000) {l : List (List Nat)} {x5 x6 x7 x8 x9 x10 x11 : Sl} (k : Nat) (hk : k < 6) (hl : l.length = k) (g : ∀ t ∈ l, good t ∧ t.length ≤ 8) :
    ∃ l' y5 y6 y7 y8 y9 y10 y11, turnO (tNm 5) L__law_cells_2 (.int k) (cellsEnv ns by_ M l x5 x6 x7 x8 x9 x10 x11) = some (.nx (cellsEnv ns by_ M l' y5 y6 y7 y8 y9 y10 y11)) ∧ l'.length = k + 1 ∧ ∀ t ∈ l', good t ∧ t.length ≤ 8 := by
  obtain ⟨c0, hc0⟩ := cell_at_ok ns (by_ + k)
  have hc0' : r__law_cell_at [.scr ns, .int (by_ + k)] = some (.int c0) := hc0
  obtain ⟨m, hm, h4⟩ := num_nat (c0 + 13 * k) (by_ + k + 1) 4 (by omega) (by decide) (by decide)
  have hm' : r__law_number [.int (c0 + 13 * k), .int (by_ + k + 1), .int 4] = some (.int m) := hm
  obtain ⟨d, hd, hd0, hd1⟩ : ∃ d : Nat, ixD (.tup [.int 4, .int 4, .int 9, .int 4]) (.int m) = some (.int d) ∧ 0 < d ∧ d ≤ 9 := by
    rw [ixD_t]
    match m, h4 with
    | 0, _ => exact ⟨_, rfl, by decide, by decide⟩
    | 1, _ => exact ⟨_, rfl, by decide, by decide⟩
    | 2, _ => exact ⟨_, rfl, by decide, by decide⟩
    | 3, _ => exact ⟨_, rfl, by decide, by decide⟩
    | n + 4, h => exact absurd h (by omega)
  obtain ⟨z, hz, h9⟩ := num_nat (c0 + 13 * k) (by_ + k) d (by omega) hd0 (by omega)
  have hz' : r__law_number [.int (c0 + 13 * k), .int (by_ + k), .int d] = some (.int z) := hz
  obtain ⟨t, y9, y10, y11, e, gt, ht⟩ := cells_in (ns := ns) (by_ := by_) hM hb (l := l) hk (c := c0 + 13 * k) (size := z) (by omega) (x9 := x9) (x10 := x10) (x11 := x11)
  refine ⟨l ++ [t], .val (.int k), .val (.int (c0 + 13 * k)), .val (.str t), .val (.int z), y9, y10, y11, ?_, by simp [hl], ?_⟩
  · unfold cellEnv at e
    have hml : (l.map Dt.str).length ≤ 100000 := by rw [List.length_map]; omega
    simp (disch := omega) [turnO, cellsEnv, L__law_cells_2, hc0', hm', hd, hz', e]
  · intro u hu
    rcases List.mem_append.mp hu with hu | hu
    · exact g u hu
    · rw [List.mem_singleton.mp hu]; exact ⟨gt, ht⟩
theorem cells_ok (ns : List Int) (by_ : Nat) (M : Mn) (hM : MnOk M) (hb : by_ ≤ 100000) : ∃ l : List (List Nat), r__law_cells [.scr ns, .int by_, mnD M] = some (.lst (l.map Dt.str)) ∧ l.length = 6 ∧ ∀ t ∈ l, good t ∧ t.length ≤ 8 := by
  obtain ⟨r', e, l, y5, y6, y7, y8, y9, y10, y11, rfl, hl, g⟩ := loop_ix0 (t := tNm 5) (b := L__law_cells_2) (fun k r => ∃ l y5 y6 y7 y8 y9 y10 y11, r = cellsEnv ns by_ M l y5 y6 y7 y8 y9 y10 y11 ∧ l.length = k ∧ ∀ t ∈ l, good t ∧ t.length ≤ 8) (rangeL 0 1 6) (cellsEnv ns by_ M [] .no .no .no .no .no .no .no)
    (fun k x hx r ⟨l, y5, y6, y7, y8, y9, y10, y11, er, hl, g⟩ => by
      obtain ⟨hj, rfl⟩ := range_get hx
      rw [er]
      obtain ⟨l', z5, z6, z7, z8, z9, z10, z11, e, hl', g'⟩ := cells_2 (ns := ns) (by_ := by_) hM hb (l := l) (x5 := y5) (x6 := y6) (x7 := y7) (x8 := y8) (x9 := y9) (x10 := y10) (x11 := y11) k hj hl g
      refine ⟨_, .inl ?_, l', z5, z6, z7, z8, z9, z10, z11, rfl, hl', g'⟩
      rw [show ((0 : Int) + (k : Int) * 1) = (k : Int) by omega]
      exact e)
    ⟨[], .no, .no, .no, .no, .no, .no, .no, rfl, rfl, fun _ h => by cases h⟩
  refine ⟨l, run_rt rfl ?_, by rw [hl, range_len], g⟩
  have hM' : mnD M = .tup [.str [M.m], .str M.q, .str M.e] := rfl
  unfold cellsEnv at e
  rw [hM'] at e
  simp only [eleven, List.map_cons, List.map_nil] at e
  rw [hM']
  simp (disch := omega) [b__law_cells, fLst, e]
end W

/-! ### rows, tables as data -/
namespace W
open PySem PL
def rowD (row : List (List Nat)) : Dt := .lst (row.map Dt.str)
def tabD (rows : List (List (List Nat))) : Dt := .lst (rows.map rowD)
structure RowOk (row : List (List Nat)) : Prop where
  lo : 1 ≤ row.length
  hi : row.length ≤ 6
  g : ∀ t ∈ row, good t ∧ t.length ≤ 8
structure TabOk (rows : List (List (List Nat))) : Prop where
  len : rows.length ≤ 12
  g : ∀ r ∈ rows, RowOk r
end W

/-! ### the law's own writing -/
namespace W
open PySem PL
def optD : Option (List Nat) → Dt
  | none => .non
  | some t => .str t
def plainB (M : Mn) (t : List Nat) : Bool := !t.contains M.m && (!t.contains 10 && M.q.all fun c => !t.contains c)
theorem plain_ok {M : Mn} (hM : MnOk M) (t : List Nat) : r__law_plain [.str t, mnD M] = some (.bl (plainB M t)) := by
  refine run_rt rfl ?_
  rcases hM.q1 with e | ⟨c, e⟩
  · simp (disch := omega) [b__law_plain, mnD, plainB, e, andV_s]
  · simp (disch := omega) [b__law_plain, mnD, plainB, e, andV_s]
def escOne (M : Mn) (c : Nat) : List Nat :=
  if M.q = [] ∧ c = 10 then M.e ++ [110]
  else if [c] = M.q ∧ M.e = [] then M.q ++ M.q
  else if [c] = M.e ∨ [c] = (if M.q = [] then [M.m] else M.q) then M.e ++ [c]
  else [c]
def cellText (M : Mn) (t : List Nat) : Option (List Nat) :=
  if (M.q = [] ∧ M.e = []) ∨ (M.q ≠ [] ∧ plainB M t = true) then (if plainB M t = true then some t else none)
  else some (M.q ++ t.flatMap (escOne M) ++ M.q)
theorem esc_len {M : Mn} (hM : MnOk M) (c : Nat) : (escOne M c).length ≤ 2 := by
  have := hM.q_len
  have := hM.e_len
  have h1 : (M.e ++ [110]).length ≤ 2 := by simp; omega
  have h2 : (M.q ++ M.q).length ≤ 2 := by simp; omega
  have h3 : (M.e ++ [c]).length ≤ 2 := by simp; omega
  have h4 : [c].length ≤ 2 := by simp
  unfold escOne
  by_cases a1 : M.q = [] ∧ c = 10
  · rw [if_pos a1]; exact h1
  · rw [if_neg a1]
    by_cases a2 : [c] = M.q ∧ M.e = []
    · rw [if_pos a2]; exact h2
    · rw [if_neg a2]
      by_cases a3 : [c] = M.e ∨ [c] = (if M.q = [] then [M.m] else M.q)
      · rw [if_pos a3]; exact h3
      · rw [if_neg a3]; exact h4
theorem flat_len {M : Mn} (hM : MnOk M) : ∀ t : List Nat, (t.flatMap (escOne M)).length ≤ 2 * t.length
  | [] => by simp
  | c :: t => by
    have := flat_len hM t
    have := esc_len hM c
    simp only [List.flatMap_cons, List.length_append, List.length_cons]
    omega
def ctEnv (t : List Nat) (M : Mn) (u : List Nat) (x6 : Sl) : PL.Env := [.val (.str t), .val (mnD M), .val (.str [M.m]), .val (.str M.q), .val (.str M.e), .val (.str u), x6]
theorem ct_1 {t : List Nat} {M : Mn} (hM : MnOk M) {u : List Nat} (hu : u.length ≤ 100000) {x6 : Sl} (c : Nat) :
    turnO (tNm 6) L__law_cell_text_1 (.str [c]) (ctEnv t M u x6) = some (.nx (ctEnv t M (u ++ escOne M c) (.val (.str [c])))) := by
  have hq := hM.q_len
  have he := hM.e_len
  rcases hM.q1 with e | ⟨q, e⟩ <;> rcases hM.e1 with e' | ⟨f, e'⟩ <;>
    simp  (disch := first | omega | (simp only [List.length_append, List.length_cons, List.length_nil]; omega)) [turnO, ctEnv, L__law_cell_text_1, escOne, e, e'] <;>
    ((repeat' split) <;> first | rfl | simp_all)

theorem ct_loop {t : List Nat} {M : Mn} (hM : MnOk M) : ∀ (z : List Nat) (u : List Nat) (x6 : Sl), u.length + 2 * z.length ≤ 100000 → ∃ y6, loopF (tNm 6) L__law_cell_text_1 (signsOf z) (ctEnv t M u x6) = some (.nx (ctEnv t M (u ++ z.flatMap (escOne M)) y6))
  | [], u, x6, _ => ⟨x6, by simp [signsOf, loop_nil]⟩
  | c :: z, u, x6, h => by
    have h' : u.length + 2 * (z.length + 1) ≤ 100000 := h
    have hl := esc_len hM c
    obtain ⟨y6, e⟩ := ct_loop (t := t) hM z (u ++ escOne M c) (.val (.str [c])) (by rw [List.length_append]; omega)
    refine ⟨y6, ?_⟩
    rw [show signsOf (c :: z) = .str [c] :: signsOf z from rfl, loop_cons, ct_1 hM (by omega)]
    simp only
    rw [e, List.flatMap_cons, List.append_assoc]
theorem cell_text_ok {M : Mn} (hM : MnOk M) (t : List Nat) (ht : t.length ≤ 1000) : r__law_cell_text [.str t, mnD M] = some (optD (cellText M t)) := by
  refine run_rt rfl ?_
  have hp := plain_ok hM t
  have hq := hM.q_len
  have hf := flat_len hM t
  obtain ⟨y6, e⟩ := ct_loop (t := t) hM t M.q .no (by omega)
  unfold ctEnv mnD at e
  unfold mnD at hp
  have hadd : addD (.str (M.q ++ t.flatMap (escOne M))) (.str M.q) = some (.str (M.q ++ t.flatMap (escOne M) ++ M.q)) := addD_s _ _ (by rw [List.length_append]; omega)
  unfold cellText
  by_cases c1 : M.q = [] ∧ M.e = []
  · cases hb : plainB M t <;> simp [b__law_cell_text, mnD, hp, hb, c1, optD] <;> simp_all
  · by_cases c2 : M.q ≠ [] ∧ plainB M t = true
    · rw [if_pos (.inr c2), if_pos c2.2]
      obtain ⟨c2, c3⟩ := c2
      simp [b__law_cell_text, mnD, hp, c2, c3, optD]
    · rw [if_neg (not_or.mpr ⟨c1, c2⟩)]
      have k1 : (decide (M.q = []) && decide (M.e = []) || (!decide (M.q = []) && plainB M t)) = false := by
        by_cases z1 : M.q = [] <;> by_cases z2 : M.e = [] <;> simp_all
      simp [b__law_cell_text, mnD, hp, e, hadd, optD, k1]

theorem cellText_len {M : Mn} (hM : MnOk M) {t u : List Nat} (h : cellText M t = some u) : u.length ≤ 2 * t.length + 2 := by
  have hq := hM.q_len
  have hf := flat_len hM t
  unfold cellText at h
  split at h
  · split at h
    · cases h; omega
    · cases h
  · cases h; simp only [List.length_append]; omega
def rowText (M : Mn) (row : List (List Nat)) : Option (List Nat) :=
  if (row.map (cellText M)).any Option.isNone = true then none else some (joinL [M.m] ((row.map (cellText M)).filterMap id) ++ [10])
def writeT (M : Mn) : List (List (List Nat)) → Option (List Nat)
  | [] => some []
  | r :: rs => match rowText M r with
    | none => none
    | some t => (writeT M rs).map (t ++ ·)
theorem in_none (l : List (Option (List Nat))) : inD .non (.lst (l.map optD)) = some (.bl (l.any Option.isNone)) := by
  have h1 : (l.map optD).all scB = true := by
    rw [List.all_map, List.all_eq_true]
    intro o _
    cases o <;> rfl
  have h2 : ∀ o : Option (List Nat), eqF 0 (optD o) .non = o.isNone := by intro o; cases o <;> rfl
  have h3 : inFlat .non (.lst (l.map optD)) = some (l.any Option.isNone) := by
    show (if scB .non = true ∧ (l.map optD).all scB = true then some ((l.map optD).any fun y => eqF 0 y .non) else none) = _
    rw [if_pos ⟨rfl, h1⟩, List.any_map]
    congr 2
    funext o
    exact h2 o
  show (((inFlat .non (.lst (l.map optD))).or _).map Dt.bl) = _
  rw [h3]; rfl
theorem filt_some (t : List Nat) (l : List (Option (List Nat))) : (some t :: l).filterMap id = t :: l.filterMap id := rfl
theorem opt_strs {l : List (Option (List Nat))} (h : l.any Option.isNone = false) : l.map optD = (l.filterMap id).map Dt.str := by
  induction l with
  | nil => rfl
  | cons o l ih =>
    rw [List.any_cons, Bool.or_eq_false_iff] at h
    cases o with
    | none => cases h.1
    | some t => rw [List.map_cons, filt_some, List.map_cons, ih h.2]; rfl
theorem filter_sum {M : Mn} (hM : MnOk M) : ∀ row : List (List Nat), (∀ t ∈ row, t.length ≤ 8) → ((((row.map (cellText M)).filterMap id).map List.length).sum ≤ 18 * row.length ∧ ((row.map (cellText M)).filterMap id).length ≤ row.length)
  | [], _ => ⟨Nat.le_refl _, Nat.le_refl _⟩
  | t :: row, h => by
    obtain ⟨h1, h2⟩ := filter_sum hM row fun u hu => h u (.tail _ hu)
    rw [List.map_cons]
    cases hc : cellText M t with
    | none => rw [List.filterMap_cons_none rfl]; simp only [List.length_cons]; omega
    | some u =>
      rw [filt_some]
      have := cellText_len hM hc
      have := h t (.head _)
      simp only [List.length_cons, List.map_cons, List.sum_cons]
      omega
theorem joinL_len (sep : List Nat) : ∀ l : List (List Nat), (joinL sep l).length ≤ (l.map List.length).sum + l.length * sep.length
  | [] => by simp [joinL]
  | [x] => by simp [joinL]
  | x :: y :: l => by
    have := joinL_len sep (y :: l)
    simp only [joinL, List.length_append, List.map_cons, List.sum_cons, List.length_cons, Nat.add_mul, Nat.one_mul] at *
    omega
theorem rowText_len {M : Mn} (hM : MnOk M) {row : List (List Nat)} (hr : row.length ≤ 6) (hg : ∀ t ∈ row, t.length ≤ 8) {u : List Nat} (h : rowText M row = some u) : u.length ≤ 200 := by
  unfold rowText at h
  split at h
  · cases h
  · cases h
    obtain ⟨h1, h2⟩ := filter_sum hM row hg
    have := joinL_len [M.m] ((row.map (cellText M)).filterMap id)
    simp only [List.length_append, List.length_cons, List.length_nil, Nat.mul_one] at *
    omega
def wrEnv (rows : Dt) (M : Mn) (u : List Nat) (x3 x4 x5 : Sl) : PL.Env := [.val rows, .val (mnD M), .val (.str u), x3, x4, x5]
theorem wr_1 {M : Mn} (hM : MnOk M) {rows : Dt} {u : List Nat} {x3 x4 x5 : Sl} {row : List (List Nat)} (hr : row.length ≤ 6) (hg : ∀ t ∈ row, t.length ≤ 8) (hu : u.length ≤ 100000) :
    turnO (tNm 3) L__law_write_1 (rowD row) (wrEnv rows M u x3 x4 x5) = match rowText M row with
      | none => some (.rt .non)
      | some t => some (.nx (wrEnv rows M (u ++ t) (.val (rowD row)) (.val (.lst ((row.map (cellText M)).map optD))) x5)) := by
  have hc : fComp (fItems (fV 3)) 5 [5] fYes (fCall r__law_cell_text (fCons (fV 5) (fCons (fV 1) fNil))) [.val rows, .val (mnD M), .val (.str u), .val (rowD row), x4, x5] = some ((row.map (cellText M)).map optD) := by
    rw [e_fComp (items := row.map Dt.str) (h := by simp [rowD]) (hl := by simp; omega)]
    refine comp_map Dt.str optD (cellText M) row fun t ht => ?_
    have := cell_text_ok hM t (by have := hg t ht; omega)
    simp [this]
  have hn := in_none (row.map (cellText M))
  have hM0 : ixD (mnD M) (.int 0) = some (.str [M.m]) := ixD_t0 _ _
  unfold rowText
  cases hb : (row.map (cellText M)).any Option.isNone with
  | true =>
    rw [hb] at hn
    rw [if_pos rfl]
    simp [turnO, wrEnv, L__law_write_1, hc, hn, -List.map_map]
  | false =>
    rw [hb] at hn
    rw [if_neg (by decide)]
    obtain ⟨h1, h2⟩ := filter_sum hM row hg
    have hj := joinD_map [M.m] ((row.map (cellText M)).filterMap id) (by simp only [List.length_cons, List.length_nil]; omega)
    rw [← opt_strs hb] at hj
    have h3 := joinL_len [M.m] ((row.map (cellText M)).filterMap id)
    simp only [List.length_cons, List.length_nil, Nat.mul_one] at h3
    have ha : addD (.str u) (.str (joinL [M.m] ((row.map (cellText M)).filterMap id))) = some (.str (u ++ joinL [M.m] ((row.map (cellText M)).filterMap id))) := addD_s _ _ (by omega)
    have ha2 : addD (.str (u ++ joinL [M.m] ((row.map (cellText M)).filterMap id))) (.str [10]) = some (.str (u ++ joinL [M.m] ((row.map (cellText M)).filterMap id) ++ [10])) := addD_s1 _ _ (by rw [List.length_append]; omega)
    simp only [turnO, wrEnv, L__law_write_1, e_tNm, Option.bind_some, List.set_cons_succ, List.set_cons_zero, e_fSeq, e_fSet, e_fL, hc, Option.map_some, seqO_nx, e_fIfS, frzE_cons, frz1_val, frzE_nil, e_asB, e_fOp, e_fC, bO_some, e_fV, gV_succ, gV_zero, hn, blO_some, ifO_f, e_fNext, hM0, hj, ha, ha2, List.append_assoc]
theorem wr_loop {M : Mn} (hM : MnOk M) {rows : Dt} : ∀ (z : List (List (List Nat))) (u : List Nat) (x3 x4 x5 : Sl), (∀ r ∈ z, RowOk r) → u.length + 200 * z.length ≤ 100000 →
    match writeT M z with
    | none => loopF (tNm 3) L__law_write_1 (z.map rowD) (wrEnv rows M u x3 x4 x5) = some (.rt .non)
    | some t => t.length ≤ 200 * z.length ∧ ∃ y3 y4 y5, loopF (tNm 3) L__law_write_1 (z.map rowD) (wrEnv rows M u x3 x4 x5) = some (.nx (wrEnv rows M (u ++ t) y3 y4 y5))
  | [], u, x3, x4, x5, _, _ => ⟨Nat.le_refl _, x3, x4, x5, by simp [loop_nil]⟩
  | r :: z, u, x3, x4, x5, hg, h => by
    have h' : u.length + 200 * (z.length + 1) ≤ 100000 := h
    have hr := hg r (.head _)
    have w := wr_1 (rows := rows) (u := u) (x3 := x3) (x4 := x4) (x5 := x5) hM hr.hi (fun t ht => (hr.g t ht).2) (by omega)
    cases hrt : rowText M r with
    | none =>
      rw [hrt] at w
      have : writeT M (r :: z) = none := by rw [writeT, hrt]
      rw [this]
      simp only [List.map_cons, loop_cons, w]
    | some t =>
      rw [hrt] at w
      have hl := rowText_len hM hr.hi (fun t ht => (hr.g t ht).2) hrt
      have ih := wr_loop (rows := rows) hM z (u ++ t) (.val (rowD r)) (.val (.lst ((r.map (cellText M)).map optD))) x5 (fun q hq => hg q (.tail _ hq)) (by rw [List.length_append]; omega)
      have e : writeT M (r :: z) = (writeT M z).map (t ++ ·) := by rw [writeT, hrt]
      rw [e]
      cases hz : writeT M z with
      | none =>
        rw [hz] at ih
        simp only [Option.map_none, List.map_cons, loop_cons, w]
        exact ih
      | some t2 =>
        rw [hz] at ih
        obtain ⟨l2, y3, y4, y5, e2⟩ := ih
        simp only [Option.map_some, List.map_cons, loop_cons, w]
        refine ⟨by rw [List.length_append, List.length_cons]; omega, y3, y4, y5, ?_⟩
        rw [e2, List.append_assoc]
theorem write_ok {M : Mn} (hM : MnOk M) {rows : List (List (List Nat))} (h : TabOk rows) : r__law_write [tabD rows, mnD M] = some (optD (writeT M rows)) ∧ ∀ t, writeT M rows = some t → t.length ≤ 2400 := by
  have := h.len
  have w := wr_loop (rows := tabD rows) hM rows [] .no .no .no h.g (by simp; omega)
  cases hw : writeT M rows with
  | none =>
    rw [hw] at w
    refine ⟨run_rt rfl ?_, fun t e => by cases e⟩
    unfold wrEnv at w
    unfold tabD at w
    simp only [List.map_cons, List.map_nil, List.replicate, List.cons_append, List.nil_append, b__law_write, e_fSeq, e_fSet, e_fC, Option.map_some, List.set_cons_succ, List.set_cons_zero, seqO_nx, e_fFor, e_fItems, e_fV, gV_zero, tabD, bO_some, itemsD_l, w, seqO_rt]
    rfl
  | some t =>
    rw [hw] at w
    obtain ⟨hl, y3, y4, y5, e⟩ := w
    refine ⟨run_rt rfl ?_, fun t' e' => by cases e'; omega⟩
    unfold wrEnv at e
    unfold tabD at e
    simp only [List.map_cons, List.map_nil, List.replicate, List.cons_append, List.nil_append, b__law_write, e_fSeq, e_fSet, e_fC, Option.map_some, List.set_cons_succ, List.set_cons_zero, seqO_nx, e_fFor, e_fItems, e_fV, gV_zero, tabD, bO_some, itemsD_l, e, e_fRet, gV_succ]
    rfl
end W

/-! ### what is written is of told signs -/
namespace W
open PySem PL
theorem esc_good {M : Mn} (hM : MnOk M) {c : Nat} (hc : c ∈ sgs) : good (escOne M c) := by
  unfold escOne
  by_cases a1 : M.q = [] ∧ c = 10
  · rw [if_pos a1]; exact good_app hM.e (good_one (by decide))
  · rw [if_neg a1]
    by_cases a2 : [c] = M.q ∧ M.e = []
    · rw [if_pos a2]; exact good_app hM.q hM.q
    · rw [if_neg a2]
      by_cases a3 : [c] = M.e ∨ [c] = (if M.q = [] then [M.m] else M.q)
      · rw [if_pos a3]; exact good_app hM.e (good_one hc)
      · rw [if_neg a3]; exact good_one hc
theorem cellText_good {M : Mn} (hM : MnOk M) {t u : List Nat} (g : good t) (h : cellText M t = some u) : good u := by
  unfold cellText at h
  split at h
  · split at h
    · cases h; exact g
    · cases h
  · cases h
    refine good_app (good_app hM.q fun c hc => ?_) hM.q
    obtain ⟨d, hd, hc⟩ := List.mem_flatMap.mp hc
    exact esc_good hM (g d hd) c hc
theorem joinL_good {sep : List Nat} (hs : good sep) : ∀ {l : List (List Nat)}, (∀ t ∈ l, good t) → good (joinL sep l)
  | [], _ => good_nil
  | [x], h => h x (.head _)
  | x :: y :: l, h => good_app (good_app (h x (.head _)) hs) (joinL_good hs fun t ht => h t (.tail _ ht))
theorem rowText_good {M : Mn} (hM : MnOk M) {row : List (List Nat)} {u : List Nat} (g : ∀ t ∈ row, good t) (h : rowText M row = some u) : good u := by
  unfold rowText at h
  split at h
  · cases h
  · cases h
    refine good_app (joinL_good (good_one hM.m) fun t ht => ?_) (good_one (by decide))
    obtain ⟨o, ho, e⟩ := List.mem_filterMap.mp ht
    obtain ⟨x, hx, rfl⟩ := List.mem_map.mp ho
    exact cellText_good hM (g x hx) e
theorem write_good {M : Mn} (hM : MnOk M) : ∀ {rows : List (List (List Nat))} {t : List Nat}, (∀ r ∈ rows, RowOk r) → writeT M rows = some t → good t
  | [], t, _, h => by cases h; exact good_nil
  | r :: rs, t, g, h => by
    rw [writeT] at h
    cases hr : rowText M r with
    | none => rw [hr] at h; cases h
    | some u =>
      rw [hr] at h
      simp only at h
      cases hz : writeT M rs with
      | none => rw [hz] at h; cases h
      | some v =>
        rw [hz] at h
        cases h
        exact good_app (rowText_good hM (fun t ht => ((g r (.head _)).g t ht).1) hr) (write_good hM (fun q hq => g q (.tail _ hq)) hz)
end W

/-! ### the program's reading -/
namespace W
open PySem PL
theorem inD_ss {x : List Nat} {l : List (List Nat)} : inD (.str x) (.tup (l.map Dt.str)) = some (.bl (l.any fun y => y == x)) := by
  have h1 : (l.map Dt.str).all scB = true := by
    rw [List.all_map, List.all_eq_true]; intro o _; rfl
  have h3 : inFlat (.str x) (.tup (l.map Dt.str)) = some (l.any fun y => y == x) := by
    show (if scB (.str x) = true ∧ (l.map Dt.str).all scB = true then some ((l.map Dt.str).any fun y => eqF 0 y (.str x)) else none) = _
    rw [if_pos ⟨rfl, h1⟩, List.any_map]
    rfl
  show (((inFlat (.str x) (.tup (l.map Dt.str))).or _).map Dt.bl) = _
  rw [h3]; rfl
theorem inD_ii {x : Int} {l : List Int} : inD (.int x) (.tup (l.map Dt.int)) = some (.bl (l.any fun y => y == x)) := by
  have h1 : (l.map Dt.int).all scB = true := by
    rw [List.all_map, List.all_eq_true]; intro o _; rfl
  have h3 : inFlat (.int x) (.tup (l.map Dt.int)) = some (l.any fun y => y == x) := by
    show (if scB (.int x) = true ∧ (l.map Dt.int).all scB = true then some ((l.map Dt.int).any fun y => eqF 0 y (.int x)) else none) = _
    rw [if_pos ⟨rfl, h1⟩, List.any_map]
    rfl
  show (((inFlat (.int x) (.tup (l.map Dt.int))).or _).map Dt.bl) = _
  rw [h3]; rfl
theorem beqd {α : Type} [DecidableEq α] [BEq α] [LawfulBEq α] (a x : α) : (a == x) = decide (x = a) := by
  by_cases h : x = a
  · simp [h]
  · rw [decide_eq_false h, beq_eq_false_iff_ne]; exact fun e => h e.symm
theorem inD_s2 (x a b : List Nat) : inD (.str x) (.tup [.str a, .str b]) = some (.bl (decide (x = a ∨ x = b))) := by
  rw [show [Dt.str a, .str b] = [a, b].map Dt.str from rfl, inD_ss]
  simp [beqd]
theorem inD_s3 (x a b c : List Nat) : inD (.str x) (.tup [.str a, .str b, .str c]) = some (.bl (decide (x = a ∨ x = b ∨ x = c))) := by
  rw [show [Dt.str a, .str b, .str c] = [a, b, c].map Dt.str from rfl, inD_ss]
  simp [beqd]
theorem inD_i2 (x a b : Int) : inD (.int x) (.tup [.int a, .int b]) = some (.bl (decide (x = a ∨ x = b))) := by
  rw [show [Dt.int a, .int b] = [a, b].map Dt.int from rfl, inD_ii]
  simp [beqd]
theorem inD_i4 (x a b c d : Int) : inD (.int x) (.tup [.int a, .int b, .int c, .int d]) = some (.bl (decide (x = a ∨ x = b ∨ x = c ∨ x = d))) := by
  rw [show [Dt.int a, .int b, .int c, .int d] = [a, b, c, d].map Dt.int from rfl, inD_ii]
  simp [beqd]
/-- one sign moves the state on, or nothing goes on -/
def mv (M : Mn) (s c : Nat) : Option Nat :=
  if s = 5 then (if M.q = [] then (if [c] = [M.m] ∨ [c] = M.e ∨ [c] = [110] then some 2 else none) else if [c] = M.q ∨ [c] = M.e then some 3 else none)
  else if s = 3 then (if [c] = M.q then some 4 else if [c] = M.e then some 5 else some 3)
  else if c = 10 then some 0
  else if c = M.m then some 1
  else if s = 4 then (if [c] = M.q ∧ M.e = [] then some 3 else none)
  else if M.q = [] ∧ [c] = M.e then some 5
  else if [c] = M.q then (if s = 0 ∨ s = 1 then some 3 else none)
  else some 2
def stD : Option Nat → Dt
  | none => .non
  | some n => .int n
@[simp] theorem stD_none : stD none = .non := (rfl)
@[simp] theorem stD_some (n : Nat) : stD (some n) = .int n := (rfl)
theorem moved_ok {M : Mn} (hM : MnOk M) (s c : Nat) : r_moved [mnD M, .int s, .str [c]] = some (stD (mv M s c)) := by
  refine run_rt rfl ?_
  have i5 : decide ((s : Int) = 5) = decide (s = 5) := by congr 1; exact propext (by omega)
  have i3 : decide ((s : Int) = 3) = decide (s = 3) := by congr 1; exact propext (by omega)
  have i4 : decide ((s : Int) = 4) = decide (s = 4) := by congr 1; exact propext (by omega)
  rcases hM.q1 with hq | ⟨q, hq⟩ <;> rcases hM.e1 with he | ⟨f, he⟩ <;> by_cases s5 : s = 5 <;> by_cases s3 : s = 3 <;> by_cases s4 : s = 4 <;> by_cases s0 : s = 0 <;> by_cases s1 : s = 1 <;> (try omega) <;>
    simp [mv, b_moved, mnD, hq, he, inD_s3, inD_s2, inD_i2, i5, i3, i4, s5, s3, s4, s0, s1] <;> (repeat' split) <;> simp_all <;> omega
/-- what a sign adds to the cell -/
def told (s n c : Nat) : List Nat :=
  if s = 5 then (if c = 110 then [10] else [c])
  else if n = 0 ∨ n = 1 ∨ n = 4 ∨ n = 5 then []
  else if n = 3 ∧ (s = 0 ∨ s = 1) then [] else [c]
theorem told_len (s n c : Nat) : (told s n c).length ≤ 1 := by
  unfold told
  by_cases s5 : s = 5
  · by_cases c1 : c = 110 <;> simp [s5, c1]
  · by_cases a : n = 0 ∨ n = 1 ∨ n = 4 ∨ n = 5
    · simp [s5, a]
    · by_cases b : n = 3 ∧ (s = 0 ∨ s = 1) <;> simp [s5, a, b]
/-- the reading from a state on: the rows, or the first place from which nothing goes on -/
def rdGo (M : Mn) : Nat → List (List (List Nat)) → List (List Nat) → List Nat → Nat → List Nat → Except Nat (List (List (List Nat)))
  | s, rows, _, _, p, [] => if s = 0 then .ok rows else .error p
  | s, rows, row, cell, p, c :: t => match mv M s c with
    | none => .error p
    | some n =>
      if n = 0 then rdGo M n (rows ++ [row ++ [cell ++ told s n c]]) [] [] (p + 1) t
      else if n = 1 then rdGo M n rows (row ++ [cell ++ told s n c]) [] (p + 1) t
      else rdGo M n rows row (cell ++ told s n c) (p + 1) t
def rd (M : Mn) (t : List Nat) : Except Nat (List (List (List Nat))) := rdGo M 0 [] [] [] 0 t
def resD : Except Nat (List (List (List Nat))) → Dt
  | .ok rows => .tup [tabD rows, .int (-1)]
  | .error p => .tup [.lst [], .int p]
theorem rdGo_rows {M : Mn} : ∀ (z : List Nat) (p s : Nat) (rows : List (List (List Nat))) (row : List (List Nat)) (cell : List Nat) (out : List (List (List Nat))), rdGo M s rows row cell p z = .ok out → out.length ≤ rows.length + z.length
  | [], p, s, rows, row, cell, out, h => by
    rw [rdGo] at h
    split at h
    · cases h; exact Nat.le_refl _
    · cases h
  | c :: z, p, s, rows, row, cell, out, h => by
    rw [rdGo] at h
    cases hmv : mv M s c with
    | none => rw [hmv] at h; cases h
    | some n =>
      rw [hmv] at h
      simp only at h
      rw [List.length_cons]
      split at h
      · have := rdGo_rows z _ _ _ _ _ _ h
        rw [List.length_append, List.length_singleton] at this
        omega
      · split at h
        · have := rdGo_rows z _ _ _ _ _ _ h; omega
        · have := rdGo_rows z _ _ _ _ _ _ h; omega
theorem rd_rows {M : Mn} {t : List Nat} {out : List (List (List Nat))} (h : rd M t = .ok out) : out.length ≤ t.length := by
  have := rdGo_rows t 0 0 [] [] [] out h
  simpa using this
end W

/-! ### mending: lines of spots, in plain Lean -/
namespace W
open PySem PL
abbrev Spot := Nat × Nat
abbrev LVal := Nat × List Nat
abbrev MLine := List (Spot × LVal)
def look : MLine → Spot → Option LVal
  | [], _ => none
  | e :: L, s => if e.1 = s then some e.2 else look L s
def put (L : MLine) (s : Spot) (v : LVal) : MLine := if (look L s).isSome = true then L.map fun e => if e.1 = s then (e.1, v) else e else L ++ [(s, v)]
theorem look_app (s : Spot) (L : MLine) (q : Spot) (v : LVal) : look (L ++ [(q, v)]) s = match look L s with | some x => some x | none => if q = s then some v else none := by
  induction L with
  | nil => rfl
  | cons e L ih =>
    rw [List.cons_append, look, look]
    split
    · rfl
    · exact ih
theorem look_map (s q : Spot) (v : LVal) (L : MLine) : look (L.map fun e => if e.1 = q then (e.1, v) else e) s = if s = q then (look L s).map fun _ => v else look L s := by
  induction L with
  | nil => rw [List.map_nil, look]; split <;> rfl
  | cons e L ih =>
    rw [List.map_cons, look, look, ih]
    by_cases h1 : e.1 = q <;> by_cases h2 : e.1 = s <;> by_cases h3 : s = q <;> simp_all
theorem look_put (L : MLine) (q : Spot) (v : LVal) (s : Spot) : look (put L q v) s = if s = q then some v else look L s := by
  unfold put
  split
  · rename_i h
    rw [look_map]
    split
    · rename_i e
      subst e
      cases h2 : look L s with
      | none => rw [h2] at h; cases h
      | some x => rfl
    · rfl
  · rename_i h
    rw [look_app]
    cases h2 : look L q with
    | some x => rw [h2] at h; exact absurd rfl h
    | none =>
      by_cases e : s = q
      · subst e; simp [h2]
      · rw [if_neg e]
        have : ¬ q = s := fun z => e z.symm
        rw [if_neg this]
        cases look L s <;> rfl
theorem put_len (L : MLine) (q : Spot) (v : LVal) : (put L q v).length = if (look L q).isSome = true then L.length else L.length + 1 := by
  unfold put
  split
  · rw [List.length_map]
  · rw [List.length_append]; rfl
/-- all spots -/
def allS : List Spot := (List.range 6).flatMap fun a => (List.range 6).map fun b => (a, b)
theorem mem_allS {s : Spot} : s ∈ allS ↔ s.1 < 6 ∧ s.2 < 6 := by
  unfold allS
  rw [List.mem_flatMap]
  constructor
  · rintro ⟨a, ha, h⟩
    obtain ⟨b, hb, rfl⟩ := List.mem_map.mp h
    exact ⟨List.mem_range.mp ha, List.mem_range.mp hb⟩
  · intro ⟨h1, h2⟩
    exact ⟨s.1, List.mem_range.mpr h1, List.mem_map.mpr ⟨s.2, List.mem_range.mpr h2, rfl⟩⟩
def sumS (f : Spot → Nat) (l : List Spot) : Nat := (l.map f).sum
theorem sum_le {f g : Spot → Nat} (h : ∀ s, g s ≤ f s) : ∀ l, sumS g l ≤ sumS f l
  | [] => Nat.le_refl _
  | s :: l => by
    have := sum_le h l
    have := h s
    unfold sumS at *
    rw [List.map_cons, List.map_cons, List.sum_cons, List.sum_cons]; omega
theorem sum_lt {f g : Spot → Nat} (h : ∀ s, g s ≤ f s) {q : Spot} (hq : g q + 1 ≤ f q) : ∀ l, q ∈ l → sumS g l + 1 ≤ sumS f l
  | [], m => by cases m
  | s :: l, m => by
    have h1 := h s
    have h2 := sum_le h l
    unfold sumS at *
    rw [List.map_cons, List.map_cons, List.sum_cons, List.sum_cons]
    rcases List.mem_cons.mp m with rfl | m
    · omega
    · have := sum_lt h hq l m
      unfold sumS at this
      omega
theorem sum_all {f : Spot → Nat} {k : Nat} (h : ∀ s, f s ≤ k) : ∀ l, sumS f l ≤ l.length * k
  | [] => by simp [sumS]
  | s :: l => by
    have := sum_all h l
    have := h s
    unfold sumS at *
    rw [List.map_cons, List.sum_cons, List.length_cons, Nat.succ_mul]; omega
theorem allS_len : allS.length = 36 := by decide
def missF (L : MLine) (s : Spot) : Nat := match look L s with | none => 1 | some _ => 0
def miss (L : MLine) : Nat := sumS (missF L) allS
theorem miss_le (L : MLine) : miss L ≤ 36 := by
  have := sum_all (f := missF L) (k := 1) (fun s => by unfold missF; split <;> omega) allS
  rw [allS_len] at this
  exact this
theorem missF_put (L : MLine) (q : Spot) (v : LVal) (s : Spot) : missF (put L q v) s = if s = q then 0 else missF L s := by
  unfold missF
  rw [look_put]
  by_cases h : s = q
  · rw [if_pos h, if_pos h]
  · rw [if_neg h, if_neg h]
theorem miss_put (L : MLine) (q : Spot) (v : LVal) : miss (put L q v) ≤ miss L := sum_le (fun s => by rw [missF_put]; split <;> omega) _
theorem miss_new {L : MLine} {q : Spot} (v : LVal) (h : look L q = none) (hq : q ∈ allS) : miss (put L q v) + 1 ≤ miss L := by
  refine sum_lt (fun s => by rw [missF_put]; split <;> omega) (q := q) ?_ _ hq
  rw [missF_put, if_pos rfl]
  unfold missF
  rw [h]
  exact Nat.le_refl _
theorem len_miss {L : MLine} {q : Spot} {v : LVal} (hq : q ∈ allS) (h : L.length + miss L ≤ 36) : (put L q v).length + miss (put L q v) ≤ 36 := by
  rw [put_len]
  split
  · have := miss_put L q v; omega
  · rename_i h2
    cases h3 : look L q with
    | some x => rw [h3] at h2; exact absurd rfl h2
    | none => have := miss_new v h3 hq; omega
/-- how far the values can still fall -/
def potF (B : Nat) (L : MLine) (s : Spot) : Nat := match look L s with | none => B + 1 | some v => v.1
def pot (B : Nat) (L : MLine) : Nat := sumS (potF B L) allS

/-! #### moves -/
def gn (M : Mn) (w : Nat) (s : Spot) (c : Nat) : Option Spot := match mv M s.1 c with
  | none => none
  | some n => if n = 0 then (if s.2 + 1 = w then some (0, 0) else none) else if n = 1 then (if s.2 + 1 < w then some (1, s.2 + 1) else none) else some (n, s.2)
def pIns (M : Mn) : List Nat := M.m :: (M.q ++ (M.e ++ [10, 110]))
theorem mv_lt {M : Mn} {s c n : Nat} (h : mv M s c = some n) : n < 6 := by
  unfold mv at h
  repeat' split at h
  all_goals first | (cases h; done) | (cases h; decide)
theorem gn_in {M : Mn} {w : Nat} (hw : w ≤ 6) {s q : Spot} {c : Nat} (hs : s ∈ allS) (h : gn M w s c = some q) : q ∈ allS := by
  rw [mem_allS] at *
  unfold gn at h
  split at h
  · cases h
  · rename_i n hn
    have := mv_lt hn
    split at h
    · split at h
      · cases h; exact ⟨by decide, by decide⟩
      · cases h
    · split at h
      · split at h
        · cases h; exact ⟨by show 1 < 6; decide, by show s.2 + 1 < 6; omega⟩
        · cases h
      · cases h; exact ⟨this, hs.2⟩
def imp (L : MLine) (q : Spot) (n : Nat) : Bool := match look L q with | none => true | some x => decide (n < x.1)
/-- one sign put in behind the spot s -/
def wst (M : Mn) (w : Nat) (s : Spot) (S : MLine × List Spot) (c : Nat) : MLine × List Spot := match gn M w s c, look S.1 s with
  | some q, some v => if imp S.1 q (v.1 + 1) = true then (put S.1 q (v.1 + 1, v.2 ++ [c]), S.2 ++ [q]) else S
  | _, _ => S
def wloop (M : Mn) (w : Nat) : Nat → MLine → List Spot → Option MLine
  | _, L, [] => some L
  | 0, _, _ :: _ => none
  | n + 1, L, s :: l => wloop M w n ((pIns M).foldl (wst M w s) (L, l)).1 ((pIns M).foldl (wst M w s) (L, l)).2

/-! #### what is sound, closed -/
/-- a way of speaking of spots, costs, texts that putting in keeps -/
def InsC (M : Mn) (w : Nat) (P : Spot → LVal → Prop) : Prop := ∀ s v c q, P s v → c ∈ pIns M → gn M w s c = some q → P q (v.1 + 1, v.2 ++ [c])
structure Sound (P : Spot → LVal → Prop) (m0 : Nat) (L0 L : MLine) : Prop where
  inU : ∀ s v, look L s = some v → s ∈ allS
  snd : ∀ s v, look L s = some v → P s v
  bnd : ∀ s v, look L s = some v → v.1 + miss L ≤ m0 + 36
  len : L.length + miss L ≤ 36
  le : ∀ s v, look L0 s = some v → ∃ x, look L s = some x ∧ x.1 ≤ v.1
structure InL (M : Mn) (w : Nat) (P : Spot → LVal → Prop) (m0 : Nat) (L0 : MLine) (s : Spot) (done : List Nat) (S : MLine × List Spot) : Prop where
  ok : Sound P m0 L0 S.1
  wt : ∀ q ∈ S.2, look S.1 q ≠ none
  at_ : look S.1 s ≠ none
  cl : ∀ q v, look S.1 q = some v → q ∉ S.2 → ∀ c, (q = s → c ∈ done) → c ∈ pIns M → ∀ q', gn M w q c = some q' → ∃ x, look S.1 q' = some x ∧ x.1 ≤ v.1 + 1
theorem bnd_pot {P : Spot → LVal → Prop} {m0 : Nat} {L0 L : MLine} (h : Sound P m0 L0 L) {s : Spot} {v : LVal} (e : look L s = some v) : v.1 ≤ m0 + 36 := by
  have := h.bnd s v e; omega
theorem inl_step {M : Mn} {w : Nat} (hw : w ≤ 6) {P : Spot → LVal → Prop} (hP : InsC M w P) {m0 : Nat} {L0 : MLine} {s : Spot} {done : List Nat} {S : MLine × List Spot} {c : Nat} (hc : c ∈ pIns M) (h : InL M w P m0 L0 s done S) :
    InL M w P m0 L0 s (done ++ [c]) (wst M w s S c) ∧ pot (m0 + 36) (wst M w s S c).1 + (wst M w s S c).2.length ≤ pot (m0 + 36) S.1 + S.2.length := by
  obtain ⟨L, l⟩ := S
  obtain ⟨v, hv⟩ := Option.ne_none_iff_exists'.mp h.at_
  unfold wst
  dsimp only at hv ⊢
  rw [hv]
  cases hg : gn M w s c with
  | none =>
    refine ⟨⟨h.ok, h.wt, h.at_, fun q v' hq hn d hd hp q' hg' => ?_⟩, Nat.le_refl _⟩
    by_cases e : q = s
    · subst e
      rcases List.mem_append.mp (hd rfl) with hd | hd
      · exact h.cl q v' hq hn d (fun _ => hd) hp q' hg'
      · rw [List.mem_singleton.mp hd, hg] at hg'; cases hg'
    · exact h.cl q v' hq hn d (fun z => absurd z e) hp q' hg'
  | some q =>
    dsimp only
    have hqU : q ∈ allS := gn_in hw (h.ok.inU s v hv) hg
    by_cases hi : imp L q (v.1 + 1) = true
    · rw [if_pos hi]
      have hlt : ∀ x, look L q = some x → v.1 + 1 < x.1 := fun x hx => by
        unfold imp at hi
        rw [hx] at hi
        exact of_decide_eq_true hi
      have hvb : v.1 + miss L ≤ m0 + 36 := h.ok.bnd s v hv
      have hnew : v.1 + 1 + miss (put L q (v.1 + 1, v.2 ++ [c])) ≤ m0 + 36 := by
        cases hx : look L q with
        | none => have := miss_new (v.1 + 1, v.2 ++ [c]) hx hqU; omega
        | some x =>
          have : x.1 + miss L ≤ m0 + 36 := h.ok.bnd q x hx
          have := hlt x hx
          have := miss_put L q (v.1 + 1, v.2 ++ [c])
          omega
      refine ⟨⟨⟨fun s' v' e => ?_, fun s' v' e => ?_, fun s' v' e => ?_, len_miss hqU h.ok.len, fun s' v' e => ?_⟩, fun q' hq' => ?_, ?_, fun s' v' e hn d hd hp q' hg' => ?_⟩, ?_⟩
      · dsimp only at e
        rw [look_put] at e
        split at e
        · rename_i z; rw [z]; exact hqU
        · exact h.ok.inU s' v' e
      · dsimp only at e
        rw [look_put] at e
        split at e
        · rename_i z; cases e; rw [z]; exact hP s v c q (h.ok.snd s v hv) hc hg
        · exact h.ok.snd s' v' e
      · dsimp only at e ⊢
        rw [look_put] at e
        split at e
        · cases e; exact hnew
        · have := h.ok.bnd s' v' e
          dsimp only at this
          have := miss_put L q (v.1 + 1, v.2 ++ [c])
          omega
      · obtain ⟨x, hx, hle⟩ := h.ok.le s' v' e
        dsimp only at hx ⊢
        rw [look_put]
        split
        · rename_i z
          rw [z] at hx
          exact ⟨_, rfl, by have := hlt x hx; show v.1 + 1 ≤ v'.1; omega⟩
        · exact ⟨x, hx, hle⟩
      · dsimp only at hq' ⊢
        rw [look_put]
        split
        · intro z; cases z
        · rcases List.mem_append.mp hq' with hq' | hq'
          · exact h.wt q' hq'
          · rename_i z; exact absurd (List.mem_singleton.mp hq') z
      · dsimp only
        rw [look_put]
        split
        · intro z; cases z
        · exact h.at_
      · dsimp only at e hn ⊢
        have hne : s' ≠ q := fun z => hn (List.mem_append_right _ (by rw [z]; exact List.mem_singleton_self _))
        have hnl : s' ∉ l := fun z => hn (List.mem_append_left _ z)
        rw [look_put, if_neg hne] at e
        have old : (∃ x, look L q' = some x ∧ x.1 ≤ v'.1 + 1) ∨ (s' = s ∧ d = c) := by
          by_cases es : s' = s
          · rcases List.mem_append.mp (hd es) with hd' | hd'
            · exact .inl (h.cl s' v' e hnl d (fun _ => hd') hp q' hg')
            · exact .inr ⟨es, List.mem_singleton.mp hd'⟩
          · exact .inl (h.cl s' v' e hnl d (fun z => absurd z es) hp q' hg')
        rw [look_put]
        rcases old with ⟨x, hx, hle⟩ | ⟨es, ed⟩
        · split
          · rename_i z
            rw [z] at hx
            exact ⟨_, rfl, by have := hlt x hx; show v.1 + 1 ≤ v'.1 + 1; omega⟩
          · exact ⟨x, hx, hle⟩
        · subst es
          subst ed
          rw [hg] at hg'
          cases hg'
          rw [if_pos rfl]
          rw [hv] at e
          cases e
          exact ⟨_, rfl, Nat.le_refl _⟩
      · have : pot (m0 + 36) (put L q (v.1 + 1, v.2 ++ [c])) + 1 ≤ pot (m0 + 36) L := by
          refine sum_lt (fun s' => ?_) (q := q) ?_ _ hqU
          · unfold potF
            rw [look_put]
            by_cases z : s' = q
            · rw [if_pos z, z]
              cases hx : look L q with
              | none => show v.1 + 1 ≤ _; dsimp only; omega
              | some x => have := hlt x hx; show v.1 + 1 ≤ x.1; omega
            · rw [if_neg z]; exact Nat.le_refl _
          · unfold potF
            rw [look_put, if_pos rfl]
            cases hx : look L q with
            | none => show v.1 + 1 + 1 ≤ m0 + 36 + 1; omega
            | some x => have := hlt x hx; show v.1 + 1 + 1 ≤ x.1; omega
        dsimp only
        rw [List.length_append, List.length_singleton]
        omega
    · rw [if_neg hi]
      refine ⟨⟨h.ok, h.wt, h.at_, fun s' v' e hn d hd hp q' hg' => ?_⟩, Nat.le_refl _⟩
      by_cases es : s' = s
      · rcases List.mem_append.mp (hd es) with hd' | hd'
        · exact h.cl s' v' e hn d (fun _ => hd') hp q' hg'
        · rw [List.mem_singleton.mp hd'] at hg'
          subst es
          rw [hg] at hg'
          cases hg'
          rw [show v = v' from Option.some.inj (hv.symm.trans e)] at hi
          unfold imp at hi
          dsimp only
          cases hx : look L q with
          | none => rw [hx] at hi; exact absurd rfl hi
          | some x =>
            rw [hx] at hi
            have : ¬ v'.1 + 1 < x.1 := fun z => hi (decide_eq_true z)
            exact ⟨x, rfl, by omega⟩
      · exact h.cl s' v' e hn d (fun z => absurd z es) hp q' hg'
theorem inl_fold {M : Mn} {w : Nat} (hw : w ≤ 6) {P : Spot → LVal → Prop} (hP : InsC M w P) {m0 : Nat} {L0 : MLine} {s : Spot} : ∀ (cs done : List Nat) (S : MLine × List Spot), (∀ c ∈ cs, c ∈ pIns M) → InL M w P m0 L0 s done S →
    InL M w P m0 L0 s (done ++ cs) (cs.foldl (wst M w s) S) ∧ pot (m0 + 36) (cs.foldl (wst M w s) S).1 + (cs.foldl (wst M w s) S).2.length ≤ pot (m0 + 36) S.1 + S.2.length
  | [], done, S, _, h => by rw [List.append_nil]; exact ⟨h, Nat.le_refl _⟩
  | c :: cs, done, S, hc, h => by
    obtain ⟨h1, h2⟩ := inl_step hw hP (hc c List.mem_cons_self) h
    obtain ⟨h3, h4⟩ := inl_fold hw hP cs (done ++ [c]) _ (fun d hd => hc d (List.mem_cons_of_mem _ hd)) h1
    rw [List.append_assoc] at h3
    exact ⟨h3, Nat.le_trans h4 h2⟩
/-- between two spots -/
structure OutL (M : Mn) (w : Nat) (P : Spot → LVal → Prop) (m0 : Nat) (L0 L : MLine) (l : List Spot) : Prop where
  ok : Sound P m0 L0 L
  wt : ∀ q ∈ l, look L q ≠ none
  cl : ∀ q v, look L q = some v → q ∉ l → ∀ c ∈ pIns M, ∀ q', gn M w q c = some q' → ∃ x, look L q' = some x ∧ x.1 ≤ v.1 + 1
theorem out_step {M : Mn} {w : Nat} (hw : w ≤ 6) {P : Spot → LVal → Prop} (hP : InsC M w P) {m0 : Nat} {L0 L : MLine} {s : Spot} {l : List Spot} (h : OutL M w P m0 L0 L (s :: l)) :
    OutL M w P m0 L0 ((pIns M).foldl (wst M w s) (L, l)).1 ((pIns M).foldl (wst M w s) (L, l)).2 ∧ pot (m0 + 36) ((pIns M).foldl (wst M w s) (L, l)).1 + ((pIns M).foldl (wst M w s) (L, l)).2.length + 1 ≤ pot (m0 + 36) L + (s :: l).length := by
  have h0 : InL M w P m0 L0 s [] (L, l) := ⟨h.ok, fun q hq => h.wt q (List.mem_cons_of_mem _ hq), h.wt s List.mem_cons_self, fun q v e hn c hc hp q' hg => by
    by_cases es : q = s
    · have := hc es; cases this
    · exact h.cl q v e (fun z => (List.mem_cons.mp z).elim es hn) c hp q' hg⟩
  obtain ⟨h1, h2⟩ := inl_fold hw hP (pIns M) [] (L, l) (fun _ hc => hc) h0
  rw [List.nil_append] at h1
  refine ⟨⟨h1.ok, h1.wt, fun q v e hn c hc q' hg => h1.cl q v e hn c (fun _ => hc) hc q' hg⟩, ?_⟩
  rw [List.length_cons]
  exact Nat.succ_le_succ h2
theorem wloop_nil (M : Mn) (w n : Nat) (L : MLine) : wloop M w n L [] = some L := by
  cases n with
  | zero => rw [wloop]
  | succ n => rw [wloop]
theorem wloop_ok {M : Mn} {w : Nat} (hw : w ≤ 6) {P : Spot → LVal → Prop} (hP : InsC M w P) {m0 : Nat} {L0 : MLine} (n : Nat) : ∀ (L : MLine) (l : List Spot), OutL M w P m0 L0 L l → pot (m0 + 36) L + l.length ≤ n → ∃ L', wloop M w n L l = some L' ∧ OutL M w P m0 L0 L' [] := by
  induction n with
  | zero =>
    intro L l h hn
    cases l with
    | nil => exact ⟨L, wloop_nil M w 0 L, h⟩
    | cons s l => exact absurd (Nat.le_trans (Nat.le_add_left _ _) hn) (Nat.not_succ_le_zero _)
  | succ n ih =>
    intro L l h hn
    cases l with
    | nil => exact ⟨L, wloop_nil M w _ L, h⟩
    | cons s l =>
      obtain ⟨h1, h2⟩ := out_step hw hP h
      rw [wloop]
      exact ih _ _ h1 (Nat.le_of_succ_le_succ (Nat.le_trans h2 hn))
theorem pot_le {P : Spot → LVal → Prop} {m0 : Nat} {L0 L : MLine} (h : Sound P m0 L0 L) : pot (m0 + 36) L ≤ 36 * (m0 + 37) := by
  have hk : ∀ s, potF (m0 + 36) L s ≤ m0 + 37 := fun s => by
    unfold potF
    cases e : look L s with
    | none => show m0 + 36 + 1 ≤ m0 + 37; omega
    | some v =>
      have := bnd_pot h e
      show v.1 ≤ m0 + 37
      omega
  have h2 := sum_all hk allS
  rw [allS_len] at h2
  unfold pot
  exact h2
/-! #### all ways -/
inductive Way (M : Mn) (w : Nat) : List Nat → Spot → LVal → Prop
  | nil : Way M w [] (0, 0) (0, [])
  | ins {t s v c q} : Way M w t s v → c ∈ pIns M → gn M w s c = some q → Way M w t q (v.1 + 1, v.2 ++ [c])
  | del {t s v} (a : Nat) : Way M w t s v → Way M w (t ++ [a]) s (v.1 + 1, v.2)
  | keep {t s v a q} : Way M w t s v → gn M w s a = some q → Way M w (t ++ [a]) q (v.1, v.2 ++ [a])
structure Exact (M : Mn) (w : Nat) (t : List Nat) (m : Nat) (L : MLine) : Prop where
  inU : ∀ s v, look L s = some v → s ∈ allS
  snd : ∀ s v, look L s = some v → Way M w t s v
  all : ∀ s v, Way M w t s v → ∃ x, look L s = some x ∧ x.1 ≤ v.1
  bnd : ∀ s v, look L s = some v → v.1 ≤ m
  len : L.length ≤ 36
theorem way_len {M : Mn} {w : Nat} {t : List Nat} {s : Spot} {v : LVal} (h : Way M w t s v) : v.2.length ≤ t.length + v.1 := by
  induction h with
  | nil => exact Nat.zero_le _
  | ins _ _ _ ih => dsimp only; rw [List.length_append, List.length_singleton]; omega
  | del _ _ ih => dsimp only; rw [List.length_append, List.length_singleton]; omega
  | keep _ _ ih => dsimp only; rw [List.length_append, List.length_singleton, List.length_append, List.length_singleton]; omega
/-- one more sign of the text -/
def mst (M : Mn) (w a : Nat) (L m : MLine) (s : Spot) : MLine := match look L s with
  | none => m
  | some v =>
    match gn M w s a with
    | none => if imp m s (v.1 + 1) = true then put m s (v.1 + 1, v.2) else m
    | some q => if imp (if imp m s (v.1 + 1) = true then put m s (v.1 + 1, v.2) else m) q v.1 = true then put (if imp m s (v.1 + 1) = true then put m s (v.1 + 1, v.2) else m) q (v.1, v.2 ++ [a]) else (if imp m s (v.1 + 1) = true then put m s (v.1 + 1, v.2) else m)
structure More (P : Spot → LVal → Prop) (b : Nat) (m : MLine) : Prop where
  inU : ∀ s v, look m s = some v → s ∈ allS
  snd : ∀ s v, look m s = some v → P s v
  bnd : ∀ s v, look m s = some v → v.1 ≤ b
  len : m.length + miss m ≤ 36
def below (m : MLine) (s : Spot) (n : Nat) : Prop := ∃ x, look m s = some x ∧ x.1 ≤ n
theorem more_put {P : Spot → LVal → Prop} {b : Nat} {m : MLine} (h : More P b m) {q : Spot} {v : LVal} (hq : q ∈ allS) (hP : P q v) (hv : v.1 ≤ b) : More P b (if imp m q v.1 = true then put m q v else m) ∧ below (if imp m q v.1 = true then put m q v else m) q v.1 ∧ ∀ s n, below m s n → below (if imp m q v.1 = true then put m q v else m) s n := by
  by_cases hi : imp m q v.1 = true
  · rw [if_pos hi]
    refine ⟨⟨fun s x e => ?_, fun s x e => ?_, fun s x e => ?_, len_miss hq h.len⟩, ⟨v, by rw [look_put, if_pos rfl], Nat.le_refl _⟩, fun s n ⟨x, e, hn⟩ => ?_⟩
    · rw [look_put] at e
      split at e
      · rename_i z; rw [z]; exact hq
      · exact h.inU s x e
    · rw [look_put] at e
      split at e
      · rename_i z; cases e; rw [z]; exact hP
      · exact h.snd s x e
    · rw [look_put] at e
      split at e
      · cases e; exact hv
      · exact h.bnd s x e
    · unfold below
      rw [look_put]
      split
      · rename_i z
        rw [z] at e
        unfold imp at hi
        rw [e] at hi
        have := of_decide_eq_true hi
        exact ⟨v, rfl, by omega⟩
      · exact ⟨x, e, hn⟩
  · rw [if_neg hi]
    refine ⟨h, ?_, fun _ _ z => z⟩
    unfold imp at hi
    cases e : look m q with
    | none => rw [e] at hi; exact absurd rfl hi
    | some x =>
      rw [e] at hi
      have : ¬ v.1 < x.1 := fun z => hi (decide_eq_true z)
      exact ⟨x, e, by omega⟩
theorem mst_ok {M : Mn} {w : Nat} (hw : w ≤ 6) {P P' : Spot → LVal → Prop} {b a : Nat} {L m : MLine} {s : Spot} (h : More P' (b + 1) m) (hU : ∀ s v, look L s = some v → s ∈ allS) (hb : ∀ s v, look L s = some v → v.1 ≤ b)
    (h1 : ∀ v, look L s = some v → P' s (v.1 + 1, v.2)) (h2 : ∀ v q, look L s = some v → gn M w s a = some q → P' q (v.1, v.2 ++ [a])) :
    More P' (b + 1) (mst M w a L m s) ∧ (∀ v, look L s = some v → below (mst M w a L m s) s (v.1 + 1) ∧ ∀ q, gn M w s a = some q → below (mst M w a L m s) q v.1) ∧ ∀ s' n, below m s' n → below (mst M w a L m s) s' n := by
  unfold mst
  cases hs : look L s with
  | none => exact ⟨h, fun v e => (by cases e), fun _ _ z => z⟩
  | some v =>
    dsimp only
    have hv := hb s v hs
    obtain ⟨a1, a2, a3⟩ := more_put h (q := s) (v := (v.1 + 1, v.2)) (hU s v hs) (h1 v hs) (by show v.1 + 1 ≤ b + 1; omega)
    dsimp only at a1 a2 a3
    generalize hm1 : (if imp m s (v.1 + 1) = true then put m s (v.1 + 1, v.2) else m) = m1 at *
    cases hg : gn M w s a with
    | none =>
      dsimp only
      exact ⟨a1, fun v' e => (by cases e; exact ⟨a2, fun q z => (by cases z)⟩), a3⟩
    | some q =>
      dsimp only
      obtain ⟨b1, b2, b3⟩ := more_put a1 (q := q) (v := (v.1, v.2 ++ [a])) (gn_in hw (hU s v hs) hg) (h2 v q hs hg) (by show v.1 ≤ b + 1; omega)
      dsimp only at b1 b2 b3
      exact ⟨b1, fun v' e => (by cases e; exact ⟨b3 _ _ a2, fun q' z => (by cases z; exact b2)⟩), fun s' n z => b3 _ _ (a3 s' n z)⟩
theorem mst_fold {M : Mn} {w : Nat} (hw : w ≤ 6) {P' : Spot → LVal → Prop} {b a : Nat} {L : MLine} (hU : ∀ s v, look L s = some v → s ∈ allS) (hb : ∀ s v, look L s = some v → v.1 ≤ b)
    (h1 : ∀ s v, look L s = some v → P' s (v.1 + 1, v.2)) (h2 : ∀ s v q, look L s = some v → gn M w s a = some q → P' q (v.1, v.2 ++ [a])) : ∀ (ss : List Spot) (m : MLine), More P' (b + 1) m →
    More P' (b + 1) (ss.foldl (mst M w a L) m) ∧ (∀ s ∈ ss, ∀ v, look L s = some v → below (ss.foldl (mst M w a L) m) s (v.1 + 1) ∧ ∀ q, gn M w s a = some q → below (ss.foldl (mst M w a L) m) q v.1) ∧ ∀ s' n, below m s' n → below (ss.foldl (mst M w a L) m) s' n
  | [], m, h => ⟨h, fun s z => (by cases z), fun _ _ z => z⟩
  | s :: ss, m, h => by
    obtain ⟨c1, c2, c3⟩ := mst_ok (P := P') hw (s := s) (a := a) (L := L) h hU hb (h1 s) (h2 s)
    obtain ⟨d1, d2, d3⟩ := mst_fold hw hU hb h1 h2 ss _ c1
    rw [List.foldl_cons]
    refine ⟨d1, fun s' hs' v e => ?_, fun s' n z => d3 _ _ (c3 s' n z)⟩
    rcases List.mem_cons.mp hs' with rfl | hs'
    · obtain ⟨e1, e2⟩ := c2 v e
      exact ⟨d3 _ _ e1, fun q hq => d3 _ _ (e2 q hq)⟩
    · exact d2 s' hs' v e
theorem way_ins {M : Mn} {w : Nat} {t : List Nat} : InsC M w (Way M w t) := fun _ _ _ _ h hc hg => .ins h hc hg
/-- a line that is sound and closed, above what was given -/
theorem exact_of {M : Mn} {w : Nat} {t : List Nat} {m0 : Nat} {L0 L : MLine} (h : OutL M w (Way M w t) m0 L0 L []) (h0 : ∀ s v, Way M w t s v → (∀ t' s' v' a, t = t' ++ [a] → Way M w t' s' v' → below L0 s' (v'.1 + 1) ∧ ∀ q, gn M w s' a = some q → below L0 q v'.1) ∧ (t = [] → below L0 (0, 0) 0)) : Exact M w t (m0 + 36) L := by
  refine ⟨h.ok.inU, h.ok.snd, fun s v hw => ?_, fun s v e => bnd_pot h.ok e, by have := h.ok.len; omega⟩
  have up : ∀ q n, below L0 q n → below L q n := fun q n ⟨x, e, hx⟩ => by
    obtain ⟨y, e2, hy⟩ := h.ok.le q x e
    exact ⟨y, e2, Nat.le_trans hy hx⟩
  have hw0 := h0 s v hw
  clear h0
  show below L s v.1
  generalize ht : t = t0 at hw
  induction hw with
  | nil => exact up _ _ (hw0.2 ht)
  | ins p hc hg ih =>
    obtain ⟨x, e, hx⟩ := ih ht
    obtain ⟨y, e2, hy⟩ := h.cl _ x e (by simp) _ hc _ hg
    exact ⟨y, e2, by dsimp only; omega⟩
  | del a p ih => exact up _ _ (hw0.1 _ _ _ a ht p).1
  | keep p hg ih => exact up _ _ ((hw0.1 _ _ _ _ ht p).2 _ hg)
end W

/-! ### tables that are own trees -/
namespace W
open PySem PL
@[simp] theorem gT_zero (t : OT) (r : PL.Env) : gT (.tre t :: r) 0 = some t := rfl
@[simp] theorem gT_succ (s : Sl) (r : PL.Env) (i : Nat) : gT (s :: r) (i + 1) = gT r i := rfl
@[simp] theorem gV_zeroT (t : OT) (r : PL.Env) : gV (.tre t :: r) 0 = none := rfl
@[simp] theorem frz1_tre (t : OT) : frz1 (.tre t) = .val t.toD := rfl
@[simp] theorem frzT1_tre (t : OT) : frzT1 (.tre t) = .val t.toD := rfl
@[simp] theorem frzT1_val (d : Dt) : frzT1 (.val d) = .val d := rfl
@[simp] theorem frzT1_no : frzT1 .no = .no := rfl
@[simp] theorem frzTE_nil : frzTE [] = [] := rfl
@[simp] theorem frzTE_cons (s : Sl) (r : PL.Env) : frzTE (s :: r) = frzT1 s :: frzTE r := rfl
@[simp] theorem frzTAt_zero (t : OT) (r : PL.Env) : frzTAt 0 (.tre t :: r) = .val t.toD :: r := rfl
@[simp] theorem frzTAt_zeroV (d : Dt) (r : PL.Env) : frzTAt 0 (.val d :: r) = .val d :: r := rfl
@[simp] theorem frzTAt_zeroN (r : PL.Env) : frzTAt 0 (.no :: r) = .no :: r := rfl
@[simp] theorem frzTAt_succ (s : Sl) (r : PL.Env) (i : Nat) : frzTAt (i + 1) (s :: r) = s :: frzTAt i r := by
  unfold frzTAt
  show (match r[i]? with | some (.tre t) => (s :: r).set (i + 1) (.val t.toD) | _ => s :: r) = s :: (match r[i]? with | some (.tre t) => r.set i (.val t.toD) | _ => r)
  split <;> rfl
@[simp] theorem e_fFixT (j : Nat) (a : PL.Env → Option Out) (r : PL.Env) : fFixT j a r = a (frzTAt j r) := rfl
@[simp] theorem e_fSetU (i : Nat) (f : PL.Env → Option OT) (r : PL.Env) : fSetU i f r = (f r).map fun t => .nx (r.set i (.tre t)) := rfl
@[simp] theorem e_uL (f : PL.Env → Option (List Dt)) (r : PL.Env) : uL f r = (f r).map fun ds => .node (ds.map .leaf) := rfl
@[simp] theorem e_uE (f : PL.Env → Option Dt) (r : PL.Env) : uE f r = (f r).map .leaf := rfl
@[simp] theorem e_uNil (r : PL.Env) : uNil r = some [] := rfl
theorem e_uCons {a : PL.Env → Option OT} {b : PL.Env → Option (List OT)} {r : PL.Env} {t : OT} {ts : List OT} (h1 : a r = some t) (h2 : b r = some ts) : uCons a b r = some (t :: ts) := by
  unfold uCons; rw [h1, h2]
theorem e_uLst {a : PL.Env → Option (List OT)} {r : PL.Env} {ts : List OT} (h : a r = some ts) (hl : ts.length ≤ 100000) : uLst a r = some (.node ts) := by
  unfold uLst; rw [h]; exact if_pos hl
theorem e_uFrz {f : PL.Env → Option OT} {r : PL.Env} {t : OT} (h : f (frzE r) = some t) (hf : t.flat = true) : uFrz f r = some t := by
  unfold uFrz; rw [h]; exact if_pos hf
theorem e_uMake {c : Nat} {g : List Dt → Option OT} {a : PL.Env → Option (List Dt)} {r : PL.Env} {ds : List Dt} {t : OT} (h : a r = some ds) (h2 : g ds = some t) : uMake c g a r = some (.ob c [t]) := by
  unfold uMake; rw [h]; dsimp only; rw [h2]
theorem e_uCall {g : List Dt → Option OT} {a : PL.Env → Option (List Dt)} {r : PL.Env} {ds : List Dt} {t : OT} (h : a r = some ds) (h2 : g ds = some t) : uCall g a r = some t := by
  unfold uCall; rw [h]; exact h2
theorem e_fFrzT {f : PL.Env → Option Dt} {r : PL.Env} {d : Dt} (h : f (frzTE r) = some d) (hf : flatT d = true) : fFrzT f r = some d := by
  unfold fFrzT; rw [h]; exact if_pos hf
theorem e_fAppU {i : Nat} {π : PL.Env → Option (List Nat)} {f : PL.Env → Option OT} {r : PL.Env} {t u : OT} {ks : List Nat} {l : List OT} (h1 : gT r i = some t) (h2 : π r = some ks) (h3 : f r = some u) (h4 : t.at ks = some (.node l)) (hl : l.length ≤ 100000) : fAppU i π f r = some (.nx (r.set i (.tre (t.put ks (.node (l ++ [u])))))) := by
  unfold fAppU; rw [h1, h2, h3]; dsimp only; rw [h4]; exact if_pos hl
theorem e_fPopT {i : Nat} {π : PL.Env → Option (List Nat)} {r : PL.Env} {t : OT} {ks : List Nat} {l : List OT} (h1 : gT r i = some t) (h2 : π r = some ks) (h4 : t.at ks = some (.node l)) (hl : l ≠ []) : fPopT i π r = some (.nx (r.set i (.tre (t.put ks (.node l.dropLast))))) := by
  unfold fPopT; rw [h1, h2]; dsimp only; rw [h4]; exact if_neg hl
theorem e_fRevT {i : Nat} {π : PL.Env → Option (List Nat)} {r : PL.Env} {t : OT} {ks : List Nat} {l : List OT} (h1 : gT r i = some t) (h2 : π r = some ks) (h4 : t.at ks = some (.node l)) : fRevT i π r = some (.nx (r.set i (.tre (t.put ks (.node l.reverse))))) := by
  unfold fRevT; rw [h1, h2]; dsimp only; rw [h4]
theorem e_fSetT {i : Nat} {π : PL.Env → Option (List Nat)} {f k : PL.Env → Option Dt} {r : PL.Env} {t : OT} {ks : List Nat} {l : List OT} {d : Dt} {z : Int} {j : Nat} (h1 : gT r i = some t) (h2 : f r = some d) (h3 : π r = some ks) (h5 : k (frzE r) = some (.int z)) (h4 : t.at ks = some (.node l)) (h6 : L2.ixN l.length z = some j) : fSetT i π f k r = some (.nx (r.set i (.tre (t.put ks (.node (l.set j (.leaf d))))))) := by
  unfold fSetT; rw [h1, h2, h3, h5]; dsimp only; rw [h4]; dsimp only; rw [h6]
theorem e_fForT {i x : Nat} {π : PL.Env → Option (List Nat)} {op : List OT → Option (List OT)} {r : PL.Env} {t : OT} {ks : List Nat} {rows rows' : List OT} (hx : ¬ (x = i ∨ r.length ≤ x)) (h1 : gT r i = some t) (h2 : π r = some ks) (h4 : t.at ks = some (.node rows)) (h5 : opRows op rows = some rows') : fForT i x π op r = some (.nx ((r.set x .no).set i (.tre (t.put ks (.node rows'))))) := by
  unfold fForT; rw [if_neg hx, h1, h2]; dsimp only; rw [h4]; dsimp only; rw [h5]
theorem e_pIx {i : Nat} {π : PL.Env → Option (List Nat)} {f : PL.Env → Option Dt} {r : PL.Env} {t : OT} {ks : List Nat} {k : Int} {l : List OT} {j : Nat} (h1 : gT r i = some t) (h2 : π r = some ks) (h3 : f (frzE r) = some (.int k)) (h4 : t.at ks = some (.node l)) (h5 : L2.ixN l.length k = some j) : pIx i π f r = some (ks ++ [j]) := by
  unfold pIx; rw [h1, h2, h3]; dsimp only; rw [h4]; dsimp only; rw [h5]
theorem e_pFld {i c m : Nat} {π : PL.Env → Option (List Nat)} {r : PL.Env} {t : OT} {ks : List Nat} {l : List OT} (h1 : gT r i = some t) (h2 : π r = some ks) (h4 : t.at ks = some (.ob c l)) (hm : m < l.length) : pFld i c m π r = some (ks ++ [m]) := by
  unfold pFld; rw [h1, h2]; dsimp only; rw [h4]; exact if_pos ⟨rfl, hm⟩
@[simp] theorem e_pNm (r : PL.Env) : pNm r = some [] := rfl
/-- rows, a table -/
def rowT (row : List (List Nat)) : OT := .node ((row.map Dt.str).map .leaf)
def tabT (rows : List (List (List Nat))) : OT := .node (rows.map rowT)
theorem toDs_leaf : ∀ ds : List Dt, OT.toDs (ds.map .leaf) = ds
  | [] => rfl
  | d :: ds => by rw [List.map_cons, OT.toDs, toDs_leaf ds]; rfl
@[simp] theorem rowT_toD (row : List (List Nat)) : (rowT row).toD = rowD row := by
  unfold rowT rowD
  rw [OT.toD, toDs_leaf]
theorem toDs_rows : ∀ rows : List (List (List Nat)), OT.toDs (rows.map rowT) = rows.map rowD
  | [] => rfl
  | r :: rows => by rw [List.map_cons, OT.toDs, toDs_rows rows, rowT_toD]; rfl
@[simp] theorem tabT_toD (rows : List (List (List Nat))) : (tabT rows).toD = tabD rows := by
  unfold tabT tabD
  rw [OT.toD, toDs_rows]
theorem flats_row : ∀ row : List (List Nat), OT.flats ((row.map Dt.str).map .leaf) = true
  | [] => rfl
  | t :: row => by rw [List.map_cons, List.map_cons, OT.flats, flats_row row]; rfl
theorem flats_rows : ∀ rows : List (List (List Nat)), OT.flats (rows.map rowT) = true
  | [] => rfl
  | r :: rows => by
    rw [List.map_cons, OT.flats, flats_rows rows, Bool.and_true]
    unfold rowT
    rw [OT.flat, flats_row]
theorem flat_tab (rows : List (List (List Nat))) : (tabT rows).flat = true := by
  unfold tabT
  rw [OT.flat, flats_rows]
theorem flat_ob {c : Nat} {t : OT} (h : t.flat = true) : (OT.ob c [t]).flat = true := by
  rw [OT.flat, OT.flats, OT.flats, h]; rfl
theorem ob_toD (c : Nat) (t : OT) : (OT.ob c [t]).toD = .obj c [t.toD] := by
  rw [OT.toD, OT.toDs, OT.toDs]
/-- [list(row) for row in rows] -/
theorem compU_rows {j : Nat} {e : PL.Env → Option OT} {r : PL.Env} : ∀ rows : List (List (List Nat)), (∀ row ∈ rows, e (r.set j (.val (rowD row))) = some (rowT row)) → compU j fYes e (rows.map rowD) r = some (rows.map rowT)
  | [], _ => rfl
  | row :: rows, h => by
    rw [List.map_cons, List.map_cons]
    unfold compU
    show (match e (r.set j (.val (rowD row))) with | some d => (match compU j fYes e (rows.map rowD) r with | some ds => some (d :: ds) | none => none) | none => none) = _
    rw [h row List.mem_cons_self, compU_rows rows fun x hx => h x (List.mem_cons_of_mem _ hx)]
theorem uComp_rows {f : PL.Env → Option (List Dt)} {j : Nat} {vs : List Nat} {e : PL.Env → Option OT} {r : PL.Env} {rows : List (List (List Nat))} (h : f r = some (rows.map rowD)) (hl : rows.length ≤ 10000) (he : ∀ row ∈ rows, e ((wipeE r vs).set j (.val (rowD row))) = some (rowT row)) : uComp f j vs fYes e r = some (tabT rows) := by
  unfold uComp
  rw [h]
  dsimp only
  rw [if_pos (by rw [List.length_map]; omega), compU_rows rows he]
  rfl
theorem opRows_app (c : List Nat) : ∀ rows : List (List (List Nat)), (∀ r ∈ rows, r.length ≤ 100000) → opRows (opApp c) (rows.map rowT) = some ((rows.map fun r => r ++ [c]).map rowT)
  | [], _ => rfl
  | r :: rows, h => by
    have e1 : opApp c ((r.map Dt.str).map .leaf) = some (((r ++ [c]).map Dt.str).map .leaf) := by
      unfold opApp
      rw [if_pos (by rw [List.length_map, List.length_map]; exact h r List.mem_cons_self), List.map_append, List.map_append]
      rfl
    rw [List.map_cons, List.map_cons, List.map_cons]
    unfold opRows
    show (match opApp c ((r.map Dt.str).map .leaf) with | some l' => (match opRows (opApp c) (rows.map rowT) with | some rs => some (OT.node l' :: rs) | none => none) | none => none) = _
    rw [e1, opRows_app c rows fun x hx => h x (List.mem_cons_of_mem _ hx)]
    rfl
theorem opRows_pop : ∀ (c : List Nat) (rows : List (List (List Nat))), opRows opPop ((rows.map fun r => r ++ [c]).map rowT) = some (rows.map rowT)
  | c, [] => rfl
  | c, r :: rows => by
    have e1 : opPop (((r ++ [c]).map Dt.str).map .leaf) = some ((r.map Dt.str).map .leaf) := by
      unfold opPop
      rw [List.map_append, List.map_append, List.reverse_append]
      show some ((List.map OT.leaf (List.map Dt.str r)).reverse.reverse) = _
      rw [List.reverse_reverse]
    rw [List.map_cons, List.map_cons, List.map_cons]
    unfold opRows
    show (match opPop (((r ++ [c]).map Dt.str).map .leaf) with | some l' => (match opRows opPop ((rows.map fun r => r ++ [c]).map rowT) with | some rs => some (OT.node l' :: rs) | none => none) | none => none) = _
    rw [e1, opRows_pop c rows]
    rfl
end W

/-! ### what is asked -/
namespace W
open PySem PL
theorem signs_ok {t : List Nat} {most : Nat} (hm : most ≤ 10000) (ht : t.length ≤ most) (g : good t) : r_is_signs [.str t, .int most] = some (.bl true) := by
  refine run_rt rfl ?_
  have hc : fComp (fItems (fV 0)) 2 [2] fYes (fOp inD (fV 2) (fC (.str zs_SIGNS))) [.val (.str t), .val (.int most), .no] = some ((t.map fun c => zs_SIGNS.contains c).map Dt.bl) := by
    rw [e_fComp (items := signsOf t) (h := by simp) (hl := by simp [signsOf]; omega)]
    exact comp_map (fun c => .str [c]) Dt.bl (fun c => zs_SIGNS.contains c) t fun c _ => by simp
  have ha : ((t.map fun c => zs_SIGNS.contains c).all id) = true := by
    rw [List.all_map, List.all_eq_true]
    intro c hc
    exact List.contains_iff_mem.mpr (g c hc)
  have hall := allD_map (t.map fun c => zs_SIGNS.contains c)
  rw [ha] at hall
  simp (disch := omega) [b_is_signs, isi_s, hc, hall, ht, -List.map_map, -List.contains_eq_mem]
theorem check_text_ok {t : List Nat} (ht : t.length ≤ 200) (g : good t) : r_check_text [.str t] = some .non := by
  refine run_nx (r := [.val (.str t)]) rfl ?_
  have h : r_is_signs [.str t, .int 200] = some (.bl true) := signs_ok (most := 200) (by decide) ht g
  simp [b_check_text, h]
end W

namespace W
open PySem PL
theorem check_manner_ok {M : Mn} (hM : M ∈ mns) : r_check_manner [mnD M] = some .non := by
  have : (mns.all fun M => match r_check_manner [mnD M] with | some .non => true | _ => false) = true := by decide +kernel
  have h := List.all_eq_true.mp this M hM
  revert h
  split
  · intro _; assumption
  · intro h; cases h
end W

/-! ### mending: what the defs answer -/
namespace W
open PySem PL
def spI (s : Spot) : Int × Int := ((s.1 : Int), (s.2 : Int))
def spotD (s : Spot) : Dt := .tup [.int s.1, .int s.2]
def lvD (v : LVal) : Dt := .tup [.int v.1, .str v.2]
def lK (L : MLine) : List (Int × Int) := L.map fun e => spI e.1
def lV (L : MLine) : List Dt := L.map fun e => lvD e.2
theorem spI_eq {s q : Spot} : spI s = spI q ↔ s = q := by
  constructor
  · intro h
    unfold spI at h
    injection h with h1 h2
    exact Prod.ext (by omega) (by omega)
  · rintro rfl; rfl
@[simp] theorem keyOf_spot (s : Spot) : keyOf (spotD s) = some (spI s) := rfl
theorem dGet_look (s : Spot) : ∀ L : MLine, dGet (lK L) (lV L) (spI s) = (look L s).map lvD
  | [] => rfl
  | e :: L => by
    show (if spI e.1 = spI s then some (lvD e.2) else dGet (lK L) (lV L) (spI s)) = _
    rw [look, dGet_look s L]
    by_cases h : e.1 = s
    · rw [if_pos h, if_pos (spI_eq.mpr h)]; rfl
    · rw [if_neg h, if_neg fun z => h (spI_eq.mp z)]
theorem mem_lK (s : Spot) : ∀ L : MLine, spI s ∈ lK L ↔ (look L s).isSome = true
  | [] => by simp [lK, look]
  | e :: L => by
    show spI s ∈ spI e.1 :: lK L ↔ _
    rw [List.mem_cons, mem_lK s L, look]
    by_cases h : e.1 = s
    · rw [if_pos h]; simp [h]
    · rw [if_neg h]
      have : ¬ spI s = spI e.1 := fun z => h (spI_eq.mp z).symm
      simp [this]
theorem dPutL_map (s : Spot) (v : LVal) : ∀ L : MLine, dPutL (lK L) (lV L) (spI s) (lvD v) = lV (L.map fun e => if e.1 = s then (e.1, v) else e)
  | [] => rfl
  | e :: L => by
    show (if spI e.1 = spI s then lvD v else lvD e.2) :: dPutL (lK L) (lV L) (spI s) (lvD v) = _
    rw [dPutL_map s v L, List.map_cons]
    by_cases h : e.1 = s
    · rw [if_pos h, if_pos (spI_eq.mpr h)]; rfl
    · rw [if_neg h, if_neg fun z => h (spI_eq.mp z)]; rfl
theorem lK_map (s : Spot) (v : LVal) (L : MLine) : lK (L.map fun e => if e.1 = s then (e.1, v) else e) = lK L := by
  unfold lK
  rw [List.map_map]
  refine List.map_congr_left fun e _ => ?_
  show spI (if e.1 = s then (e.1, v) else e).1 = spI e.1
  split <;> rfl
theorem putK_eq (L : MLine) (s : Spot) (v : LVal) : dPutK (lK L) (spI s) = lK (put L s v) := by
  unfold dPutK put
  by_cases h : (look L s).isSome = true
  · rw [if_pos ((mem_lK s L).mpr h), if_pos h, lK_map]
  · rw [if_neg fun z => h ((mem_lK s L).mp z), if_neg h]
    unfold lK
    rw [List.map_append]; rfl
theorem putV_eq (L : MLine) (s : Spot) (v : LVal) : dPutV (lK L) (lV L) (spI s) (lvD v) = lV (put L s v) := by
  unfold dPutV put
  by_cases h : (look L s).isSome = true
  · rw [if_pos ((mem_lK s L).mpr h), if_pos h, dPutL_map]
  · rw [if_neg fun z => h ((mem_lK s L).mp z), if_neg h]
    unfold lV
    rw [List.map_append]; rfl
theorem lK_len (L : MLine) : (lK L).length = L.length := by unfold lK; rw [List.length_map]
/-! #### the moves of the program -/
def spO : Option Spot → Dt
  | none => .non
  | some s => spotD s
@[simp] theorem spO_none : spO none = .non := rfl
@[simp] theorem spO_some (s : Spot) : spO (some s) = spotD s := rfl
theorem gone_ok {M : Mn} (hM : MnOk M) (w : Nat) (s : Spot) (c : Nat) : r_gone [mnD M, .int w, spotD s, .str [c]] = some (spO (gn M w s c)) := by
  refine run_rt rfl ?_
  have h := moved_ok hM s.1 c
  have i0 : ∀ n : Nat, decide ((n : Int) = 0) = decide (n = 0) := fun n => by congr 1; exact propext (by omega)
  have i1 : ∀ n : Nat, decide ((n : Int) = 1) = decide (n = 1) := fun n => by congr 1; exact propext (by omega)
  unfold gn
  cases hm : mv M s.1 c with
  | none =>
    rw [hm] at h
    have e0 : eqD .non (.int 0) = some (.bl false) := rfl
    have e1 : eqD .non (.int 1) = some (.bl false) := rfl
    simp [b_gone, spotD, h, e0, e1]
  | some n =>
    rw [hm] at h
    by_cases n0 : n = 0
    · subst n0
      have e1 : decide ((s.2 : Int) = (w : Int) - 1) = decide (s.2 + 1 = w) := by congr 1; exact propext (by omega)
      by_cases h2 : s.2 + 1 = w
      · have : (s.2 : Int) = (w : Int) - 1 := by omega
        simp [b_gone, spotD, h, this, h2]
      · have : ¬ (s.2 : Int) = (w : Int) - 1 := by omega
        simp [b_gone, spotD, h, this, h2]
    · by_cases n1 : n = 1
      · subst n1
        by_cases h2 : s.2 + 1 < w
        · have : (s.2 : Int) + 1 < (w : Int) := by omega
          simp [b_gone, spotD, h, this, h2]
        · have : ¬ (s.2 : Int) + 1 < (w : Int) := by omega
          simp [b_gone, spotD, h, this, h2]
      · have a0 : ¬ (n : Int) = 0 := by omega
        have a1 : ¬ (n : Int) = 1 := by omega
        simp [b_gone, spotD, h, n0, n1, a0, a1]
theorem put_ins_ok {M : Mn} (hM : MnOk M) : r_put_ins [mnD M] = some (.lst ((pIns M).map fun c => .str [c])) := by
  refine run_rt rfl ?_
  have hc : fComp (fItems (fV 0)) 1 [1] (asB (fOp neD (fV 1) (fC (.str [])))) (fV 1) [.val (mnD M), .no] = some ((([[M.m], M.q, M.e].filter fun z => !decide (z = [])).map id).map Dt.str) := by
    rw [e_fComp (items := [[M.m], M.q, M.e].map Dt.str) (h := rfl) (hl := by simp)]
    exact comp_filter Dt.str Dt.str (fun z => !decide (z = [])) id _ (fun x _ => by simp) (fun x _ _ => by simp)
  rcases hM.q1 with hq | ⟨q, hq⟩ <;> rcases hM.e1 with he | ⟨f, he⟩ <;> simp [b_put_ins, hc, hq, he, pIns]
/-! #### the spots in turn -/
def wEnv (M : Mn) (w : Nat) (L : MLine) (l : List Spot) (x4 x5 x6 : Sl) : PL.Env := [.val (mnD M), .val (.int w), .tre (.dic (lK L) (lV L)), .own (l.map spotD), x4, x5, x6]
theorem e_fDPut {i : Nat} {fk fv : PL.Env → Option Dt} {r : PL.Env} {L : MLine} {s : Spot} {v : LVal} (h1 : gT r i = some (.dic (lK L) (lV L))) (h2 : fv r = some (lvD v)) (h3 : fk r = some (spotD s)) (hl : L.length ≤ 1000) : fDPut i fk fv r = some (.nx (r.set i (.tre (.dic (lK (put L s v)) (lV (put L s v)))))) := by
  unfold fDPut
  rw [h1, h2, h3]
  show (if (lK L).length ≤ 100000 then some (Out.nx (r.set i (.tre (.dic (dPutK (lK L) (spI s)) (dPutV (lK L) (lV L) (spI s) (lvD v)))))) else none) = _
  rw [lK_len, if_pos (by omega), putK_eq, putV_eq]
@[simp] theorem e_dgD (L : MLine) (s : Spot) : dgD (.dic (lK L) (lV L)) (spotD s) = (look L s).map lvD := dGet_look s L
theorem e_fDIn {b : Bool} {fa fo : PL.Env → Option Dt} {r : PL.Env} {L : MLine} {s : Spot} (h1 : fa r = some (spotD s)) (h2 : fo r = some (.dic (lK L) (lV L))) : fDIn b fa fo r = some (if b = true then (look L s).isSome else !(look L s).isSome) := by
  unfold fDIn
  rw [h1, h2]
  show some (if b = true then decide (spI s ∈ lK L) else !decide (spI s ∈ lK L)) = _
  have : decide (spI s ∈ lK L) = (look L s).isSome := by
    cases h : (look L s).isSome with
    | true => exact decide_eq_true ((mem_lK s L).mpr h)
    | false => exact decide_eq_false fun z => by rw [(mem_lK s L).mp z] at h; cases h
  rw [this]
theorem dic_toD (L : MLine) : (OT.dic (lK L) (lV L)).toD = .dic (lK L) (lV L) := by rw [OT.toD]
@[simp] theorem lvD_0 (v : LVal) : ixD (lvD v) (.int 0) = some (.int v.1) := ixD_t0 _ _
@[simp] theorem lvD_1 (v : LVal) : ixD (lvD v) (.int 1) = some (.str v.2) := ixD_t1 _ _ _
theorem flat_lv (v : LVal) : flatT (lvD v) = true := rfl
theorem wd_if {M : Mn} {w : Nat} {L : MLine} {l : List Spot} {s q : Spot} {c : Nat} {v : LVal} (hv : look L s = some v) (x5 : Sl) :
    (fAnd (asB (fOp isnD (fV 6) (fC .non))) (fOr (fDIn false (fV 6) (fV 2)) (asB (fOp gtD (fOp ixD (fOp dgD (fV 2) (fV 6)) (fC (.int 0))) (fOp addD (fOp ixD (fOp dgD (fV 2) (fV 4)) (fC (.int 0))) (fC (.int 1))))))) (frzE (wEnv M w L l (.val (spotD s)) x5 (.val (spotD q)))) = some (imp L q (v.1 + 1)) := by
  have hi : isnD (spotD q) .non = some (.bl true) := rfl
  have hd := e_fDIn (b := false) (fa := fV 6) (fo := fV 2) (r := frzE (wEnv M w L l (.val (spotD s)) x5 (.val (spotD q)))) (L := L) (s := q) rfl (by unfold wEnv; simp [dic_toD])
  unfold imp
  cases hq : look L q with
  | none =>
    rw [hq] at hd
    rw [e_fAnd, e_fOr, hd]
    simp [wEnv, hi, -isnD_n]
  | some x =>
    rw [hq] at hd
    rw [e_fAnd, e_fOr, hd]
    have : decide ((v.1 : Int) + 1 < x.1) = decide (v.1 + 1 < x.1) := by congr 1; exact propext (by omega)
    simp [wEnv, hi, dic_toD, hq, hv, this, -isnD_n]
theorem wd_1 {M : Mn} (hM : MnOk M) {w : Nat} {L : MLine} {l : List Spot} {s : Spot} {c : Nat} {v : LVal} (hv : look L s = some v) (hlen : v.2.length ≤ 10000) (hL : L.length ≤ 1000) (hl : l.length ≤ 90000) (x5 x6 : Sl) :
    ∃ y6, turnO (tNm 5) L_widened_1 (.str [c]) (wEnv M w L l (.val (spotD s)) x5 x6) = some (.nx (wEnv M w (wst M w s (L, l) c).1 (wst M w s (L, l) c).2 (.val (spotD s)) (.val (.str [c])) y6)) := by
  have hg := gone_ok hM w s c
  unfold wst
  refine ⟨.val (spO (gn M w s c)), ?_⟩
  show L_widened_1 ((wEnv M w L l (.val (spotD s)) x5 x6).set 5 (.val (.str [c]))) = _
  have e1 : L_widened_1 ((wEnv M w L l (.val (spotD s)) x5 x6).set 5 (.val (.str [c]))) = (fIfS (fAnd (asB (fOp isnD (fV 6) (fC .non))) (fOr (fDIn false (fV 6) (fV 2)) (asB (fOp gtD (fOp ixD (fOp dgD (fV 2) (fV 6)) (fC (.int 0))) (fOp addD (fOp ixD (fOp dgD (fV 2) (fV 4)) (fC (.int 0))) (fC (.int 1))))))) (fSeq (fDPut 2 (fV 6) (fFrzT (fTup (fCons (fOp addD (fOp ixD (fOp dgD (fV 2) (fV 4)) (fC (.int 0))) (fC (.int 1))) (fCons (fOp addD (fOp ixD (fOp dgD (fV 2) (fV 4)) (fC (.int 1))) (fV 5)) fNil)))))
    (fApp 3 (fV 6))) fNext) (wEnv M w L l (.val (spotD s)) (.val (.str [c])) (.val (spO (gn M w s c)))) := by
    unfold L_widened_1
    rw [e_fSeq]
    simp [wEnv, hg]
  rw [e1, e_fIfS]
  dsimp only
  rw [hv]
  cases hgn : gn M w s c with
  | none =>
    have hi : isnD Dt.non .non = some (.bl false) := rfl
    simp [wEnv, hi]
  | some q =>
    rw [spO_some, wd_if (c := c) hv]
    dsimp only
    cases hi : imp L q (v.1 + 1) with
    | false => simp
    | true =>
      rw [ifO_t]
      have ht : fFrzT (fTup (fCons (fOp addD (fOp ixD (fOp dgD (fV 2) (fV 4)) (fC (.int 0))) (fC (.int 1))) (fCons (fOp addD (fOp ixD (fOp dgD (fV 2) (fV 4)) (fC (.int 1))) (fV 5)) fNil))) (wEnv M w L l (.val (spotD s)) (.val (.str [c])) (.val (spotD q))) = some (lvD (v.1 + 1, v.2 ++ [c])) := by
        refine e_fFrzT ?_ (flat_lv _)
        unfold wEnv
        simp (disch := omega) [dic_toD, hv, lvD]
      rw [e_fSeq, e_fDPut (L := L) (s := q) (v := (v.1 + 1, v.2 ++ [c])) rfl ht rfl hL, seqO_nx]
      have hml : (l.map spotD).length ≤ 100000 := by rw [List.length_map]; omega
      simp only [wEnv, e_fApp', List.set_cons_succ, List.set_cons_zero, gO_succ, gO_zero, e_fV, gV_succ, gV_zero]
      rw [appO_s _ _ _ _ hml]
      simp
theorem wst_bnd {M : Mn} {w : Nat} {s : Spot} {S : MLine × List Spot} {c : Nat} : (wst M w s S c).2.length ≤ S.2.length + 1 := by
  unfold wst
  split
  · split
    · rw [List.length_append]; exact Nat.le_refl _
    · omega
  · omega
/-- what holds of all that is sound here: texts aren't long -/
def Lens (P : Spot → LVal → Prop) : Prop := ∀ s v, P s v → v.2.length ≤ v.1 + 100
theorem wd_fold {M : Mn} (hM : MnOk M) {w : Nat} (hw : w ≤ 6) {P : Spot → LVal → Prop} (hP : InsC M w P) (hPl : Lens P) {m0 : Nat} (hm : m0 ≤ 5000) {L0 : MLine} {s : Spot} : ∀ (cs done : List Nat) (S : MLine × List Spot), (∀ c ∈ cs, c ∈ pIns M) → InL M w P m0 L0 s done S → S.2.length + cs.length ≤ 90000 → ∀ x5 x6,
    ∃ y5 y6, loopF (tNm 5) L_widened_1 (cs.map fun c => .str [c]) (wEnv M w S.1 S.2 (.val (spotD s)) x5 x6) = some (.nx (wEnv M w (cs.foldl (wst M w s) S).1 (cs.foldl (wst M w s) S).2 (.val (spotD s)) y5 y6))
  | [], done, S, _, h, _, x5, x6 => ⟨x5, x6, rfl⟩
  | c :: cs, done, S, hc, h, hl, x5, x6 => by
    obtain ⟨h1, h2⟩ := inl_step hw hP (hc c List.mem_cons_self) h
    obtain ⟨v, hv⟩ := Option.ne_none_iff_exists'.mp h.at_
    have hvl := hPl s v (h.ok.snd s v hv)
    have hvb := bnd_pot h.ok hv
    rw [List.length_cons] at hl
    obtain ⟨y6, e⟩ := wd_1 hM (w := w) (l := S.2) (c := c) hv (by omega) (by have := h.ok.len; omega) (by omega) x5 x6
    have hb := wst_bnd (M := M) (w := w) (s := s) (S := S) (c := c)
    obtain ⟨z5, z6, e2⟩ := wd_fold hM hw hP hPl hm cs (done ++ [c]) _ (fun d hd => hc d (List.mem_cons_of_mem _ hd)) h1 (by omega) (.val (.str [c])) y6
    refine ⟨z5, z6, ?_⟩
    rw [List.map_cons, loop_cons]
    show (match turnO (tNm 5) L_widened_1 (.str [c]) (wEnv M w S.1 S.2 (.val (spotD s)) x5 x6) with | some (.nx r2) => _ | some (.ct r2) => _ | some (.bk r2) => _ | some (.rt d) => _ | none => _) = _
    rw [e]
    exact e2
theorem pIns_len {M : Mn} (hM : MnOk M) : (pIns M).length ≤ 5 := by
  have := hM.q_len
  have := hM.e_len
  unfold pIns
  rw [List.length_cons, List.length_append, List.length_append]
  show _ + (_ + 2) + 1 ≤ 5
  omega
def wCond : PL.Env → Option Bool := asB (fOp neD (fV 3) (fL (fLst fNil)))
theorem wcond_ne {M : Mn} {w : Nat} {L : MLine} {l : List Spot} {s : Spot} {x4 x5 x6 : Sl} : wCond (frzE (wEnv M w L (s :: l) x4 x5 x6)) = some true := by
  have h : neD (.lst ((s :: l).map spotD)) (.lst []) = some (.bl true) := by
    have ho : okD 9 (.lst ((s :: l).map spotD)) = true := by
      show ((s :: l).map spotD).all (okD 8) = true
      rw [List.all_map, List.all_eq_true]
      intro q _
      rfl
    show (if okD 9 (.lst ((s :: l).map spotD)) = true ∧ okD 9 (.lst []) = true then some (Dt.bl (!eqF 9 (.lst ((s :: l).map spotD)) (.lst []))) else none) = _
    rw [if_pos ⟨ho, rfl⟩]
    rfl
  unfold wCond wEnv
  rw [List.map_cons] at h
  simp [h]
theorem wcond_nil {M : Mn} {w : Nat} {L : MLine} {x4 x5 x6 : Sl} : wCond (frzE (wEnv M w L [] x4 x5 x6)) = some false := by
  have h : neD (.lst []) (.lst []) = some (.bl false) := rfl
  unfold wCond wEnv
  simp [h]
theorem while_go {c : PL.Env → Option Bool} {b : PL.Env → Option Out} {n : Nat} {r r2 : PL.Env} (h : c (frzE r) = some true) (h2 : b r = some (.nx r2)) : whileF c b (n + 1) r = whileF c b n r2 := by
  rw [whileF, h]
  show (match b r with | some (.nx r2) => whileF c b n r2 | some (.ct r2) => whileF c b n r2 | some (.bk r2) => some (.nx r2) | some (.rt d) => some (.rt d) | none => none) = _
  rw [h2]
theorem while_fin {c : PL.Env → Option Bool} {b : PL.Env → Option Out} {n : Nat} {r : PL.Env} (h : c (frzE r) = some false) : whileF c b (n + 1) r = some (.nx r) := by
  rw [whileF, h]
theorem wd_2 {M : Mn} (hM : MnOk M) {w : Nat} (hw : w ≤ 6) {P : Spot → LVal → Prop} (hP : InsC M w P) (hPl : Lens P) {m0 : Nat} (hm : m0 ≤ 5000) {L0 L : MLine} {s : Spot} {l : List Spot} (h : OutL M w P m0 L0 L (s :: l)) (hl : l.length ≤ 80000) (x4 x5 x6 : Sl) :
    ∃ y5 y6, L_widened_2 (wEnv M w L (s :: l) x4 x5 x6) = some (.nx (wEnv M w ((pIns M).foldl (wst M w s) (L, l)).1 ((pIns M).foldl (wst M w s) (L, l)).2 (.val (spotD s)) y5 y6)) := by
  have h0 : InL M w P m0 L0 s [] (L, l) := ⟨h.ok, fun q hq => h.wt q (List.mem_cons_of_mem _ hq), h.wt s List.mem_cons_self, fun q v e hn c hc hp q' hg => by
    by_cases es : q = s
    · have := hc es; cases this
    · exact h.cl q v e (fun z => (List.mem_cons.mp z).elim es hn) c hp q' hg⟩
  obtain ⟨y5, y6, e⟩ := wd_fold hM hw hP hPl hm (pIns M) [] (L, l) (fun _ hc => hc) h0 (by have := pIns_len hM; dsimp only; omega) x5 x6
  refine ⟨y5, y6, ?_⟩
  have e1 : fPopAt 4 3 (fC (.int 0)) (wEnv M w L (s :: l) x4 x5 x6) = some (.nx (wEnv M w L l (.val (spotD s)) x5 x6)) := by
    have hs : seqIndex? 0 (l.length + 1) = some 0 := by
      unfold seqIndex?
      simp
    unfold fPopAt wEnv
    simp [hs]
  have hp := put_ins_ok hM
  unfold L_widened_2
  rw [e_fSeq, e1, seqO_nx, e_fFor]
  have e2 : fItems (fCall r_put_ins (fCons (fV 0) fNil)) (wEnv M w L l (.val (spotD s)) x5 x6) = some ((pIns M).map fun c => .str [c]) := by
    unfold wEnv
    simp [hp]
  rw [e2]
  exact e
theorem wd_while {M : Mn} (hM : MnOk M) {w : Nat} (hw : w ≤ 6) {P : Spot → LVal → Prop} (hP : InsC M w P) (hPl : Lens P) {m0 : Nat} (hm : m0 ≤ 5000) {L0 : MLine} (n : Nat) : ∀ (L : MLine) (l : List Spot), OutL M w P m0 L0 L l → l.length ≤ 80000 → pot (m0 + 36) L + l.length ≤ n → n ≤ 80000 → ∀ x4 x5 x6,
    ∃ L' y4 y5 y6, whileF wCond L_widened_2 (n + 1) (wEnv M w L l x4 x5 x6) = some (.nx (wEnv M w L' [] y4 y5 y6)) ∧ OutL M w P m0 L0 L' [] := by
  induction n with
  | zero =>
    intro L l h hl hn _ x4 x5 x6
    cases l with
    | nil => exact ⟨L, x4, x5, x6, while_fin wcond_nil, h⟩
    | cons s l => exact absurd (Nat.le_trans (Nat.le_add_left _ _) hn) (Nat.not_succ_le_zero _)
  | succ n ih =>
    intro L l h hl hn hn2 x4 x5 x6
    cases l with
    | nil => exact ⟨L, x4, x5, x6, while_fin wcond_nil, h⟩
    | cons s l =>
      obtain ⟨h1, h2⟩ := out_step hw hP h
      obtain ⟨y5, y6, e⟩ := wd_2 hM hw hP hPl hm h (by rw [List.length_cons] at hl; omega) x4 x5 x6
      have h3 := Nat.le_of_succ_le_succ (Nat.le_trans h2 hn)
      obtain ⟨L', z4, z5, z6, e2, h4⟩ := ih _ _ h1 (Nat.le_trans (Nat.le_trans (Nat.le_add_left _ _) h3) (Nat.le_of_succ_le hn2)) h3 (Nat.le_of_succ_le hn2) (.val (spotD s)) y5 y6
      exact ⟨L', z4, z5, z6, by rw [while_go wcond_ne e]; exact e2, h4⟩
theorem whileF_more {c : PL.Env → Option Bool} {b : PL.Env → Option Out} : ∀ (n m : Nat) (r : PL.Env) (o : Out), n ≤ m → whileF c b n r = some o → whileF c b m r = some o
  | 0, _, _, _, _, h => by cases h
  | n + 1, 0, _, _, hn, _ => absurd hn (Nat.not_succ_le_zero _)
  | n + 1, m + 1, r, o, hn, h => by
    rw [whileF] at h ⊢
    split at h
    · split at h
      · exact whileF_more n m _ o (Nat.le_of_succ_le_succ hn) h
      · exact whileF_more n m _ o (Nat.le_of_succ_le_succ hn) h
      · exact h
      · exact h
      · cases h
    · exact h
    · cases h
theorem keys_look : ∀ (L : MLine) (s : Spot), s ∈ L.map Prod.fst → look L s ≠ none
  | [], _, h => by cases h
  | e :: L, s, h => by
    rw [look]
    split
    · intro z; cases z
    · rename_i hn
      rcases List.mem_cons.mp h with z | z
      · exact absurd z.symm hn
      · exact keys_look L s z
theorem look_keys : ∀ (L : MLine) (s : Spot) (v : LVal), look L s = some v → s ∈ L.map Prod.fst
  | [], _, _, h => by cases h
  | e :: L, s, v, h => by
    rw [look] at h
    split at h
    · rename_i z; exact List.mem_cons.mpr (.inl z.symm)
    · exact List.mem_cons_of_mem _ (look_keys L s v h)
theorem widened_ok {M : Mn} (hM : MnOk M) {w : Nat} (hw : w ≤ 6) {P : Spot → LVal → Prop} (hP : InsC M w P) (hPl : Lens P) {m0 : Nat} (hm : m0 ≤ 1500) {L0 : MLine} (h : More P m0 L0) :
    ∃ L', rd_widened [mnD M, .int w] (lK L0) (lV L0) = some (.dic (lK L') (lV L')) ∧ OutL M w P m0 L0 L' [] := by
  have hS : Sound P m0 L0 L0 := ⟨h.inU, h.snd, fun s v e => by have := h.bnd s v e; have := miss_le L0; omega, h.len, fun s v e => ⟨v, e, Nat.le_refl _⟩⟩
  have h0 : OutL M w P m0 L0 L0 (L0.map Prod.fst) := ⟨hS, fun q hq => keys_look L0 q hq, fun q v e hn => absurd (look_keys L0 q v e) hn⟩
  have hlen := h.len
  have hp := pot_le hS
  have hll : (L0.map Prod.fst).length = L0.length := List.length_map _
  have hpn : pot (m0 + 36) L0 + (L0.map Prod.fst).length ≤ 36 * (m0 + 37) + 36 := by
    rw [hll]
    exact Nat.add_le_add hp (by omega)
  obtain ⟨L', y4, y5, y6, e, h1⟩ := wd_while hM hw hP hPl (Nat.le_trans hm (by decide)) (36 * (m0 + 37) + 36) L0 (L0.map Prod.fst) h0 (by omega) hpn (by omega) .no .no .no
  refine ⟨L', ?_, h1⟩
  have e' := whileF_more _ 100000 _ _ (by omega) e
  have hk : (lK L0).map kD = (L0.map Prod.fst).map spotD := by
    unfold lK
    rw [List.map_map, List.map_map]
    rfl
  unfold rd_widened
  show bd_widened [.val (mnD M), .val (.int w), .tre (.dic (lK L0) (lV L0)), .no, .no, .no, .no] = _
  have es : fSetO 3 (fListD 2) [.val (mnD M), .val (.int w), .tre (.dic (lK L0) (lV L0)), .no, .no, .no, .no] = some (.nx (wEnv M w L0 (L0.map Prod.fst) .no .no .no)) := by
    show some (Out.nx (List.set [.val (mnD M), .val (.int w), .tre (.dic (lK L0) (lV L0)), .no, .no, .no, .no] 3 (.own ((lK L0).map kD)))) = _
    rw [hk]
    rfl
  unfold bd_widened fSeqU
  rw [es]
  dsimp only
  unfold wCond at e'
  rw [e']
  rfl
end W

/-! ### the states of the reading alone -/
namespace W
open PySem PL
def run (M : Mn) : Nat → List Nat → Option Nat
  | s, [] => some s
  | s, c :: t => match mv M s c with
    | none => none
    | some n => run M n t
theorem run_app (M : Mn) : ∀ (a b : List Nat) (s : Nat), run M s (a ++ b) = (run M s a).bind fun n => run M n b
  | [], b, s => rfl
  | c :: a, b, s => by
    rw [List.cons_append, run, run]
    cases mv M s c with
    | none => rfl
    | some n => exact run_app M a b n
def okB {α β : Type} : Except α β → Bool
  | .ok _ => true
  | .error _ => false
/-- the reading by the states alone -/
theorem rdGo_run (M : Mn) : ∀ (z : List Nat) (s : Nat) (rows : List (List (List Nat))) (row : List (List Nat)) (cell : List Nat) (p : Nat),
    (run M s z = some 0 ∧ ∃ out, rdGo M s rows row cell p z = .ok out) ∨
    (∃ n, n ≠ 0 ∧ run M s z = some n ∧ rdGo M s rows row cell p z = .error (p + z.length)) ∨
    (∃ k n, k < z.length ∧ run M s (z.take k) = some n ∧ run M s (z.take (k + 1)) = none ∧ rdGo M s rows row cell p z = .error (p + k))
  | [], s, rows, row, cell, p => by
    by_cases h : s = 0
    · exact .inl ⟨by rw [h]; rfl, rows, by rw [rdGo, if_pos h]⟩
    · exact .inr (.inl ⟨s, h, rfl, by rw [rdGo, if_neg h]; rfl⟩)
  | c :: z, s, rows, row, cell, p => by
    have e : p + (z.length + 1) = p + 1 + z.length := by omega
    rw [run, rdGo, List.length_cons]
    cases hmv : mv M s c with
    | none =>
      refine .inr (.inr ⟨0, s, Nat.zero_lt_succ _, rfl, ?_, rfl⟩)
      show run M s [c] = none
      rw [run, hmv]
    | some n =>
      simp only
      have key : ∀ rows' row' cell', (run M n z = some 0 ∧ ∃ out, rdGo M n rows' row' cell' (p + 1) z = .ok out) ∨
          (∃ m, m ≠ 0 ∧ run M n z = some m ∧ rdGo M n rows' row' cell' (p + 1) z = .error (p + (z.length + 1))) ∨
          (∃ k m, k < z.length + 1 ∧ run M s ((c :: z).take k) = some m ∧ run M s ((c :: z).take (k + 1)) = none ∧ rdGo M n rows' row' cell' (p + 1) z = .error (p + k)) := by
        intro rows' row' cell'
        rcases rdGo_run M z n rows' row' cell' (p + 1) with h | ⟨m, h0, h1, h2⟩ | ⟨k, m, hk, h1, h2, h3⟩
        · exact .inl h
        · exact .inr (.inl ⟨m, h0, h1, by rw [h2, e]⟩)
        · refine .inr (.inr ⟨k + 1, m, by omega, ?_, ?_, by rw [h3]; congr 1; omega⟩)
          · rw [List.take_succ_cons, run, hmv]; exact h1
          · rw [List.take_succ_cons, run, hmv]; exact h2
      split
      · exact key _ _ _
      · split
        · exact key _ _ _
        · exact key _ _ _
theorem rd_run (M : Mn) (t : List Nat) : (run M 0 t = some 0 ∧ ∃ out, rd M t = .ok out) ∨
    (∃ n, n ≠ 0 ∧ run M 0 t = some n ∧ rd M t = .error t.length) ∨
    (∃ k n, k < t.length ∧ run M 0 (t.take k) = some n ∧ run M 0 (t.take (k + 1)) = none ∧ rd M t = .error k) := by
  have := rdGo_run M t 0 [] [] [] 0
  simpa [rd] using this
theorem rd_ok_iff (M : Mn) (t : List Nat) : okB (rd M t) = true ↔ run M 0 t = some 0 := by
  rcases rd_run M t with ⟨h, out, e⟩ | ⟨n, h0, h1, e⟩ | ⟨k, n, hk, h1, h2, e⟩
  · rw [e, h]; exact ⟨fun _ => rfl, fun _ => rfl⟩
  · rw [e, h1]
    refine ⟨fun h => (by cases h), fun h => ?_⟩
    cases h; exact absurd rfl h0
  · rw [e]
    refine ⟨fun h => (by cases h), fun h => ?_⟩
    have : run M 0 (t.take (k + 1) ++ t.drop (k + 1)) = some 0 := by rw [List.take_append_drop]; exact h
    rw [run_app, h2] at this
    cases this
/-- states that a manner can come to -/
structure Live (M : Mn) (s : Nat) : Prop where
  le : s ≤ 5
  q : s = 3 ∨ s = 4 → M.q ≠ []
  e : s = 5 → M.e ≠ []
theorem mv_live {M : Mn} {s c n : Nat} (h : Live M s) (e : mv M s c = some n) : Live M n := by
  have h3 := h.q
  have h5 := h.e
  unfold mv at e
  have a1 : ∀ {x : List Nat}, [c] = x → x ≠ [] := fun h => by rw [← h]; exact List.cons_ne_nil _ _
  by_cases s5 : s = 5
  · rw [if_pos s5] at e
    by_cases q0 : M.q = []
    · rw [if_pos q0] at e
      split at e
      · cases e; exact ⟨by decide, by omega, by omega⟩
      · cases e
    · rw [if_neg q0] at e
      split at e
      · cases e; exact ⟨by decide, fun _ => q0, by omega⟩
      · cases e
  · rw [if_neg s5] at e
    by_cases s3 : s = 3
    · have q0 := h3 (.inl s3)
      rw [if_pos s3] at e
      split at e
      · cases e; exact ⟨by decide, fun _ => q0, by omega⟩
      · split at e
        · rename_i he
          cases e; exact ⟨by decide, fun _ => q0, fun _ => a1 he⟩
        · cases e; exact ⟨by decide, fun _ => q0, by omega⟩
    · rw [if_neg s3] at e
      split at e
      · cases e; exact ⟨by decide, by omega, by omega⟩
      · split at e
        · cases e; exact ⟨by decide, by omega, by omega⟩
        · split at e
          · split at e
            · rename_i hq
              cases e; exact ⟨by decide, fun _ => a1 hq.1, by omega⟩
            · cases e
          · split at e
            · rename_i he
              cases e; exact ⟨by decide, by omega, fun _ => a1 he.2⟩
            · split at e
              · rename_i hq
                split at e
                · cases e; exact ⟨by decide, fun _ => a1 hq, by omega⟩
                · cases e
              · cases e; exact ⟨by decide, by omega, by omega⟩
theorem run_live {M : Mn} : ∀ {t : List Nat} {s n : Nat}, Live M s → run M s t = some n → Live M n
  | [], s, n, h, e => by cases e; exact h
  | c :: t, s, n, h, e => by
    rw [run] at e
    cases hmv : mv M s c with
    | none => rw [hmv] at e; cases e
    | some m => rw [hmv] at e; exact run_live (mv_live h hmv) e
theorem live0 (M : Mn) : Live M 0 := ⟨by decide, by omega, by omega⟩
theorem run_take {M : Mn} {t : List Nat} {s n : Nat} (k : Nat) (h : run M s t = some n) : ∃ m, run M s (t.take k) = some m := by
  rw [← List.take_append_drop k t, run_app] at h
  cases hr : run M s (t.take k) with
  | none => rw [hr] at h; cases h
  | some m => exact ⟨m, rfl⟩
end W

/-! ### what sets a manner's signs apart; single steps of the reading -/
namespace W
open PySem PL
structure MnSep (M : Mn) : Prop where
  m10 : M.m ≠ 10
  m110 : M.m ≠ 110
  q : ∀ c, M.q = [c] → c ≠ 10 ∧ c ≠ M.m ∧ c ≠ 110 ∧ M.e ≠ [c]
  e : ∀ c, M.e = [c] → c ≠ 10 ∧ c ≠ M.m ∧ c ≠ 110
theorem mn_sep {M : Mn} (h : M ∈ mns) : MnSep M := by
  have : ∀ M ∈ mns, (M.m ≠ 10 ∧ M.m ≠ 110) ∧ (∀ c ∈ M.q, c ≠ 10 ∧ c ≠ M.m ∧ c ≠ 110 ∧ M.e ≠ [c]) ∧ (∀ c ∈ M.e, c ≠ 10 ∧ c ≠ M.m ∧ c ≠ 110) := by decide +kernel
  obtain ⟨⟨h1, h2⟩, h3, h4⟩ := this M h
  exact ⟨h1, h2, fun c e => h3 c (by rw [e]; exact .head _), fun c e => h4 c (by rw [e]; exact .head _)⟩
theorem drop_get {t : List Nat} {p c : Nat} (h : t[p]? = some c) : t.drop p = c :: t.drop (p + 1) := by
  obtain ⟨hp, e⟩ := List.getElem?_eq_some_iff.mp h
  rw [List.drop_eq_getElem_cons hp, e]
theorem next_cases (t : List Nat) (p : Nat) : ((t.drop p).take 1 = [] ∧ t.drop p = [] ∧ t.length ≤ p) ∨ ∃ d, (t.drop p).take 1 = [d] ∧ t[p]? = some d := by
  by_cases h : p < t.length
  · refine .inr ⟨t[p], ?_, List.getElem?_eq_getElem h⟩
    rw [List.drop_eq_getElem_cons h]; rfl
  · have := List.drop_eq_nil_of_le (show t.length ≤ p by omega)
    exact .inl ⟨by rw [this]; rfl, this, by omega⟩
theorem rdGo_cons {M : Mn} {s n c : Nat} {rows : List (List (List Nat))} {row : List (List Nat)} {cell z : List Nat} {p : Nat} (h : mv M s c = some n) (h0 : n ≠ 0) (h1 : n ≠ 1) {u : List Nat} (hu : told s n c = u) : rdGo M s rows row cell p (c :: z) = rdGo M n rows row (cell ++ u) (p + 1) z := by
  rw [rdGo, h]
  simp only [if_neg h0, if_neg h1, hu]
theorem rdGo_dead {M : Mn} {s c : Nat} {rows : List (List (List Nat))} {row : List (List Nat)} {cell z : List Nat} {p : Nat} (h : mv M s c = none) : rdGo M s rows row cell p (c :: z) = .error p := by
  rw [rdGo, h]
theorem end_nl {M : Mn} {s : Nat} (h3 : s ≠ 3) (h5 : s ≠ 5) {rows : List (List (List Nat))} {row : List (List Nat)} {cell z : List Nat} {p : Nat} : rdGo M s rows row cell p (10 :: z) = rdGo M 0 (rows ++ [row ++ [cell]]) [] [] (p + 1) z := by
  have hm : mv M s 10 = some 0 := by simp [mv, h3, h5]
  have ht : told s 0 10 = [] := by simp [told, h5]
  rw [rdGo, hm]
  simp only [if_true, ht, List.append_nil]
theorem end_mk {M : Mn} (hS : MnSep M) {s : Nat} (h3 : s ≠ 3) (h5 : s ≠ 5) {rows : List (List (List Nat))} {row : List (List Nat)} {cell z : List Nat} {p : Nat} : rdGo M s rows row cell p (M.m :: z) = rdGo M 1 rows (row ++ [cell]) [] (p + 1) z := by
  have hm : mv M s M.m = some 1 := by simp [mv, h3, h5, hS.m10]
  have ht : told s 1 M.m = [] := by simp [told, h5]
  rw [rdGo, hm]
  simp [ht]
end W

/-! ### ways: what is true of the fewest signs, in plain Lean -/
namespace W
open PySem PL
theorem app_last {p q t' : List Nat} {b : Nat} (h : p ++ q = t' ++ [b]) : (q = [] ∧ p = t' ++ [b]) ∨ ∃ q', q = q' ++ [b] ∧ t' = p ++ q' := by
  rcases List.eq_nil_or_concat q with rfl | ⟨q', c, rfl⟩
  · exact .inl ⟨rfl, by rw [List.append_nil] at h; exact h⟩
  · refine .inr ⟨q', ?_⟩
    rw [List.concat_eq_append, ← List.append_assoc] at h
    obtain ⟨h1, h2⟩ := List.append_inj' h rfl
    cases h2
    exact ⟨List.concat_eq_append, h1.symm⟩
/-- one more sign: at most one farther -/
theorem way_more {M : Mn} {w : Nat} {t : List Nat} {s : Spot} {v : LVal} (a : Nat) (h : Way M w t s v) : ∀ p q, t = p ++ q → Way M w (p ++ a :: q) s (v.1 + 1, v.2) := by
  induction h with
  | nil =>
    intro p q e
    obtain ⟨rfl, rfl⟩ := List.append_eq_nil_iff.mp e.symm
    exact .del a .nil
  | ins h1 hc hg ih =>
    intro p q e
    exact .ins (ih p q e) hc hg
  | del b h1 ih =>
    intro p q e
    rcases app_last e.symm with ⟨rfl, rfl⟩ | ⟨q', rfl, rfl⟩
    · exact .del a (.del b h1)
    · have := Way.del b (ih p q' rfl)
      rw [List.append_assoc] at this
      exact this
  | keep h1 hg ih =>
    intro p q e
    rcases app_last e.symm with ⟨rfl, rfl⟩ | ⟨q', rfl, rfl⟩
    · exact .del a (.keep h1 hg)
    · have := Way.keep (ih p q' rfl) hg
      rw [List.append_assoc] at this
      exact this
theorem q_in {M : Mn} {c : Nat} (h : [c] = M.q) : c ∈ pIns M := by unfold pIns; rw [← h]; simp
theorem e_in {M : Mn} {c : Nat} (h : [c] = M.e) : c ∈ pIns M := by unfold pIns; rw [← h]; simp
/-- what any sign does, one that is put in does -/
theorem mv_like {M : Mn} (hS : MnSep M) {s c n : Nat} (h : mv M s c = some n) : ∃ d ∈ pIns M, mv M s d = some n := by
  by_cases hin : c ∈ pIns M
  · exact ⟨c, hin, h⟩
  · have hq : ¬ [c] = M.q := fun z => hin (q_in z)
    have he : ¬ [c] = M.e := fun z => hin (e_in z)
    have hm : c ≠ M.m := fun z => hin (by unfold pIns; rw [z]; exact List.mem_cons_self)
    have h10 : c ≠ 10 := fun z => hin (by unfold pIns; rw [z]; simp)
    have h110 : c ≠ 110 := fun z => hin (by unfold pIns; rw [z]; simp)
    have i110 : (110 : Nat) ∈ pIns M := by unfold pIns; simp
    have n1 : ¬ [(110 : Nat)] = M.q := fun z => (hS.q 110 z.symm).2.2.1 rfl
    have n2 : ¬ [(110 : Nat)] = M.e := fun z => (hS.e 110 z.symm).2.2 rfl
    have n3 : ¬ (110 : Nat) = M.m := fun z => hS.m110 z.symm
    refine ⟨110, i110, ?_⟩
    rw [← h]
    unfold mv
    simp only [hq, he, hm, h10, n1, n2, n3, h110, List.cons.injEq, and_true, false_or, or_false, and_false, false_and, if_false, if_true, or_self, or_true]
    by_cases s5 : s = 5
    · subst s5
      rw [if_pos rfl, if_pos rfl]
      exfalso
      unfold mv at h
      rw [if_pos rfl] at h
      simp [hq, he, hm, h110] at h
    · rw [if_neg s5, if_neg s5]
      simp
theorem gn_like {M : Mn} (hS : MnSep M) {w : Nat} {s q : Spot} {c : Nat} (h : gn M w s c = some q) : ∃ d ∈ pIns M, gn M w s d = some q := by
  unfold gn at h
  cases hm : mv M s.1 c with
  | none => rw [hm] at h; cases h
  | some n =>
    obtain ⟨d, hd, e⟩ := mv_like hS hm
    refine ⟨d, hd, ?_⟩
    unfold gn
    rw [e, ← h, hm]
/-- one sign less: at most one farther -/
theorem way_less {M : Mn} (hS : MnSep M) {w : Nat} {t : List Nat} {s : Spot} {v : LVal} (h : Way M w t s v) : ∀ p a q, t = p ++ a :: q → ∃ x, Way M w (p ++ q) s x ∧ x.1 ≤ v.1 + 1 := by
  induction h with
  | nil => intro p a q e; exact absurd e.symm (by simp)
  | ins h1 hc hg ih =>
    intro p a q e
    obtain ⟨x, hx, hle⟩ := ih p a q e
    exact ⟨_, .ins hx hc hg, by show x.1 + 1 ≤ _ + 1 + 1; omega⟩
  | @del t' s' v' b h1 ih =>
    intro p a q e
    rcases app_last (p := p) (q := a :: q) e.symm with ⟨h2, _⟩ | ⟨q', h2, rfl⟩
    · cases h2
    · rcases q' with _ | ⟨c, q'⟩
      · cases h2
        rw [List.append_nil] at h1 ⊢
        exact ⟨_, h1, by show v'.1 ≤ v'.1 + 1 + 1; omega⟩
      · cases h2
        obtain ⟨x, hx, hle⟩ := ih p a q' rfl
        have := Way.del b hx
        rw [List.append_assoc] at this
        exact ⟨_, this, by show x.1 + 1 ≤ v'.1 + 1 + 1; omega⟩
  | @keep t' s' v' b q0 h1 hg ih =>
    intro p a q e
    rcases app_last (p := p) (q := a :: q) e.symm with ⟨h2, _⟩ | ⟨q', h2, rfl⟩
    · cases h2
    · rcases q' with _ | ⟨c, q'⟩
      · cases h2
        rw [List.append_nil] at h1 ⊢
        obtain ⟨d, hd, hg'⟩ := gn_like hS hg
        exact ⟨_, .ins h1 hd hg', Nat.le_refl _⟩
      · cases h2
        obtain ⟨x, hx, hle⟩ := ih p a q' rfl
        have := Way.keep hx hg
        rw [List.append_assoc] at this
        exact ⟨_, this, hle⟩
/-! #### texts that read -/
def gRun (M : Mn) (w : Nat) : Spot → List Nat → Option Spot
  | s, [] => some s
  | s, c :: t => match gn M w s c with
    | none => none
    | some q => gRun M w q t
theorem gRun_app {M : Mn} {w : Nat} : ∀ (a b : List Nat) (s : Spot), gRun M w s (a ++ b) = match gRun M w s a with | none => none | some q => gRun M w q b
  | [], b, s => rfl
  | c :: a, b, s => by
    rw [List.cons_append, gRun, gRun]
    cases gn M w s c with
    | none => rfl
    | some q => exact gRun_app a b q
theorem way_run {M : Mn} {w : Nat} {t : List Nat} {s : Spot} {v : LVal} (h : Way M w t s v) : gRun M w (0, 0) v.2 = some s := by
  induction h with
  | nil => rfl
  | ins _ _ hg ih =>
    dsimp only
    rw [gRun_app, ih]
    show (match gn M w _ _ with | none => none | some q => gRun M w q []) = _
    rw [hg]; rfl
  | del _ _ ih => exact ih
  | keep _ hg ih =>
    dsimp only
    rw [gRun_app, ih]
    show (match gn M w _ _ with | none => none | some q => gRun M w q []) = _
    rw [hg]; rfl
theorem run_way {M : Mn} {w : Nat} : ∀ (t : List Nat) (p : List Nat) (s q : Spot), Way M w p s (0, p) → gRun M w s t = some q → Way M w (p ++ t) q (0, p ++ t)
  | [], p, s, q, h, e => by cases e; rw [List.append_nil]; exact h
  | c :: t, p, s, q, h, e => by
    rw [gRun] at e
    cases hg : gn M w s c with
    | none => rw [hg] at e; cases e
    | some r =>
      rw [hg] at e
      have := run_way t (p ++ [c]) r q (.keep h hg) e
      rw [List.append_assoc] at this
      exact this
/-- read as rows of so many cells -/
theorem rdGo_pre {M : Mn} : ∀ (z : List Nat) (s : Nat) (rows : List (List (List Nat))) (row : List (List Nat)) (cell : List Nat) (p : Nat) (out : List (List (List Nat))), rdGo M s rows row cell p z = .ok out → ∃ more, out = rows ++ more
  | [], s, rows, row, cell, p, out, h => by
    rw [rdGo] at h
    split at h
    · cases h; exact ⟨[], (List.append_nil _).symm⟩
    · cases h
  | c :: z, s, rows, row, cell, p, out, h => by
    rw [rdGo] at h
    cases hm : mv M s c with
    | none => rw [hm] at h; cases h
    | some n =>
      rw [hm] at h
      dsimp only at h
      split at h
      · obtain ⟨more, rfl⟩ := rdGo_pre z _ _ _ _ _ _ h
        exact ⟨_, List.append_assoc _ _ _⟩
      · split at h
        · exact rdGo_pre z _ _ _ _ _ _ h
        · exact rdGo_pre z _ _ _ _ _ _ h
theorem rdGo_wide {M : Mn} : ∀ (z : List Nat) (s : Nat) (rows : List (List (List Nat))) (row : List (List Nat)) (cell : List Nat) (p : Nat) (out : List (List (List Nat))), s ≠ 0 → rdGo M s rows row cell p z = .ok out → ∃ r ∈ out, row.length + 1 ≤ r.length
  | [], s, rows, row, cell, p, out, hs, h => by
    rw [rdGo, if_neg hs] at h
    cases h
  | c :: z, s, rows, row, cell, p, out, hs, h => by
    rw [rdGo] at h
    cases hm : mv M s c with
    | none => rw [hm] at h; cases h
    | some n =>
      rw [hm] at h
      dsimp only at h
      split at h
      · obtain ⟨more, rfl⟩ := rdGo_pre z _ _ _ _ _ _ h
        exact ⟨row ++ [cell ++ told s n c], by simp, by simp⟩
      · split at h
        · rename_i h0 h1
          obtain ⟨r, hr, hl⟩ := rdGo_wide z _ _ _ _ _ _ h0 h
          rw [List.length_append, List.length_singleton] at hl
          exact ⟨r, hr, by omega⟩
        · rename_i h0 h1
          exact rdGo_wide z _ _ _ _ _ _ h0 h
theorem rd_gRun {M : Mn} {w : Nat} : ∀ (z : List Nat) (s : Nat) (rows : List (List (List Nat))) (row : List (List Nat)) (cell : List Nat) (p : Nat) (out : List (List (List Nat))), (s = 0 → row = []) → rdGo M s rows row cell p z = .ok out → (∀ r ∈ out, r.length = w) → gRun M w (s, row.length) z = some (0, 0)
  | [], s, rows, row, cell, p, out, hr, h, _ => by
    rw [rdGo] at h
    split at h
    · rename_i h0
      rw [hr h0, h0]; rfl
    · cases h
  | c :: z, s, rows, row, cell, p, out, hr, h, hw => by
    rw [rdGo] at h
    rw [gRun]
    unfold gn
    cases hm : mv M s c with
    | none => rw [hm] at h; cases h
    | some n =>
      rw [hm] at h
      dsimp only at h ⊢
      by_cases n0 : n = 0
      · rw [if_pos n0] at h ⊢
        obtain ⟨more, e⟩ := rdGo_pre z _ _ _ _ _ _ h
        have hl := hw (row ++ [cell ++ told s n c]) (by rw [e]; simp)
        rw [List.length_append, List.length_singleton] at hl
        rw [if_pos hl]
        have := rd_gRun z n _ [] [] _ out (fun _ => rfl) h hw
        rw [n0] at this
        exact this
      · rw [if_neg n0] at h ⊢
        by_cases n1 : n = 1
        · rw [if_pos n1] at h ⊢
          obtain ⟨r, hr1, hl⟩ := rdGo_wide z _ _ _ _ _ _ n0 h
          have := hw r hr1
          rw [List.length_append, List.length_singleton] at hl
          rw [if_pos (by omega)]
          have h2 := rd_gRun z n rows (row ++ [cell ++ told s n c]) [] _ out (fun z => absurd z n0) h hw
          rw [n1, List.length_append, List.length_singleton] at h2
          exact h2
        · rw [if_neg n1] at h ⊢
          exact rd_gRun z n rows row _ _ out (fun z => absurd z n0) h hw
theorem gRun_rd {M : Mn} {w : Nat} : ∀ (z : List Nat) (s : Nat) (rows : List (List (List Nat))) (row : List (List Nat)) (cell : List Nat) (p : Nat), (∀ r ∈ rows, r.length = w) → (s = 0 → row = []) → gRun M w (s, row.length) z = some (0, 0) → ∃ out, rdGo M s rows row cell p z = .ok out ∧ ∀ r ∈ out, r.length = w
  | [], s, rows, row, cell, p, hw, hr, h => by
    have h0 : s = 0 := congrArg Prod.fst (Option.some.inj h)
    exact ⟨rows, by rw [rdGo, if_pos h0], hw⟩
  | c :: z, s, rows, row, cell, p, hw, hr, h => by
    rw [gRun] at h
    unfold gn at h
    rw [rdGo]
    cases hm : mv M s c with
    | none => rw [hm] at h; cases h
    | some n =>
      rw [hm] at h
      dsimp only at h ⊢
      by_cases n0 : n = 0
      · rw [if_pos n0] at h ⊢
        by_cases hl : row.length + 1 = w
        · rw [if_pos hl] at h
          refine gRun_rd z n _ [] [] _ (fun r hr' => ?_) (fun _ => rfl) (by rw [n0]; exact h)
          rcases List.mem_append.mp hr' with hr' | hr'
          · exact hw r hr'
          · rw [List.mem_singleton.mp hr', List.length_append]; exact hl
        · rw [if_neg hl] at h; cases h
      · rw [if_neg n0] at h ⊢
        by_cases n1 : n = 1
        · rw [if_pos n1] at h ⊢
          by_cases hl : row.length + 1 < w
          · rw [if_pos hl] at h
            refine gRun_rd z n rows _ [] _ hw (fun z => absurd z n0) ?_
            rw [n1, List.length_append]
            exact h
          · rw [if_neg hl] at h; cases h
        · rw [if_neg n1] at h ⊢
          exact gRun_rd z n rows row _ _ hw (fun z => absurd z n0) h
theorem gRun_iff {M : Mn} {w : Nat} {t : List Nat} : gRun M w (0, 0) t = some (0, 0) ↔ ∃ out, rd M t = .ok out ∧ ∀ r ∈ out, r.length = w := by
  constructor
  · intro h
    exact gRun_rd t 0 [] [] [] 0 (fun _ z => by cases z) (fun _ => rfl) h
  · rintro ⟨out, h, hw⟩
    exact rd_gRun t 0 [] [] [] 0 out (fun _ => rfl) h hw
/-! #### the fewest signs -/
structure Fewest (M : Mn) (w : Nat) (t : List Nat) (v : LVal) : Prop where
  way : Way M w t (0, 0) v
  few : ∀ x, Way M w t (0, 0) x → v.1 ≤ x.1
theorem way_del {M : Mn} {w : Nat} (t : List Nat) : Way M w t (0, 0) (t.length, []) := by
  suffices h : ∀ z p, Way M w p (0, 0) (p.length, []) → Way M w (p ++ z) (0, 0) ((p ++ z).length, []) from h t [] .nil
  intro z
  induction z with
  | nil => intro p h; rw [List.append_nil]; exact h
  | cons a z ih =>
    intro p h
    have h1 := Way.del a h
    have h2 := ih (p ++ [a]) (by rw [List.length_append]; exact h1)
    rw [List.append_assoc] at h2
    exact h2
theorem few_len {M : Mn} {w : Nat} {t : List Nat} {v : LVal} (h : Fewest M w t v) : v.1 ≤ t.length := h.few _ (way_del t)
theorem few_more {M : Mn} (hS : MnSep M) {w : Nat} {p q : List Nat} {a : Nat} {v u : LVal} (h : Fewest M w (p ++ q) v) (k : Fewest M w (p ++ a :: q) u) : u.1 ≤ v.1 + 1 ∧ v.1 ≤ u.1 + 1 := by
  refine ⟨k.few _ (way_more a h.way p q rfl), ?_⟩
  obtain ⟨x, hx, hle⟩ := way_less hS k.way p a q rfl
  exact Nat.le_trans (h.few x hx) hle
theorem few_good {M : Mn} {w : Nat} {t : List Nat} {v : LVal} (h : Fewest M w t v) (hg : gRun M w (0, 0) t = some (0, 0)) : v.1 = 0 := by
  have := run_way t [] (0, 0) (0, 0) .nil hg
  exact Nat.le_zero.mp (h.few _ this)
theorem few_zero {M : Mn} {w : Nat} {t : List Nat} {s : Spot} {v : LVal} (h : Way M w t s v) : v.1 = 0 → v.2 = t := by
  induction h with
  | nil => intro _; rfl
  | ins _ _ _ _ => intro z; cases z
  | del _ _ _ => intro z; cases z
  | keep _ _ ih => intro z; dsimp only at z ⊢; rw [ih z]
end W

/-! ### mending: sign by sign -/
namespace W
open PySem PL
def lineS (L : MLine) : Sl := .val (.dic (lK L) (lV L))
def moreS (m : MLine) : Sl := .tre (.dic (lK m) (lV m))
def meEnv (t : List Nat) (M : Mn) (w : Nat) (x3 x4 x5 x6 x7 x8 x9 : Sl) : PL.Env := [.val (.str t), .val (mnD M), .val (.int w), x3, x4, x5, x6, x7, x8, x9]
theorem md_c1 {t : List Nat} {M : Mn} {w : Nat} {L m : MLine} {s : Spot} {v : LVal} (x4 x9 : Sl) :
    (fOr (fDIn false (fV 6) (fV 5)) (asB (fOp gtD (fOp ixD (fOp dgD (fV 5) (fV 6)) (fC (.int 0))) (fOp addD (fV 7) (fC (.int 1)))))) (frzE (meEnv t M w (lineS L) x4 (moreS m) (.val (spotD s)) (.val (.int v.1)) (.val (.str v.2)) x9)) = some (imp m s (v.1 + 1)) := by
  have hd := e_fDIn (b := false) (fa := fV 6) (fo := fV 5) (r := frzE (meEnv t M w (lineS L) x4 (moreS m) (.val (spotD s)) (.val (.int v.1)) (.val (.str v.2)) x9)) (L := m) (s := s) rfl (by unfold meEnv moreS; simp [dic_toD])
  unfold imp
  rw [e_fOr, hd]
  cases hq : look m s with
  | none => simp
  | some x =>
    have : decide ((v.1 : Int) + 1 < x.1) = decide (v.1 + 1 < x.1) := by congr 1; exact propext (by omega)
    simp [meEnv, moreS, dic_toD, hq, this]
theorem md_c2 {t : List Nat} {M : Mn} {w : Nat} {L m : MLine} {s q : Spot} {v : LVal} (x4 : Sl) :
    (fAnd (asB (fOp isnD (fV 9) (fC .non))) (fOr (fDIn false (fV 9) (fV 5)) (asB (fOp gtD (fOp ixD (fOp dgD (fV 5) (fV 9)) (fC (.int 0))) (fV 7))))) (frzE (meEnv t M w (lineS L) x4 (moreS m) (.val (spotD s)) (.val (.int v.1)) (.val (.str v.2)) (.val (spotD q)))) = some (imp m q v.1) := by
  have hi : isnD (spotD q) .non = some (.bl true) := rfl
  have hd := e_fDIn (b := false) (fa := fV 9) (fo := fV 5) (r := frzE (meEnv t M w (lineS L) x4 (moreS m) (.val (spotD s)) (.val (.int v.1)) (.val (.str v.2)) (.val (spotD q)))) (L := m) (s := q) rfl (by unfold meEnv moreS; simp [dic_toD])
  unfold imp
  rw [e_fAnd, e_fOr, hd]
  cases hq : look m q with
  | none => simp [meEnv, hi, -isnD_n]
  | some x =>
    have : decide ((v.1 : Int) < x.1) = decide (v.1 < x.1) := by congr 1; exact propext (by omega)
    simp [meEnv, moreS, dic_toD, hq, this, hi, -isnD_n]
theorem md_1 {t : List Nat} {M : Mn} (hM : MnOk M) {w a : Nat} {L m : MLine} {s : Spot} {v : LVal} (hv : look L s = some v) (hlen : v.2.length ≤ 10000) (hm : m.length ≤ 900) (x6 x7 x8 x9 : Sl) :
    ∃ y7 y8 y9, turnO (tNm 6) L_mend_of_1 (spotD s) (meEnv t M w (lineS L) (.val (.str [a])) (moreS m) x6 x7 x8 x9) = some (.nx (meEnv t M w (lineS L) (.val (.str [a])) (moreS (mst M w a L m s)) (.val (spotD s)) y7 y8 y9)) := by
  have hg := gone_ok hM w s a
  refine ⟨.val (.int v.1), .val (.str v.2), .val (spO (gn M w s a)), ?_⟩
  show L_mend_of_1 ((meEnv t M w (lineS L) (.val (.str [a])) (moreS m) x6 x7 x8 x9).set 6 (.val (spotD s))) = _
  have e1 : fAsg (tTp [7, 8]) (fOp dgD (fV 3) (fV 6)) ((meEnv t M w (lineS L) (.val (.str [a])) (moreS m) x6 x7 x8 x9).set 6 (.val (spotD s))) = some (.nx (meEnv t M w (lineS L) (.val (.str [a])) (moreS m) (.val (spotD s)) (.val (.int v.1)) (.val (.str v.2)) x9)) := by
    simp [meEnv, lineS, hv, lvD]
  unfold L_mend_of_1
  rw [e_fSeq, e1, seqO_nx, e_fSeq, e_fIfS, md_c1]
  have e2 : ifO (some (imp m s (v.1 + 1))) (fDPut 5 (fV 6) (fTup (fCons (fOp addD (fV 7) (fC (.int 1))) (fCons (fV 8) fNil))) (meEnv t M w (lineS L) (.val (.str [a])) (moreS m) (.val (spotD s)) (.val (.int v.1)) (.val (.str v.2)) x9)) (fNext (meEnv t M w (lineS L) (.val (.str [a])) (moreS m) (.val (spotD s)) (.val (.int v.1)) (.val (.str v.2)) x9)) = some (.nx (meEnv t M w (lineS L) (.val (.str [a])) (moreS (if imp m s (v.1 + 1) = true then put m s (v.1 + 1, v.2) else m)) (.val (spotD s)) (.val (.int v.1)) (.val (.str v.2)) x9)) := by
    rw [e_fDPut (L := m) (s := s) (v := (v.1 + 1, v.2)) rfl (by simp [meEnv, lvD]) rfl (by omega)]
    cases imp m s (v.1 + 1) <;> rfl
  rw [e2, seqO_nx]
  unfold mst
  rw [hv]
  dsimp only
  have hm1 : (if imp m s (v.1 + 1) = true then put m s (v.1 + 1, v.2) else m).length ≤ 1000 := by
    split
    · rw [put_len]; split <;> omega
    · omega
  generalize (if imp m s (v.1 + 1) = true then put m s (v.1 + 1, v.2) else m) = m1 at hm1 ⊢
  have e3 : fSet 9 (fCall r_gone (fCons (fV 1) (fCons (fV 2) (fCons (fV 6) (fCons (fV 4) fNil))))) (meEnv t M w (lineS L) (.val (.str [a])) (moreS m1) (.val (spotD s)) (.val (.int v.1)) (.val (.str v.2)) x9) = some (.nx (meEnv t M w (lineS L) (.val (.str [a])) (moreS m1) (.val (spotD s)) (.val (.int v.1)) (.val (.str v.2)) (.val (spO (gn M w s a))))) := by
    simp [meEnv, hg]
  rw [e_fSeq, e3, seqO_nx, e_fIfS]
  cases hgn : gn M w s a with
  | none =>
    have hi : isnD Dt.non .non = some (.bl false) := rfl
    dsimp only
    simp [meEnv, hi]
  | some q =>
    rw [spO_some, md_c2]
    dsimp only
    rw [e_fDPut (L := m1) (s := q) (v := (v.1, v.2 ++ [a])) rfl (by unfold meEnv; simp (disch := omega) [lvD]) rfl hm1]
    cases imp m1 q v.1 <;> rfl
theorem md_fold {t : List Nat} {M : Mn} (hM : MnOk M) {w : Nat} (hw : w ≤ 6) {P' : Spot → LVal → Prop} {b a : Nat} {L : MLine} (hU : ∀ s v, look L s = some v → s ∈ allS) (hb : ∀ s v, look L s = some v → v.1 ≤ b) (hlen : ∀ s v, look L s = some v → v.2.length ≤ 10000)
    (h1 : ∀ s v, look L s = some v → P' s (v.1 + 1, v.2)) (h2 : ∀ s v q, look L s = some v → gn M w s a = some q → P' q (v.1, v.2 ++ [a])) : ∀ (ss : List Spot) (m : MLine), (∀ s ∈ ss, look L s ≠ none) → More P' (b + 1) m → ∀ x6 x7 x8 x9,
    ∃ y6 y7 y8 y9, loopF (tNm 6) L_mend_of_1 (ss.map spotD) (meEnv t M w (lineS L) (.val (.str [a])) (moreS m) x6 x7 x8 x9) = some (.nx (meEnv t M w (lineS L) (.val (.str [a])) (moreS (ss.foldl (mst M w a L) m)) y6 y7 y8 y9))
  | [], m, _, h, x6, x7, x8, x9 => ⟨x6, x7, x8, x9, rfl⟩
  | s :: ss, m, hs, h, x6, x7, x8, x9 => by
    obtain ⟨v, hv⟩ := Option.ne_none_iff_exists'.mp (hs s List.mem_cons_self)
    obtain ⟨y7, y8, y9, e⟩ := md_1 (t := t) hM (w := w) (a := a) hv (hlen s v hv) (m := m) (by have := h.len; omega) x6 x7 x8 x9
    obtain ⟨c1, _, _⟩ := mst_ok (P := P') hw (s := s) (a := a) (L := L) h hU hb (h1 s) (h2 s)
    obtain ⟨z6, z7, z8, z9, e2⟩ := md_fold (t := t) hM hw hU hb hlen h1 h2 ss _ (fun q hq => hs q (List.mem_cons_of_mem _ hq)) c1 (.val (spotD s)) y7 y8 y9
    refine ⟨z6, z7, z8, z9, ?_⟩
    rw [List.map_cons, loop_cons, e]
    exact e2
theorem below_mono {m : MLine} {s : Spot} {n k : Nat} (h : below m s n) (hk : n ≤ k) : below m s k := by
  obtain ⟨x, e, hx⟩ := h
  exact ⟨x, e, by omega⟩
theorem lens_way {M : Mn} {w : Nat} {t : List Nat} (h : t.length ≤ 100) : Lens (Way M w t) := fun s v hv => by have := way_len hv; omega
theorem md_2 {t p : List Nat} {M : Mn} (hM : MnOk M) {w : Nat} (hw : w ≤ 6) {a b : Nat} {L : MLine} (hp : p.length ≤ 90) (hb : b ≤ 1400) (h : Exact M w p b L) (x4 x5 x6 x7 x8 x9 : Sl) :
    ∃ L' y5 y6 y7 y8 y9, turnO (tNm 4) L_mend_of_2 (.str [a]) (meEnv t M w (lineS L) x4 x5 x6 x7 x8 x9) = some (.nx (meEnv t M w (lineS L') (.val (.str [a])) y5 y6 y7 y8 y9)) ∧ Exact M w (p ++ [a]) (b + 37) L' := by
  have h1 : ∀ s v, look L s = some v → Way M w (p ++ [a]) s (v.1 + 1, v.2) := fun s v e => .del a (h.snd s v e)
  have h2 : ∀ s v q, look L s = some v → gn M w s a = some q → Way M w (p ++ [a]) q (v.1, v.2 ++ [a]) := fun s v q e hg => .keep (h.snd s v e) hg
  have m0 : More (Way M w (p ++ [a])) (b + 1) [] := ⟨fun s v e => (by cases e), fun s v e => (by cases e), fun s v e => (by cases e), by have := miss_le []; rw [List.length_nil]; omega⟩
  have hlen : ∀ s v, look L s = some v → v.2.length ≤ 10000 := fun s v e => by
    have := way_len (h.snd s v e)
    have := h.bnd s v e
    omega
  obtain ⟨y6, y7, y8, y9, e1⟩ := md_fold (t := t) hM hw h.inU h.bnd hlen h1 h2 (L.map Prod.fst) [] (fun s hs => keys_look L s hs) m0 x6 x7 x8 x9
  obtain ⟨f1, f2, _⟩ := mst_fold hw h.inU h.bnd h1 h2 (L.map Prod.fst) [] m0
  obtain ⟨L', e2, o⟩ := widened_ok hM hw way_ins (lens_way (by rw [List.length_append]; show p.length + 1 ≤ 100; omega)) (by omega) f1
  have hx : Exact M w (p ++ [a]) (b + 1 + 36) L' := exact_of o fun s v _ => ⟨fun t' s' v' a' ht hw' => by
    obtain ⟨rfl, ha⟩ := List.append_inj' ht rfl
    cases ha
    obtain ⟨x, hx, hle⟩ := h.all s' v' hw'
    obtain ⟨g1, g2⟩ := f2 s' (look_keys L s' x hx) x hx
    exact ⟨below_mono g1 (by omega), fun q hq => below_mono (g2 q hq) hle⟩, fun ht => absurd ht (by simp)⟩
  refine ⟨L', .no, y6, y7, y8, y9, ?_, hx⟩
  show L_mend_of_2 (meEnv t M w (lineS L) (.val (.str [a])) x5 x6 x7 x8 x9) = _
  have s1 : fSetU 5 (fun _ => some (.dic [] [])) (meEnv t M w (lineS L) (.val (.str [a])) x5 x6 x7 x8 x9) = some (.nx (meEnv t M w (lineS L) (.val (.str [a])) (moreS []) x6 x7 x8 x9)) := rfl
  have hk : (lK L).map kD = (L.map Prod.fst).map spotD := by
    unfold lK
    rw [List.map_map, List.map_map]
    rfl
  have s2 : fForD 3 (tNm 6) L_mend_of_1 (meEnv t M w (lineS L) (.val (.str [a])) (moreS []) x6 x7 x8 x9) = some (.nx (meEnv t M w (lineS L) (.val (.str [a])) (moreS ((L.map Prod.fst).foldl (mst M w a L) [])) y6 y7 y8 y9)) := by
    unfold fForD
    show (match loopF (tNm 6) L_mend_of_1 ((lK L).map kD) (meEnv t M w (lineS L) (.val (.str [a])) (moreS []) x6 x7 x8 x9) with | some (.nx r') => some (Out.nx r') | _ => none) = _
    rw [hk, e1]
  unfold L_mend_of_2
  rw [e_fSeq, s1, seqO_nx, e_fSeq, s2, seqO_nx]
  unfold fCallN
  show (match rd_widened [mnD M, .int w] (lK ((L.map Prod.fst).foldl (mst M w a L) [])) (lV ((L.map Prod.fst).foldl (mst M w a L) [])) with | some t => _ | none => none) = _
  rw [e2]
  show some (Out.nx (((meEnv t M w (lineS L) (.val (.str [a])) (moreS ((L.map Prod.fst).foldl (mst M w a L) [])) y6 y7 y8 y9).set 5 .no).set 3 (.val (OT.dic (lK L') (lV L')).toD))) = _
  rw [dic_toD]
  rfl
theorem md_3 {t : List Nat} {M : Mn} (hM : MnOk M) {w : Nat} (hw : w ≤ 6) : ∀ (z p : List Nat) (L : MLine), p.length + z.length ≤ 30 → Exact M w p (37 * p.length + 36) L → ∀ x4 x5 x6 x7 x8 x9,
    ∃ L' y4 y5 y6 y7 y8 y9, loopF (tNm 4) L_mend_of_2 (z.map fun c => .str [c]) (meEnv t M w (lineS L) x4 x5 x6 x7 x8 x9) = some (.nx (meEnv t M w (lineS L') y4 y5 y6 y7 y8 y9)) ∧ Exact M w (p ++ z) (37 * (p.length + z.length) + 36) L'
  | [], p, L, _, h, x4, x5, x6, x7, x8, x9 => ⟨L, x4, x5, x6, x7, x8, x9, rfl, by rw [List.append_nil]; exact h⟩
  | a :: z, p, L, hl, h, x4, x5, x6, x7, x8, x9 => by
    rw [List.length_cons] at hl
    obtain ⟨L1, y5, y6, y7, y8, y9, e1, h1⟩ := md_2 (t := t) hM hw (a := a) (by omega) (by omega) h x4 x5 x6 x7 x8 x9
    have hl1 : (p ++ [a]).length = p.length + 1 := by rw [List.length_append]; rfl
    have h1' : Exact M w (p ++ [a]) (37 * (p ++ [a]).length + 36) L1 := by
      rw [hl1, show 37 * (p.length + 1) + 36 = 37 * p.length + 36 + 37 by omega]
      exact h1
    obtain ⟨L2, z4, z5, z6, z7, z8, z9, e2, h2⟩ := md_3 (t := t) hM hw z (p ++ [a]) L1 (by omega) h1' (.val (.str [a])) y5 y6 y7 y8 y9
    refine ⟨L2, z4, z5, z6, z7, z8, z9, ?_, ?_⟩
    · rw [List.map_cons, loop_cons, e1]
      exact e2
    · rw [hl1, List.append_assoc] at h2
      rw [List.length_cons]
      have : p.length + 1 + z.length = p.length + (z.length + 1) := by omega
      rw [← this]
      exact h2
theorem mend_of_ok {M : Mn} (hM : MnOk M) {w : Nat} (hw : w ≤ 6) {t : List Nat} (ht : t.length ≤ 30) : ∃ v, r_mend_of [.str t, mnD M, .int w] = some (lvD v) ∧ Fewest M w t v := by
  have hm : More (Way M w []) 0 [((0, 0), (0, []))] := by
    have hu : ∀ s v, look [(((0, 0) : Spot), ((0, []) : LVal))] s = some v → s = (0, 0) ∧ v = (0, []) := fun s v e => by
      rw [look] at e
      split at e
      · rename_i z; cases e; exact ⟨z.symm, rfl⟩
      · cases e
    refine ⟨fun s v e => ?_, fun s v e => ?_, fun s v e => ?_, by decide⟩
    · rw [(hu s v e).1]; decide
    · rw [(hu s v e).1, (hu s v e).2]; exact .nil
    · rw [(hu s v e).2]; exact Nat.le_refl _
  obtain ⟨L0, e0, o0⟩ := widened_ok hM hw way_ins (lens_way (by decide)) (by omega) hm
  have h0 : Exact M w [] (0 + 36) L0 := exact_of o0 fun s v _ => ⟨fun t' s' v' a' ht hw' => absurd ht (by simp), fun _ => ⟨(0, []), rfl, Nat.le_refl _⟩⟩
  obtain ⟨L1, y4, y5, y6, y7, y8, y9, e1, h1⟩ := md_3 (t := t) hM hw t [] L0 (by rw [List.length_nil]; omega) h0 .no .no .no .no .no .no
  rw [List.nil_append] at h1
  obtain ⟨v, hv, _⟩ := h1.all (0, 0) _ (way_del t)
  refine ⟨v, run_rt rfl ?_, h1.snd _ _ hv, fun x hx => ?_⟩
  · have ea : fCallU 3 rd_widened (fV 1) (fV 2) (uDic1 (fTup (fCons (fC (.int 0)) (fCons (fC (.int 0)) fNil))) (fTup (fCons (fC (.int 0)) (fCons (fC (.str [])) fNil)))) ([.str t, mnD M, .int w].map Sl.val ++ List.replicate 7 Sl.no) = some (.nx (meEnv t M w (lineS L0) .no .no .no .no .no .no)) := by
      unfold fCallU
      show (match rd_widened [mnD M, .int w] (lK [((0, 0), (0, []))]) (lV [((0, 0), (0, []))]) with | some t => _ | none => none) = _
      rw [e0]
      show some (Out.nx (([.str t, mnD M, .int w].map Sl.val ++ List.replicate 7 Sl.no).set 3 (.val (OT.dic (lK L0) (lV L0)).toD))) = _
      rw [dic_toD]
      rfl
    have eb : fFor (fItems (fV 0)) (tNm 4) L_mend_of_2 (meEnv t M w (lineS L0) .no .no .no .no .no .no) = some (.nx (meEnv t M w (lineS L1) y4 y5 y6 y7 y8 y9)) := by
      rw [e_fFor]
      show bO (some (signsOf t)) _ = _
      exact e1
    unfold b_mend_of
    rw [e_fSeq, ea, seqO_nx, e_fSeq, eb, seqO_nx]
    have ec : (fOp dgD (fV 3) (fTup (fCons (fC (.int 0)) (fCons (fC (.int 0)) fNil)))) (meEnv t M w (lineS L1) y4 y5 y6 y7 y8 y9) = some (lvD v) := by
      have := e_dgD L1 (0, 0)
      rw [hv] at this
      exact this
    rw [e_fRet, ec]
    rfl
  · obtain ⟨y, ey, hy⟩ := h1.all (0, 0) x hx
    rw [hv] at ey
    cases ey
    exact hy
end W

/-! ### far -/
namespace W
open PySem PL
theorem wide_ok {w : Nat} (h1 : 1 ≤ w) (h6 : w ≤ 6) : r_check_wide [.int w] = some .non := by
  match w, h1, h6 with
  | 0, h, _ => exact absurd h (by decide)
  | 1, _, _ => rfl
  | 2, _, _ => rfl
  | 3, _, _ => rfl
  | 4, _, _ => rfl
  | 5, _, _ => rfl
  | 6, _, _ => rfl
  | n + 7, _, h => exact absurd h (by omega)
theorem check_all_ok {M : Mn} (hm : M ∈ mns) {w : Nat} (h1 : 1 ≤ w) (h6 : w ≤ 6) {t : List Nat} (ht : t.length ≤ 16) (g : good t) : r_check_all [.str t, mnD M, .int w] = some .non := by
  refine run_nx (r := [.val (.str t), .val (mnD M), .val (.int w)]) rfl ?_
  have c1 := check_text_ok (t := t) (by omega) g
  have c2 := check_manner_ok hm
  have c3 := wide_ok h1 h6
  have : ¬ (16 : Int) < t.length := by omega
  have ht2 : t.length ≤ 1000000 := by omega
  simp [b_check_all, c1, c2, c3, ht2, this]
theorem far_ok {M : Mn} (hm : M ∈ mns) {w : Nat} (h1 : 1 ≤ w) (h6 : w ≤ 6) {t : List Nat} (ht : t.length ≤ 16) (g : good t) : ∃ v, r_far [.str t, mnD M, .int w] = some (.int v.1) ∧ Fewest M w t v := by
  obtain ⟨v, e, h⟩ := mend_of_ok (mn_ok hm) h6 (t := t) (by omega)
  refine ⟨v, run_rt rfl ?_, h⟩
  have c1 := check_all_ok hm h1 h6 ht g
  simp [b_far, c1, e]
end W

/-! ### the law's own tables and how they are written -/
namespace W
open PySem PL
def rowsEnv (ns : List Int) (by_ : Nat) (M : Mn) (c : Int) (rows : List (List (List Nat))) (wide many : Nat) (x7 x8 : Sl) : PL.Env :=
  [.val (.scr ns), .val (.int by_), .val (mnD M), .val (.int c), .own (rows.map rowD), .val (.int wide), .val (.int many), x7, x8]
theorem rows_1 {ns : List Int} {by_ : Nat} {M : Mn} (hM : MnOk M) (hb : by_ ≤ 1000) {c : Int} {rows : List (List (List Nat))} {wide many : Nat} (hw : wide ≤ 6) {x7 x8 : Sl} (k : Nat) (hk : k < 12) (hl : rows.length = k) (g : ∀ r ∈ rows, RowOk r) :
    ∃ rows' y7 y8, turnO (tNm 7) L__law_rows_1 (.int k) (rowsEnv ns by_ M c rows wide many x7 x8) = some (.nx (rowsEnv ns by_ M c rows' wide many y7 y8)) ∧ rows'.length = k + 1 ∧ ∀ r ∈ rows', RowOk r := by
  obtain ⟨m3, hm3, h3⟩ := num_nat c (by_ + 4) 3 (by omega) (by decide) (by decide)
  have hm3' : r__law_number [.int c, .int (by_ + 4), .int 3] = some (.int m3) := hm3
  obtain ⟨m4, hm4, h4⟩ := num_nat c (by_ + k + 3) 4 (by omega) (by decide) (by decide)
  have hm4' : r__law_number [.int c, .int (by_ + k + 3), .int 4] = some (.int m4) := hm4
  obtain ⟨l, hl6, hlen, hg⟩ := cells_ok ns (by_ + k) M hM (by omega)
  have hl6' : r__law_cells [.scr ns, .int (by_ + k), mnD M] = some (.lst (l.map Dt.str)) := hl6
  have hml : (rows.map rowD).length ≤ 100000 := by rw [List.length_map]; omega
  have key : ∀ more : Int, 0 ≤ more → RowOk (l.take (if (wide : Int) - more > 1 then (wide : Int) - more else 1).toNat) := by
    intro more hmore
    refine ⟨?_, ?_, fun t ht => hg t (List.mem_of_mem_take ht)⟩
    · rw [List.length_take, hlen]; split <;> omega
    · rw [List.length_take, hlen]; omega
  have cut : ∀ more : Int, cutL (l.map Dt.str) none (some (if (wide : Int) - more > 1 then (wide : Int) - more else 1)) = (l.take (if (wide : Int) - more > 1 then (wide : Int) - more else 1).toNat).map Dt.str := by
    intro more
    have : (if (wide : Int) - more > 1 then (wide : Int) - more else 1) = (((if (wide : Int) - more > 1 then (wide : Int) - more else 1).toNat : Nat) : Int) := by split <;> omega
    rw [this, cut_to, List.map_take]; rfl
  by_cases h0 : m3 = 0
  · refine ⟨rows ++ [l.take (if (wide : Int) - (m4 : Int) > 1 then (wide : Int) - (m4 : Int) else 1).toNat], .val (.int k), .val (.int m4), ?_, by simp [hl], ?_⟩
    · have := cut m4
      simp only [gt_iff_lt] at this
      simp (disch := omega) [turnO, rowsEnv, L__law_rows_1, hm3', h0, hm4', hl6', this, rowD]
    · intro u hu
      rcases List.mem_append.mp hu with hu | hu
      · exact g u hu
      · rw [List.mem_singleton.mp hu]; exact key m4 (by omega)
  · refine ⟨rows ++ [l.take (if (wide : Int) - (0 : Int) > 1 then (wide : Int) - (0 : Int) else 1).toNat], .val (.int k), .val (.int 0), ?_, by simp [hl], ?_⟩
    · have := cut 0
      simp only [gt_iff_lt, Int.sub_zero] at this
      simp (disch := omega) [turnO, rowsEnv, L__law_rows_1, hm3', h0, hl6', this, rowD]
    · intro u hu
      rcases List.mem_append.mp hu with hu | hu
      · exact g u hu
      · rw [List.mem_singleton.mp hu]; exact key 0 (by omega)
theorem rows_ok (ns : List Int) (by_ : Nat) (M : Mn) (hM : MnOk M) (hb : by_ ≤ 1000) : ∃ rows, r__law_rows [.scr ns, .int by_, mnD M] = some (tabD rows) ∧ TabOk rows := by
  obtain ⟨c, hc⟩ := cell_at_ok ns by_
  have go : ∀ wide many : Nat, wide ≤ 6 → many ≤ 12 → ∃ rows y7 y8, loopF (tNm 7) L__law_rows_1 (rangeL 0 1 many) (rowsEnv ns by_ M c [] wide many .no .no) = some (.nx (rowsEnv ns by_ M c rows wide many y7 y8)) ∧ rows.length = many ∧ ∀ r ∈ rows, RowOk r := by
    intro wide many hw hm
    obtain ⟨r', e, rows, y7, y8, rfl, hl, g⟩ := loop_ix0 (t := tNm 7) (b := L__law_rows_1) (fun k r => ∃ rows y7 y8, r = rowsEnv ns by_ M c rows wide many y7 y8 ∧ rows.length = k ∧ ∀ r ∈ rows, RowOk r) (rangeL 0 1 many) (rowsEnv ns by_ M c [] wide many .no .no)
      (fun k x hx r ⟨rows, y7, y8, er, hl, g⟩ => by
        obtain ⟨hj, rfl⟩ := range_get hx
        rw [er]
        obtain ⟨l', z7, z8, e, hl', g'⟩ := rows_1 (ns := ns) (by_ := by_) (c := c) (many := many) hM hb hw (rows := rows) (x7 := y7) (x8 := y8) k (by omega) hl g
        refine ⟨_, .inl ?_, l', z7, z8, rfl, hl', g'⟩
        rw [show ((0 : Int) + (k : Int) * 1) = (k : Int) by omega]
        exact e)
      ⟨[], .no, .no, rfl, rfl, fun _ h => by cases h⟩
    rw [range_len] at hl
    exact ⟨rows, y7, y8, e, hl, g⟩
  obtain ⟨m1, hm1, h1⟩ := num_nat c (by_ + 1) 4 (by omega) (by decide) (by decide)
  have hm1' : r__law_number [.int c, .int (by_ + 1), .int 4] = some (.int m1) := hm1
  obtain ⟨m2, hm2, h2⟩ := num_nat c (by_ + 2) 5 (by omega) (by decide) (by decide)
  have hm2' : r__law_number [.int c, .int (by_ + 2), .int 5] = some (.int m2) := hm2
  obtain ⟨m9, hm9, h9⟩ := num_nat c (by_ + 9) 16 (by omega) (by decide) (by decide)
  have hm9' : r__law_number [.int c, .int (by_ + 9), .int 16] = some (.int m9) := hm9
  by_cases h0 : m9 = 0
  · obtain ⟨rows, y7, y8, e, hl, g⟩ := go 6 12 (by decide) (by decide)
    refine ⟨rows, run_rt rfl ?_, by omega, g⟩
    have e' : loopF (tNm 7) L__law_rows_1 (rangeL 0 1 12) [.val (.scr ns), .val (.int by_), .val (mnD M), .val (.int c), .own [], .val (.int 6), .val (.int 12), .no, .no] = _ := e
    unfold rowsEnv at e'
    simp (disch := omega) [b__law_rows, fLst, hc, hm1', hm2', hm9', h0, e', tabD]
  · obtain ⟨rows, y7, y8, e, hl, g⟩ := go (1 + m1) m2 (by omega) (by omega)
    refine ⟨rows, run_rt rfl ?_, by omega, g⟩
    have e' : loopF (tNm 7) L__law_rows_1 (rangeL 0 1 m2) [.val (.scr ns), .val (.int by_), .val (mnD M), .val (.int c), .own [], .val (.int (1 + m1)), .val (.int m2), .no, .no] = _ := e
    unfold rowsEnv at e'
    simp (disch := omega) [b__law_rows, fLst, hc, hm1', hm2', hm9', h0, e', tabD]
end W

/-! ### the law's own texts -/
namespace W
open PySem PL
def ten : List (List Nat) := [[97], [110], [44], [59], [34], [39], [92], [10], [10], [124]]
def six : List (List Nat) := [[], [10], [34], [92], [44], [97]]
def txEnv (ns : List Int) (by_ most : Nat) (M : Mn) (t : List Nat) (c : Int) (x6 x7 x8 x9 x10 x11 : Sl) : PL.Env :=
  [.val (.scr ns), .val (.int by_), .val (.int most), .val (mnD M), .val (.str t), .val (.int c), x6, x7, x8, x9, x10, x11]
theorem tx_1 {ns : List Int} {by_ most : Nat} {M : Mn} {t : List Nat} {c : Int} {x7 x8 x9 x10 x11 : Sl} (hb : by_ ≤ 1000) (k : Nat) (hk : k < 14) (ht : t.length ≤ k) (g : good t) :
    ∃ t', turnO (tNm 7) L__law_text_1 (.int k) (txEnv ns by_ most M t c (.val (.tup (ten.map Dt.str))) x7 x8 x9 x10 x11) = some (.nx (txEnv ns by_ most M t' c (.val (.tup (ten.map Dt.str))) (.val (.int k)) x8 x9 x10 x11)) ∧ t'.length ≤ k + 1 ∧ good t' := by
  obtain ⟨c0, hc0⟩ := cell_at_ok ns (by_ + k)
  have hc0' : r__law_cell_at [.scr ns, .int (by_ + k)] = some (.int c0) := hc0
  obtain ⟨m, hm, h⟩ := num_nat c0 k 10 (by omega) (by decide) (by decide)
  have hm' : r__law_number [.int c0, .int k, .int 10] = some (.int m) := hm
  have hl : m < ten.length := h
  have e1 : ixD (.tup (ten.map Dt.str)) (.int m) = some (.str ten[m]) := by
    rw [ixD_t, List.getElem?_map, List.getElem?_eq_getElem hl]; rfl
  obtain ⟨g1, g2⟩ : good ten[m] ∧ ten[m].length ≤ 1 := by
    have : ∀ u ∈ ten, (∀ c ∈ u, c ∈ sgs) ∧ u.length ≤ 1 := by decide
    exact this _ (List.getElem_mem hl)
  refine ⟨t ++ ten[m], ?_, by rw [List.length_append]; omega, good_app g g1⟩
  simp (disch := omega) [turnO, txEnv, L__law_text_1, hc0', hm', e1]
theorem tx_in {ns : List Int} {by_ most : Nat} {M : Mn} {c : Int} {x7 x8 x9 x10 x11 : Sl} (hb : by_ ≤ 1000) (n : Nat) (hn : n < 14) :
    ∃ t' y7, loopF (tNm 7) L__law_text_1 (rangeL 0 1 n) (txEnv ns by_ most M [] c (.val (.tup (ten.map Dt.str))) x7 x8 x9 x10 x11) = some (.nx (txEnv ns by_ most M t' c (.val (.tup (ten.map Dt.str))) y7 x8 x9 x10 x11)) ∧ t'.length ≤ 14 ∧ good t' := by
  obtain ⟨r', e, t, y7, rfl, hl, g⟩ := loop_ix0 (t := tNm 7) (b := L__law_text_1) (fun k r => ∃ t y7, r = txEnv ns by_ most M t c (.val (.tup (ten.map Dt.str))) y7 x8 x9 x10 x11 ∧ t.length ≤ k ∧ good t) (rangeL 0 1 n) (txEnv ns by_ most M [] c (.val (.tup (ten.map Dt.str))) x7 x8 x9 x10 x11)
    (fun k x hx r ⟨t, y7, er, hl, g⟩ => by
      obtain ⟨hj, rfl⟩ := range_get hx
      rw [er]
      obtain ⟨t', e, hl', g'⟩ := tx_1 (ns := ns) (by_ := by_) (most := most) (M := M) (c := c) (x7 := y7) (x8 := x8) (x9 := x9) (x10 := x10) (x11 := x11) hb k (by omega) hl g
      refine ⟨_, .inl ?_, t', .val (.int k), rfl, hl', g'⟩
      rw [show ((0 : Int) + (k : Int) * 1) = (k : Int) by omega]
      exact e)
    ⟨[], x7, rfl, Nat.le_refl _, good_nil⟩
  rw [range_len] at hl
  exact ⟨t, y7, e, by omega, g⟩
theorem tx_2 {ns : List Int} {by_ most : Nat} {M : Mn} {t : List Nat} {c : Int} {x6 x7 x8 x9 x10 x11 : Sl} (hb : by_ ≤ 1000) (k : Nat) (hk : k < 3) (ht : t.length ≤ 5000 + k) (g : good t) :
    ∃ t' y8 y9 y10 y11, turnO (tNm 8) L__law_text_2 (.int k) (txEnv ns by_ most M t c x6 x7 x8 x9 x10 x11) = some (.nx (txEnv ns by_ most M t' c x6 x7 y8 y9 y10 y11)) ∧ t'.length ≤ 5000 + (k + 1) ∧ good t' := by
  obtain ⟨m, hm, h⟩ := num_nat c (by_ + k + 9) (t.length + 1) (by omega) (by omega) (by omega)
  have hm' : r__law_number [.int c, .int (by_ + k + 9), .int (t.length + 1)] = some (.int m) := hm
  obtain ⟨z, hz, hz6⟩ := num_nat c (by_ + k + 11) 6 (by omega) (by decide) (by decide)
  have hz' : r__law_number [.int c, .int (by_ + k + 11), .int 6] = some (.int z) := hz
  have hl : z < six.length := hz6
  have e1 : ixD (.tup [.str [], .str [10], .str [34], .str [92], .str [44], .str [97]]) (.int z) = some (.str six[z]) := by
    show ixD (.tup (six.map Dt.str)) _ = _
    rw [ixD_t, List.getElem?_map, List.getElem?_eq_getElem hl]; rfl
  obtain ⟨g1, g2⟩ : good six[z] ∧ six[z].length ≤ 1 := by
    have : ∀ u ∈ six, (∀ c ∈ u, c ∈ sgs) ∧ u.length ≤ 1 := by decide
    exact this _ (List.getElem_mem hl)
  have l1 : (t.take m).length ≤ 5010 := by rw [List.length_take]; omega
  have c1 : cutL t none (some (m : Int)) = t.take m := cut_to t m
  have c2 : cutL t (some (m : Int)) none = t.drop m := cut_from t m
  have c3 : cutL t (some ((m : Int) + 1)) none = t.drop (m + 1) := cut_from t (m + 1)
  have a1 : addD (.str (t.take m)) (.str six[z]) = some (.str (t.take m ++ six[z])) := addD_s _ _ (by omega)
  have a2 : ∀ n, addD (.str (t.take m ++ six[z])) (.str (t.drop n)) = some (.str (t.take m ++ six[z] ++ t.drop n)) := fun n => addD_s _ _ (by rw [List.length_append, List.length_drop]; omega)
  by_cases hc : six[z] = [] ∨ k ≠ 0
  · have hc' : (!decide (six[z] = []) && decide (k = 0)) = false := by
      rcases hc with hc | hc <;> simp [hc]
    refine ⟨t.take m ++ six[z] ++ t.drop (m + 1), .val (.int k), .val (.int m), .val (.str six[z]), .val (.int (m + 1)), ?_, ?_, good_app (good_app (good_take _ g) g1) (good_drop _ g)⟩
    · simp (disch := omega) [turnO, txEnv, L__law_text_2, hm', hz', e1, c1, c3, a1, a2, hc', -List.append_assoc]
    · rw [List.length_append, List.length_append, List.length_take, List.length_drop]; omega
  · have hc2 : six[z] ≠ [] ∧ k = 0 := by
      refine ⟨fun h => hc (.inl h), ?_⟩
      by_cases h : k = 0
      · exact h
      · exact absurd (Or.inr h) hc
    have hc' : (!decide (six[z] = []) && decide (k = 0)) = true := by simp [hc2]
    refine ⟨t.take m ++ six[z] ++ t.drop m, .val (.int k), .val (.int m), .val (.str six[z]), .val (.int m), ?_, ?_, good_app (good_app (good_take _ g) g1) (good_drop _ g)⟩
    · simp (disch := omega) [turnO, txEnv, L__law_text_2, hm', hz', e1, c1, c2, a1, a2, hc', -List.append_assoc]
    · rw [List.length_append, List.length_append, List.length_take, List.length_drop]; omega
theorem tx_out {ns : List Int} {by_ most : Nat} {M : Mn} {t : List Nat} {c : Int} {x6 x7 x8 x9 x10 x11 : Sl} (hb : by_ ≤ 1000) (n : Nat) (hn : n ≤ 3) (ht : t.length ≤ 5000) (g : good t) :
    ∃ t' y8 y9 y10 y11, loopF (tNm 8) L__law_text_2 (rangeL 0 1 n) (txEnv ns by_ most M t c x6 x7 x8 x9 x10 x11) = some (.nx (txEnv ns by_ most M t' c x6 x7 y8 y9 y10 y11)) ∧ t'.length ≤ 5003 ∧ good t' := by
  obtain ⟨r', e, t', y8, y9, y10, y11, rfl, hl, g⟩ := loop_ix0 (t := tNm 8) (b := L__law_text_2) (fun k r => ∃ t y8 y9 y10 y11, r = txEnv ns by_ most M t c x6 x7 y8 y9 y10 y11 ∧ t.length ≤ 5000 + k ∧ good t) (rangeL 0 1 n) (txEnv ns by_ most M t c x6 x7 x8 x9 x10 x11)
    (fun k x hx r ⟨t, y8, y9, y10, y11, er, hl, g⟩ => by
      obtain ⟨hj, rfl⟩ := range_get hx
      rw [er]
      obtain ⟨t', z8, z9, z10, z11, e, hl', g'⟩ := tx_2 (ns := ns) (by_ := by_) (most := most) (M := M) (c := c) (x6 := x6) (x7 := x7) (x8 := y8) (x9 := y9) (x10 := y10) (x11 := y11) hb k (by omega) hl g
      refine ⟨_, .inl ?_, t', z8, z9, z10, z11, rfl, hl', g'⟩
      rw [show ((0 : Int) + (k : Int) * 1) = (k : Int) by omega]
      exact e)
    ⟨t, x8, x9, x10, x11, rfl, ht, g⟩
  rw [range_len] at hl
  exact ⟨t', y8, y9, y10, y11, e, by omega, g⟩
theorem text_ok (ns : List Int) (by_ most : Nat) (hb : by_ ≤ 1000) : ∃ t, r__law_text [.scr ns, .int by_, .int most] = some (.str t) ∧ t.length ≤ most ∧ good t := by
  obtain ⟨M, hMm, hM⟩ := manner_ok ns by_ (by omega)
  have hk := mn_ok hMm
  obtain ⟨rows, hr, hT⟩ := rows_ok ns by_ M hk hb
  obtain ⟨hw, hwl⟩ := write_ok hk hT
  obtain ⟨c, hc⟩ := cell_at_ok ns by_
  obtain ⟨m5, hm5, h5⟩ := num_nat c (by_ + 5) 5 (by omega) (by decide) (by decide)
  have hm5' : r__law_number [.int c, .int (by_ + 5), .int 5] = some (.int m5) := hm5
  obtain ⟨m6, hm6, h6⟩ := num_nat c (by_ + 6) 14 (by omega) (by decide) (by decide)
  have hm6' : r__law_number [.int c, .int (by_ + 6), .int 14] = some (.int m6) := hm6
  obtain ⟨m8, hm8, h8⟩ := num_nat c (by_ + 8) 3 (by omega) (by decide) (by decide)
  have hm8' : r__law_number [.int c, .int (by_ + 8), .int 3] = some (.int m8) := hm8
  have fin : ∀ t : List Nat, t.length ≤ 5003 → cutL t none (some (most : Int)) = t.take most := fun t _ => cut_to t most
  by_cases h0 : writeT M rows = none ∨ m5 = 0
  · obtain ⟨t1, y7, e1, l1, g1⟩ := tx_in (ns := ns) (by_ := by_) (most := most) (M := M) (c := c) (x7 := .no) (x8 := .no) (x9 := .no) (x10 := .no) (x11 := .no) hb m6 h6
    obtain ⟨t2, y8, y9, y10, y11, e2, l2, g2⟩ := tx_out (ns := ns) (by_ := by_) (most := most) (M := M) (c := c) (x6 := .val (.tup (ten.map Dt.str))) (x7 := y7) (x8 := .no) (x9 := .no) (x10 := .no) (x11 := .no) hb m8 (by omega) (t := t1) (by omega) g1
    refine ⟨t2.take most, run_rt rfl ?_, by rw [List.length_take]; omega, good_take _ g2⟩
    unfold txEnv ten at e1 e2
    simp only [List.map_cons, List.map_nil] at e1 e2
    cases hwr : writeT M rows with
    | none =>
      rw [hwr] at hw
      simp (disch := omega) [b__law_text, hM, hr, hw, hc, hm5', hm6', hm8', e1, e2, fin t2 l2, optD]
    | some w =>
      rw [hwr] at hw h0
      have h0' : m5 = 0 := by
        rcases h0 with h0 | h0
        · cases h0
        · exact h0
      simp (disch := omega) [b__law_text, hM, hr, hw, hc, hm5', hm6', hm8', e1, e2, fin t2 l2, optD, h0']
  · cases hwr : writeT M rows with
    | none => exact absurd (.inl hwr) h0
    | some w =>
      have h0' : m5 ≠ 0 := fun h => h0 (.inr h)
      rw [hwr] at hw
      have := hwl w hwr
      obtain ⟨t2, y8, y9, y10, y11, e2, l2, g2⟩ := tx_out (ns := ns) (by_ := by_) (most := most) (M := M) (c := c) (x6 := .no) (x7 := .no) (x8 := .no) (x9 := .no) (x10 := .no) (x11 := .no) hb m8 (by omega) (t := w) (by omega) (write_good hk hT.g hwr)
      refine ⟨t2.take most, run_rt rfl ?_, by rw [List.length_take]; omega, good_take _ g2⟩
      unfold txEnv at e2
      simp (disch := omega) [b__law_text, hM, hr, hw, hc, hm5', hm8', e2, fin t2 l2, optD, h0']
end W

/-! ### what is written is read back -/
namespace W
open PySem PL
theorem flat_go {M : Mn} (P : Nat → Prop) (f : Nat → List Nat) : ∀ (t : List Nat), (∀ c ∈ t, ∀ s, P s → ∃ s', P s' ∧ ∀ rows row cell p z, rdGo M s rows row cell p (f c ++ z) = rdGo M s' rows row (cell ++ [c]) (p + (f c).length) z) → ∀ s, P s →
    ∃ s', P s' ∧ ∀ rows row cell p z, rdGo M s rows row cell p (t.flatMap f ++ z) = rdGo M s' rows row (cell ++ t) (p + (t.flatMap f).length) z
  | [], _, s, h => ⟨s, h, fun rows row cell p z => by simp⟩
  | c :: t, hs, s, h => by
    obtain ⟨s1, h1, e1⟩ := hs c (.head _) s h
    obtain ⟨s2, h2, e2⟩ := flat_go P f t (fun d hd => hs d (.tail _ hd)) s1 h1
    refine ⟨s2, h2, fun rows row cell p z => ?_⟩
    rw [List.flatMap_cons, List.append_assoc, e1, e2, List.append_assoc, List.length_append, Nat.add_assoc]
    rfl
theorem flat_one : ∀ t : List Nat, t.flatMap (fun c => [c]) = t
  | [] => rfl
  | c :: t => by rw [List.flatMap_cons, flat_one t]; rfl
theorem bare_step {M : Mn} {c s : Nat} (hs : s ≤ 2) (h1 : c ≠ 10) (h2 : c ≠ M.m) (h3 : [c] ≠ M.q) (h4 : ¬ (M.q = [] ∧ [c] = M.e)) :
    ∀ rows row cell p z, rdGo M s rows row cell p (c :: z) = rdGo M 2 rows row (cell ++ [c]) (p + 1) z := by
  intro rows row cell p z
  have m1 : mv M s c = some 2 := by
    rw [mv, if_neg (by omega), if_neg (by omega), if_neg h1, if_neg h2, if_neg (by omega), if_neg h4, if_neg h3]
  exact rdGo_cons m1 (by decide) (by decide) (by rw [told, if_neg (by omega)]; simp)
theorem cell_back {M : Mn} (hM : MnOk M) (hS : MnSep M) {t u : List Nat} (h : cellText M t = some u) {s : Nat} (hs : s = 0 ∨ s = 1) : ∃ s', s' ≠ 3 ∧ s' ≠ 5 ∧ ∀ rows row p z, rdGo M s rows row [] p (u ++ z) = rdGo M s' rows row t (p + u.length) z := by
  unfold cellText at h
  by_cases c1 : (M.q = [] ∧ M.e = []) ∨ (M.q ≠ [] ∧ plainB M t = true)
  · rw [if_pos c1] at h
    by_cases hp : plainB M t = true
    · rw [if_pos hp] at h
      cases h
      have hp' : ∀ c ∈ t, c ≠ 10 ∧ c ≠ M.m ∧ [c] ≠ M.q := by
        intro c hc
        unfold plainB at hp
        simp only [Bool.and_eq_true, Bool.not_eq_true', List.all_eq_true] at hp
        obtain ⟨p1, p2, p3⟩ := hp
        have hcc : t.contains c = true := List.contains_iff_mem.mpr hc
        refine ⟨fun e => ?_, fun e => ?_, fun e => ?_⟩
        · rw [e] at hcc; rw [hcc] at p2; cases p2
        · rw [e] at hcc; rw [hcc] at p1; cases p1
        · have := p3 c (by rw [← e]; exact .head _)
          rw [hcc] at this; cases this
      obtain ⟨s', h', e⟩ := flat_go (M := M) (fun s => s ≤ 2) (fun c => [c]) t (fun c hc s hs2 => by
        obtain ⟨a1, a2, a3⟩ := hp' c hc
        refine ⟨2, Nat.le_refl _, fun rows row cell p z => bare_step hs2 a1 a2 a3 (fun hh => ?_) rows row cell p z⟩
        rcases c1 with c1 | c1
        · rw [c1.2] at hh; cases hh.2
        · exact c1.1 hh.1) s (by omega)
      refine ⟨s', by omega, by omega, fun rows row p z => ?_⟩
      have := e rows row [] p z
      rw [flat_one] at this
      exact this
    · rw [if_neg hp] at h; cases h
  · rw [if_neg c1] at h
    cases h
    by_cases hq : M.q = []
    · have he : M.e ≠ [] := fun he => c1 (.inl ⟨hq, he⟩)
      obtain ⟨f, hf⟩ : ∃ f, M.e = [f] := hM.e1.resolve_left he
      obtain ⟨f1, f2, f3⟩ := hS.e f hf
      have esc : ∀ s, s ≤ 2 → ∀ d r, (d = M.m ∨ [d] = M.e ∨ d = 110) → told 5 2 d = [r] → ∀ rows row cell p z, rdGo M s rows row cell p (M.e ++ [d] ++ z) = rdGo M 2 rows row (cell ++ [r]) (p + (M.e ++ [d]).length) z := by
        intro s hs d r hd hr rows row cell p z
        have m1 : mv M s f = some 5 := by
          rw [mv, if_neg (by omega), if_neg (by omega), if_neg f1, if_neg f2, if_neg (by omega), if_pos ⟨hq, hf.symm⟩]
        have t1 : told s 5 f = [] := by rw [told, if_neg (by omega)]; simp
        have m2 : mv M 5 d = some 2 := by
          rw [mv, if_pos rfl, if_pos hq, if_pos (by simpa using hd)]
        rw [hf]
        show rdGo M s rows row cell p (f :: d :: z) = _
        rw [rdGo_cons m1 (by decide) (by decide) t1, rdGo_cons m2 (by decide) (by decide) hr, List.append_nil]
        rfl
      obtain ⟨s', h', e⟩ := flat_go (M := M) (fun s => s ≤ 2) (escOne M) t (fun c hc s hs2 => by
        refine ⟨2, Nat.le_refl _, fun rows row cell p z => ?_⟩
        unfold escOne
        by_cases a1 : c = 10
        · rw [if_pos ⟨hq, a1⟩, a1]
          exact esc s hs2 110 10 (.inr (.inr rfl)) rfl rows row cell p z
        · rw [if_neg (fun h => a1 h.2), if_neg (fun h => he h.2), if_pos hq]
          by_cases a3 : [c] = M.e ∨ [c] = [M.m]
          · rw [if_pos a3]
            have a3' : c = M.m ∨ [c] = M.e ∨ c = 110 := by
              rcases a3 with a3 | a3
              · exact .inr (.inl a3)
              · cases a3; exact .inl rfl
            have hn : c ≠ 110 := by
              rcases a3 with a3 | a3
              · rw [hf] at a3; cases a3; exact f3
              · cases a3; exact hS.m110
            exact esc s hs2 c c a3' (by simp [told, hn]) rows row cell p z
          · rw [if_neg a3]
            exact bare_step hs2 a1 (fun e => a3 (.inr (by rw [e]))) (by rw [hq]; simp) (fun h => a3 (.inl h.2)) rows row cell p z) s (by omega)
      refine ⟨s', by omega, by omega, fun rows row p z => ?_⟩
      have := e rows row [] p z
      rw [hq, List.nil_append, List.append_nil]
      exact this
    · obtain ⟨k, hk⟩ : ∃ k, M.q = [k] := hM.q1.resolve_left hq
      obtain ⟨k1, k2, k3, k4⟩ := hS.q k hk
      obtain ⟨s', h', e⟩ := flat_go (M := M) (fun s => s = 3) (escOne M) t (fun c hc s hs3 => by
        subst hs3
        refine ⟨3, rfl, fun rows row cell p z => ?_⟩
        unfold escOne
        rw [if_neg (fun h => hq h.1)]
        by_cases a2 : [c] = M.q ∧ M.e = []
        · rw [if_pos a2]
          rw [hk] at a2
          cases a2.1
          rw [hk]
          have m1 : mv M 3 k = some 4 := by rw [mv, if_neg (by decide), if_pos rfl, if_pos hk.symm]
          have m2 : mv M 4 k = some 3 := by rw [mv, if_neg (by decide), if_neg (by decide), if_neg k1, if_neg k2, if_pos rfl, if_pos ⟨hk.symm, a2.2⟩]
          show rdGo M 3 rows row cell p (k :: k :: z) = _
          rw [rdGo_cons m1 (by decide) (by decide) (by simp [told]) (u := []), rdGo_cons m2 (by decide) (by decide) (by simp [told]) (u := [k]), List.append_nil]
          rfl
        · rw [if_neg a2, if_neg hq]
          by_cases a3 : [c] = M.e ∨ [c] = M.q
          · rw [if_pos a3]
            have he : M.e ≠ [] := by
              rcases a3 with a3 | a3
              · rw [← a3]; exact List.cons_ne_nil _ _
              · exact fun h => a2 ⟨a3, h⟩
            obtain ⟨f, hf⟩ : ∃ f, M.e = [f] := hM.e1.resolve_left he
            obtain ⟨f1, f2, f3⟩ := hS.e f hf
            have hn : c ≠ 110 := by
              rcases a3 with a3 | a3
              · rw [hf] at a3; cases a3; exact f3
              · rw [hk] at a3; cases a3; exact k3
            have m1 : mv M 3 f = some 5 := by
              rw [mv, if_neg (by decide), if_pos rfl, if_neg (fun h => k4 (by rw [hf, h, hk])), if_pos hf.symm]
            have m2 : mv M 5 c = some 3 := by rw [mv, if_pos rfl, if_neg hq, if_pos (a3.elim .inr .inl)]
            rw [hf]
            show rdGo M 3 rows row cell p (f :: c :: z) = _
            rw [rdGo_cons m1 (by decide) (by decide) (by simp [told]) (u := []), rdGo_cons m2 (by decide) (by decide) (by simp [told, hn]) (u := [c]), List.append_nil]
            rfl
          · rw [if_neg a3]
            have m1 : mv M 3 c = some 3 := by
              rw [mv, if_neg (by decide), if_pos rfl, if_neg (fun h => a3 (.inr h)), if_neg (fun h => a3 (.inl h))]
            show rdGo M 3 rows row cell p (c :: z) = _
            rw [rdGo_cons m1 (by decide) (by decide) (by simp [told]) (u := [c])]
            rfl) 3 rfl
      subst h'
      refine ⟨4, by decide, by decide, fun rows row p z => ?_⟩
      have m0 : mv M s k = some 3 := by
        rw [mv, if_neg (by omega), if_neg (by omega), if_neg k1, if_neg k2, if_neg (by omega), if_neg (fun h => hq h.1), if_pos hk.symm, if_pos hs]
      have t0 : told s 3 k = [] := by rcases hs with rfl | rfl <;> simp [told]
      have m9 : mv M 3 k = some 4 := by rw [mv, if_neg (by decide), if_pos rfl, if_pos hk.symm]
      have e1 := e rows row [] (p + 1) (k :: z)
      rw [hk, List.append_assoc, List.append_assoc]
      show rdGo M s rows row [] p (k :: (t.flatMap (escOne M) ++ k :: z)) = _
      rw [rdGo_cons m0 (by decide) (by decide) t0, List.append_nil, e1, rdGo_cons m9 (by decide) (by decide) (by simp [told]) (u := []), List.append_nil, List.nil_append]
      congr 1
      simp only [List.length_append, List.length_cons, List.length_nil]
      omega
/-- cells between marks, then the row's end -/
theorem cells_back {M : Mn} (hM : MnOk M) (hS : MnSep M) : ∀ (ts us : List (List Nat)), ts ≠ [] → ts.map (cellText M) = us.map some → ∀ s, (s = 0 ∨ s = 1) → ∀ rows row p z, rdGo M s rows row [] p (joinL [M.m] us ++ 10 :: z) = rdGo M 0 (rows ++ [row ++ ts]) [] [] (p + (joinL [M.m] us).length + 1) z
  | [], _, h, _, _, _ => absurd rfl h
  | t :: ts, [], _, h, _, _ => by cases h
  | [t], [u], _, h, s, hs => by
    intro rows row p z
    have h' : cellText M t = some u := by simpa using h
    obtain ⟨s', a3, a5, e⟩ := cell_back hM hS h' hs
    show rdGo M s rows row [] p (u ++ 10 :: z) = rdGo M 0 (rows ++ [row ++ [t]]) [] [] (p + u.length + 1) z
    rw [e, end_nl a3 a5]
  | [t], u :: v :: us, _, h, s, hs => by have := congrArg List.length h; simp at this
  | t :: t2 :: ts, [u], _, h, s, hs => by have := congrArg List.length h; simp at this
  | t :: t2 :: ts, u :: u2 :: us, _, h, s, hs => by
    intro rows row p z
    have h1 : cellText M t = some u := by
      have := congrArg List.head? h
      simpa using this
    have h2 : (t2 :: ts).map (cellText M) = (u2 :: us).map some := by
      have := congrArg List.tail h
      simpa using this
    obtain ⟨s', a3, a5, e⟩ := cell_back hM hS h1 hs
    have ih := cells_back hM hS (t2 :: ts) (u2 :: us) (List.cons_ne_nil _ _) h2 1 (.inr rfl) rows (row ++ [t]) (p + u.length + 1) z
    show rdGo M s rows row [] p (u ++ [M.m] ++ joinL [M.m] (u2 :: us) ++ 10 :: z) = rdGo M 0 (rows ++ [row ++ (t :: t2 :: ts)]) [] [] (p + (u ++ [M.m] ++ joinL [M.m] (u2 :: us)).length + 1) z
    rw [List.append_assoc, List.append_assoc, e]
    show rdGo M s' rows row t (p + u.length) (M.m :: (joinL [M.m] (u2 :: us) ++ 10 :: z)) = _
    rw [end_mk hS a3 a5, ih, List.append_assoc]
    congr 1
    simp only [List.length_append, List.length_cons, List.length_nil]
    omega
theorem opts_some : ∀ {l : List (Option (List Nat))}, l.any Option.isNone = false → l = (l.filterMap id).map some
  | [], _ => rfl
  | none :: l, h => by cases h
  | some t :: l, h => by
    rw [List.any_cons, Bool.or_eq_false_iff] at h
    rw [filt_some, List.map_cons, ← opts_some h.2]
theorem table_back {M : Mn} (hM : MnOk M) (hS : MnSep M) : ∀ (rows : List (List (List Nat))) (text : List Nat), (∀ r ∈ rows, r ≠ []) → writeT M rows = some text → ∀ acc p z, rdGo M 0 acc [] [] p (text ++ z) = rdGo M 0 (acc ++ rows) [] [] (p + text.length) z
  | [], text, _, h, acc, p, z => by cases h; rw [List.append_nil]; rfl
  | r :: rs, text, hr, h, acc, p, z => by
    rw [writeT] at h
    cases hrt : rowText M r with
    | none => rw [hrt] at h; cases h
    | some u =>
      rw [hrt] at h
      simp only at h
      cases hw : writeT M rs with
      | none => rw [hw] at h; cases h
      | some v =>
        rw [hw] at h
        cases h
        have ih := table_back hM hS rs v (fun q hq => hr q (.tail _ hq)) hw
        unfold rowText at hrt
        split at hrt
        · cases hrt
        · rename_i hn
          cases hrt
          have hb := cells_back hM hS r ((r.map (cellText M)).filterMap id) (hr r (.head _)) (opts_some (by simpa using hn)) 0 (.inl rfl) acc [] p (v ++ z)
          show rdGo M 0 acc [] [] p (joinL [M.m] ((r.map (cellText M)).filterMap id) ++ [10] ++ v ++ z) = _
          rw [List.append_assoc, List.append_assoc]
          show rdGo M 0 acc [] [] p (joinL [M.m] ((r.map (cellText M)).filterMap id) ++ 10 :: (v ++ z)) = _
          rw [hb, ih, List.append_assoc, List.nil_append]
          congr 1
          show _ = p + (joinL [M.m] ((r.map (cellText M)).filterMap id) ++ [10] ++ v).length
          simp only [List.length_append, List.length_cons, List.length_nil]
          omega
theorem write_back {M : Mn} (hm : M ∈ mns) {rows : List (List (List Nat))} {text : List Nat} (hr : ∀ r ∈ rows, r ≠ []) (h : writeT M rows = some text) : rd M text = .ok rows := by
  have := table_back (mn_ok hm) (mn_sep hm) rows text hr h [] 0 []
  rw [List.append_nil] at this
  unfold rd
  rw [this]
  rfl
end W

/-! ### the program's reading -/
namespace W
open PySem PL
theorem told_ok (M : Mn) (s n c : Nat) : r_sign_told [mnD M, .int s, .int n, .str [c]] = some (.str (told s n c)) := by
  refine run_rt rfl ?_
  have i5 : ((s : Int) = 5) = (s = 5) := propext (by omega)
  have i0 : ((s : Int) = 0) = (s = 0) := propext (by omega)
  have i1 : ((s : Int) = 1) = (s = 1) := propext (by omega)
  have j0 : ((n : Int) = 0) = (n = 0) := propext (by omega)
  have j1 : ((n : Int) = 1) = (n = 1) := propext (by omega)
  have j4 : ((n : Int) = 4) = (n = 4) := propext (by omega)
  have j5 : ((n : Int) = 5) = (n = 5) := propext (by omega)
  have j3 : ((n : Int) = 3) = (n = 3) := propext (by omega)
  by_cases s5 : s = 5 <;> by_cases c1 : c = 110 <;> by_cases a : n = 0 ∨ n = 1 ∨ n = 4 ∨ n = 5 <;> by_cases b : n = 3 <;> by_cases d : s = 0 ∨ s = 1 <;> first | (exfalso; omega) | simp [b_sign_told, inD_i4, inD_i2, told, i5, i0, i1, j0, j1, j4, j5, j3, s5, c1, a, b, d]
def rdEnv (t : List Nat) (M : Mn) (rows : List (List (List Nat))) (row : List (List Nat)) (cell : List Nat) (s : Nat) (x6 x7 x8 : Sl) : PL.Env :=
  [.val (.str t), .val (mnD M), .own (rows.map rowD), .own (row.map Dt.str), .val (.str cell), .val (.int s), x6, x7, x8]
theorem rd_1 {t : List Nat} {M : Mn} (hM : MnOk M) {rows : List (List (List Nat))} {row : List (List Nat)} {cell : List Nat} {s : Nat} {x6 x7 x8 : Sl} (p c : Nat) (hp : p ≤ 10000) (h1 : rows.length ≤ p) (h2 : row.length ≤ p) (h3 : cell.length ≤ p) :
    turnO (tTp [6, 7]) L_read_of_1 (.tup [.int p, .str [c]]) (rdEnv t M rows row cell s x6 x7 x8) = match mv M s c with
      | none => some (.rt (.tup [.lst [], .int p]))
      | some n => some (.nx (
        if n = 0 then rdEnv t M (rows ++ [row ++ [cell ++ told s n c]]) [] [] n (.val (.int p)) (.val (.str [c])) (.val (.int n))
        else if n = 1 then rdEnv t M rows (row ++ [cell ++ told s n c]) [] n (.val (.int p)) (.val (.str [c])) (.val (.int n))
        else rdEnv t M rows row (cell ++ told s n c) n (.val (.int p)) (.val (.str [c])) (.val (.int n)))) := by
  have hm := moved_ok hM s c
  have hl1 : (rows.map rowD).length ≤ 100000 := by rw [List.length_map]; omega
  have hl2 : (row.map Dt.str).length ≤ 100000 := by rw [List.length_map]; omega
  cases hmv : mv M s c with
  | none =>
    rw [hmv] at hm
    simp [turnO, rdEnv, L_read_of_1, hm, fLst]
  | some n =>
    rw [hmv] at hm
    have ht := told_ok M s n c
    have htl := told_len s n c
    have ha : addD (.str cell) (.str (told s n c)) = some (.str (cell ++ told s n c)) := addD_s _ _ (by omega)
    by_cases n0 : n = 0
    · subst n0
      have ht : r_sign_told [mnD M, .int s, .int 0, .str [c]] = some (.str (told s 0 c)) := ht
      simp (disch := omega) [turnO, rdEnv, L_read_of_1, hm, ht, ha, fLst, inD_i2, rowD]
    · by_cases n1 : n = 1
      · subst n1
        have ht : r_sign_told [mnD M, .int s, .int 1, .str [c]] = some (.str (told s 1 c)) := ht
        simp (disch := omega) [turnO, rdEnv, L_read_of_1, hm, ht, ha, fLst, inD_i2, rowD]
      · have j0 : ((n : Int) = 0) = False := by simp [n0]
        have j1 : ((n : Int) = 1) = False := by simp; omega
        simp (disch := omega) [turnO, rdEnv, L_read_of_1, hm, ht, ha, fLst, inD_i2, rowD, n0, n1, j0, j1]
theorem enum_cons (p : Nat) (c : Nat) (z : List Nat) : enumL p (signsOf (c :: z)) = .tup [.int p, .str [c]] :: enumL (p + 1) (signsOf z) := rfl
theorem rd_loop {t : List Nat} {M : Mn} (hM : MnOk M) : ∀ (z : List Nat) (p s : Nat) (rows : List (List (List Nat))) (row : List (List Nat)) (cell : List Nat) (x6 x7 x8 : Sl), p + z.length ≤ 10000 → rows.length ≤ p → row.length ≤ p → cell.length ≤ p →
    (∃ p', rdGo M s rows row cell p z = .error p' ∧ loopF (tTp [6, 7]) L_read_of_1 (enumL p (signsOf z)) (rdEnv t M rows row cell s x6 x7 x8) = some (.rt (.tup [.lst [], .int p']))) ∨
    (∃ s' rows' row' cell' y6 y7 y8, rdGo M s rows row cell p z = (if s' = 0 then .ok rows' else .error (p + z.length)) ∧ loopF (tTp [6, 7]) L_read_of_1 (enumL p (signsOf z)) (rdEnv t M rows row cell s x6 x7 x8) = some (.nx (rdEnv t M rows' row' cell' s' y6 y7 y8)))
  | [], p, s, rows, row, cell, x6, x7, x8, _, _, _, _ => .inr ⟨s, rows, row, cell, x6, x7, x8, rfl, rfl⟩
  | c :: z, p, s, rows, row, cell, x6, x7, x8, h, h1, h2, h3 => by
    have h' : p + (z.length + 1) ≤ 10000 := h
    have w := rd_1 (t := t) (x6 := x6) (x7 := x7) (x8 := x8) hM (rows := rows) (row := row) (cell := cell) (s := s) p c (by omega) h1 h2 h3
    rw [enum_cons, loop_cons, w, rdGo]
    cases hmv : mv M s c with
    | none => exact .inl ⟨p, rfl, rfl⟩
    | some n =>
      have htl := told_len s n c
      have e : p + (z.length + 1) = p + 1 + z.length := by omega
      simp only [List.length_cons]
      rw [e]
      by_cases n0 : n = 0
      · rw [if_pos n0, if_pos n0]
        exact rd_loop hM z (p + 1) n _ _ _ _ _ _ (by omega) (by simp; omega) (by simp) (by simp)
      · rw [if_neg n0, if_neg n0]
        by_cases n1 : n = 1
        · rw [if_pos n1, if_pos n1]
          exact rd_loop hM z (p + 1) n _ _ _ _ _ _ (by omega) (by omega) (by simp; omega) (by simp)
        · rw [if_neg n1, if_neg n1]
          exact rd_loop hM z (p + 1) n _ _ _ _ _ _ (by omega) (by omega) (by omega) (by rw [List.length_append]; omega)
theorem read_of_ok {M : Mn} (hM : MnOk M) (t : List Nat) (ht : t.length ≤ 10000) : r_read_of [.str t, mnD M] = some (resD (rd M t)) := by
  refine run_rt rfl ?_
  have en : enumD [.str t] = some (enumL 0 (signsOf t)) := rfl
  unfold rd
  rcases rd_loop (t := t) hM t 0 0 [] [] [] .no .no .no (by omega) (Nat.le_refl _) (Nat.le_refl _) (Nat.le_refl _) with ⟨p', e, l⟩ | ⟨s', rows', row', cell', y6, y7, y8, e, l⟩
  · rw [e]
    unfold rdEnv at l
    simp at l
    simp [b_read_of, fLst, en, l, resD]
  · rw [e]
    unfold rdEnv at l
    simp at l
    by_cases h0 : s' = 0
    · have j0 : ((s' : Int) = 0) = True := by simp [h0]
      simp [b_read_of, fLst, en, l, resD, h0, tabD]
    · have j0 : ((s' : Int) = 0) = False := by simp [h0]
      simp (disch := omega) [b_read_of, fLst, en, l, resD, h0, j0, tabD]
end W

/-! ### the answer of reading -/
namespace W
open PySem PL
def ansD : Except Nat (List (List (List Nat))) → Dt
  | .ok rows => .obj k_Table [tabD rows]
  | .error p => .obj k_Broken [.int p]
theorem table_ok (rows : List (List (List Nat))) (h : rows.length ≤ 10000) : i_Table [tabD rows] = some [tabD rows] := by
  have hc : fComp (fItems (fV 1)) 2 [2] fYes (fL (fListO (fV 2))) [.no, .val (tabD rows), .no] = some (rows.map rowD) := by
    rw [e_fComp (items := rows.map rowD) (h := by simp [tabD]) (hl := by rw [List.length_map]; omega)]
    have := comp_map (j := 2) (e := fL (fListO (fV 2))) (r := wipeE [.no, .val (tabD rows), .no] [2]) rowD rowD id rows fun row _ => by simp [fListO, rowD]
    rw [this, List.map_id]
  show (fL (fComp (fItems (fV 1)) 2 [2] fYes (fL (fListO (fV 2)))) [.no, .val (tabD rows), .no]).bind _ = _
  rw [e_fL, hc]
  rfl
theorem read_ok {M : Mn} (hM : M ∈ mns) {t : List Nat} (ht : t.length ≤ 200) (g : good t) : r_read [.str t, mnD M] = some (ansD (rd M t)) := by
  refine run_rt rfl ?_
  have h1 := check_text_ok ht g
  have h2 := check_manner_ok hM
  have h3 := read_of_ok (mn_ok hM) t (by omega)
  cases hr : rd M t with
  | error p =>
    rw [hr] at h3
    have hi : i_Broken [.int p] = some [.int p] := rfl
    simp [b_read, h1, h2, h3, resD, hi, ansD]
  | ok rows =>
    rw [hr] at h3
    have hrl : rows.length ≤ 10000 := by
      have := rd_rows hr
      omega
    have hi := table_ok rows hrl
    simp [b_read, h1, h2, h3, resD, hi, ansD]
end W

namespace W
open PySem PL
/-! what is equal -/
theorem eqF_refl : ∀ (n : Nat) (d : Dt), okD n d = true → eqF n d d = true
  | _, .non, _ => by rw [eqF]
  | _, .bl a, _ => by rw [eqF]; exact beq_self_eq_true a
  | _, .int i, _ => by rw [eqF]; exact beq_self_eq_true i
  | _, .str x, _ => by rw [eqF]; exact beq_self_eq_true x
  | n + 1, .lst l, h => by
    have h' : l.all (okD n) = true := h
    show allEq (eqF n) l l = true
    induction l with
    | nil => rfl
    | cons x l ih =>
      rw [List.all_cons, Bool.and_eq_true] at h'
      rw [allEq, eqF_refl n x h'.1, ih h'.2 h'.2]; rfl
  | n + 1, .tup l, h => by
    have h' : l.all (okD n) = true := h
    show allEq (eqF n) l l = true
    induction l with
    | nil => rfl
    | cons x l ih =>
      rw [List.all_cons, Bool.and_eq_true] at h'
      rw [allEq, eqF_refl n x h'.1, ih h'.2 h'.2]; rfl
  | 0, .lst _, h => by cases h
  | 0, .tup _, h => by cases h
  | n, .scr _, h => by cases n <;> cases h
  | n, .obj _ _, h => by cases n <;> cases h
  | n, .dic _ _, h => by cases n <;> cases h
  | n, .adr _, h => by cases n <;> cases h
  | n, .ty _, h => by cases n <;> cases h
  | n, .cls _, h => by cases n <;> cases h
def goodR (rows : List (List (List Nat))) : Prop := ∀ r ∈ rows, ∀ t ∈ r, good t
theorem good_code {t : List Nat} (g : good t) : (t.all fun c => decide (c < 1114112)) = true := by
  rw [List.all_eq_true]
  intro c hc
  have : ∀ c ∈ sgs, c < 1114112 := by decide
  exact decide_eq_true (this c (g c hc))
theorem okD_str {n : Nat} {t : List Nat} (g : good t) : okD n (.str t) = true := by
  have : okD n (.str t) = t.all fun c => decide (c < 1114112) := by cases n <;> rfl
  rw [this]; exact good_code g
theorem okD_row {n : Nat} {r : List (List Nat)} (g : ∀ t ∈ r, good t) : okD (n + 1) (rowD r) = true := by
  show (r.map Dt.str).all (okD n) = true
  rw [List.all_map, List.all_eq_true]
  intro t ht
  exact okD_str (g t ht)
theorem okD_tab {n : Nat} {rows : List (List (List Nat))} (g : goodR rows) : okD (n + 2) (tabD rows) = true := by
  show (rows.map rowD).all (okD (n + 1)) = true
  rw [List.all_map, List.all_eq_true]
  intro r hr
  exact okD_row (g r hr)
theorem allEq_map {α : Type} [DecidableEq α] {f : α → Dt} {e : Dt → Dt → Bool} (h : ∀ x y, e (f x) (f y) = decide (x = y)) : ∀ (l m : List α), allEq e (l.map f) (m.map f) = decide (l = m)
  | [], [] => rfl
  | [], y :: m => rfl
  | x :: l, [] => rfl
  | x :: l, y :: m => by
    rw [List.map_cons, List.map_cons, allEq, h, allEq_map h l m]
    by_cases z : x = y <;> by_cases z2 : l = m <;> simp [z, z2]
theorem eq_str (n : Nat) (x y : List Nat) : eqF n (.str x) (.str y) = decide (x = y) := by
  have : eqF n (.str x) (.str y) = (x == y) := by cases n <;> rfl
  rw [this]
  by_cases h : x = y <;> simp [h]
theorem eq_row (n : Nat) (x y : List (List Nat)) : eqF (n + 1) (rowD x) (rowD y) = decide (x = y) := allEq_map (eq_str n) x y
theorem eq_tab (n : Nat) (x y : List (List (List Nat))) : eqF (n + 2) (tabD x) (tabD y) = decide (x = y) := allEq_map (eq_row n) x y
theorem ne_tab {a b : List (List (List Nat))} (ga : goodR a) (gb : goodR b) : neD (tabD a) (tabD b) = some (.bl (!decide (a = b))) := by
  have h : neD (tabD a) (tabD b) = if okD 9 (tabD a) = true ∧ okD 9 (tabD b) = true then some (.bl (!eqF 9 (tabD a) (tabD b))) else none := rfl
  rw [h, if_pos ⟨okD_tab ga, okD_tab gb⟩, eq_tab 7]
theorem eqD_tab {a b : List (List (List Nat))} (ga : goodR a) (gb : goodR b) : eqD (tabD a) (tabD b) = some (.bl (decide (a = b))) := by
  have h : eqD (tabD a) (tabD b) = if okD 9 (tabD a) = true ∧ okD 9 (tabD b) = true then some (.bl (eqF 9 (tabD a) (tabD b))) else none := rfl
  rw [h, if_pos ⟨okD_tab ga, okD_tab gb⟩, eq_tab 7]
theorem goodR_app {a b : List (List (List Nat))} (ga : goodR a) (gb : goodR b) : goodR (a ++ b) := fun r hr => (List.mem_append.mp hr).elim (ga r) (gb r)
end W

/-! ### texts behind texts; what is equal -/
namespace W
open PySem PL
theorem mv_zero {M : Mn} {s c : Nat} (h : mv M s c = some 0) : c = 10 ∧ s ≠ 3 ∧ s ≠ 5 := by
  unfold mv at h
  by_cases s5 : s = 5
  · rw [if_pos s5] at h
    split at h <;> split at h <;> cases h
  · rw [if_neg s5] at h
    by_cases s3 : s = 3
    · rw [if_pos s3] at h
      split at h
      · cases h
      · split at h <;> cases h
    · rw [if_neg s3] at h
      split at h
      · rename_i hc; exact ⟨hc, s3, s5⟩
      · split at h
        · cases h
        · split at h
          · split at h <;> cases h
          · split at h
            · cases h
            · split at h
              · split at h <;> cases h
              · cases h
/-- what stands behind, put to rows that are there -/
def shiftR (rows1 : List (List (List Nat))) (d : Nat) : Except Nat (List (List (List Nat))) → Except Nat (List (List (List Nat)))
  | .ok r => .ok (rows1 ++ r)
  | .error k => .error (k + d)
theorem rdGo_shift (M : Mn) (rows1 : List (List (List Nat))) (d : Nat) : ∀ (z : List Nat) (s : Nat) (rows : List (List (List Nat))) (row : List (List Nat)) (cell : List Nat) (p : Nat), rdGo M s (rows1 ++ rows) row cell (p + d) z = shiftR rows1 d (rdGo M s rows row cell p z)
  | [], s, rows, row, cell, p => by
    rw [rdGo, rdGo]
    split <;> rfl
  | c :: z, s, rows, row, cell, p => by
    rw [rdGo, rdGo]
    cases mv M s c with
    | none => rfl
    | some n =>
      simp only
      have e : p + d + 1 = p + 1 + d := by omega
      rw [e]
      split
      · rw [List.append_assoc]; exact rdGo_shift M rows1 d z _ _ _ _ _
      · split
        · exact rdGo_shift M rows1 d z _ _ _ _ _
        · exact rdGo_shift M rows1 d z _ _ _ _ _
theorem rdGo_app {M : Mn} : ∀ (a : List Nat) (b : List Nat) (s : Nat) (rows : List (List (List Nat))) (row : List (List Nat)) (cell : List Nat) (p : Nat) (out : List (List (List Nat))), (s = 0 → row = [] ∧ cell = []) → rdGo M s rows row cell p a = .ok out → rdGo M s rows row cell p (a ++ b) = rdGo M 0 out [] [] (p + a.length) b
  | [], b, s, rows, row, cell, p, out, h0, h => by
    rw [rdGo] at h
    split at h
    · rename_i hs
      cases h
      obtain ⟨h1, h2⟩ := h0 hs
      rw [hs, h1, h2]; rfl
    · cases h
  | c :: a, b, s, rows, row, cell, p, out, h0, h => by
    rw [rdGo] at h
    rw [List.cons_append, rdGo, List.length_cons]
    cases hmv : mv M s c with
    | none => rw [hmv] at h; cases h
    | some n =>
      rw [hmv] at h
      simp only at h ⊢
      have e : p + (a.length + 1) = p + 1 + a.length := by omega
      rw [e]
      split at h
      · rename_i hn
        rw [if_pos hn]
        exact rdGo_app a b _ _ _ _ _ _ (fun _ => ⟨rfl, rfl⟩) h
      · rename_i hn
        rw [if_neg hn]
        split at h
        · rename_i h1
          rw [if_pos h1]
          exact rdGo_app a b _ _ _ _ _ _ (fun h => absurd h hn) h
        · rename_i h1
          rw [if_neg h1]
          exact rdGo_app a b _ _ _ _ _ _ (fun h => absurd h hn) h
theorem rd_app {M : Mn} {a b : List Nat} {out : List (List (List Nat))} (h : rd M a = .ok out) : rd M (a ++ b) = shiftR out a.length (rd M b) := by
  unfold rd at *
  rw [rdGo_app a b 0 [] [] [] 0 out (fun _ => ⟨rfl, rfl⟩) h]
  have := rdGo_shift M out a.length b 0 [] [] [] 0
  rw [List.append_nil] at this
  exact this
theorem run_none_take {M : Mn} {t : List Nat} {s k j : Nat} (h : run M s (t.take k) = none) (hk : k ≤ j) : run M s (t.take j) = none := by
  cases hr : run M s (t.take j) with
  | none => rfl
  | some n =>
    obtain ⟨m, hm⟩ := run_take k hr
    rw [List.take_take, Nat.min_eq_left hk, h] at hm
    cases hm
theorem rd_dead {M : Mn} {t : List Nat} {k n : Nat} (hk : k < t.length) (h1 : run M 0 (t.take k) = some n) (h2 : run M 0 (t.take (k + 1)) = none) : rd M t = .error k := by
  have hall : run M 0 t = none := by
    have := run_none_take (j := t.length) h2 (by omega)
    rwa [List.take_length] at this
  rcases rd_run M t with ⟨h, _⟩ | ⟨m, _, h, _⟩ | ⟨k', m, hk', a1, a2, e⟩
  · rw [h] at hall; cases hall
  · rw [h] at hall; cases hall
  · rw [e]
    have : k = k' := by
      by_cases z : k < k'
      · have := run_none_take (j := k') h2 (by omega)
        rw [a1] at this; cases this
      · by_cases z2 : k' < k
        · have := run_none_take (j := k) a2 (by omega)
          rw [h1] at this; cases this
        · omega
    rw [this]
/-- a place ahead of the end: the text died there -/
theorem rd_err {M : Mn} {t : List Nat} {k : Nat} (h : rd M t = .error k) (hk : k < t.length) : ∃ n, run M 0 (t.take k) = some n ∧ run M 0 (t.take (k + 1)) = none := by
  rcases rd_run M t with ⟨_, out, e⟩ | ⟨m, _, _, e⟩ | ⟨k', m, hk', a1, a2, e⟩
  · rw [e] at h; cases h
  · rw [e] at h; cases h; exact absurd hk (by omega)
  · rw [e] at h; cases h; exact ⟨m, a1, a2⟩
theorem rd_app_dead {M : Mn} {a b : List Nat} {k : Nat} (h : rd M a = .error k) (hk : k < a.length) : rd M (a ++ b) = .error k := by
  obtain ⟨n, h1, h2⟩ := rd_err h hk
  refine rd_dead (n := n) (by rw [List.length_append]; omega) ?_ ?_
  · rw [List.take_append_of_le_length (by omega)]; exact h1
  · rw [List.take_append_of_le_length (by omega)]; exact h2
theorem told_good {s n c : Nat} (hc : c ∈ sgs) : good (told s n c) := by
  unfold told
  by_cases s5 : s = 5
  · by_cases c1 : c = 110
    · simp only [s5, c1, if_true]; exact good_one (by decide)
    · simp only [s5, c1, if_true, if_false]; exact good_one hc
  · by_cases a : n = 0 ∨ n = 1 ∨ n = 4 ∨ n = 5
    · simp only [s5, a, if_true, if_false]; exact good_nil
    · by_cases b : n = 3 ∧ (s = 0 ∨ s = 1)
      · simp only [s5, a, b, if_true, if_false]; exact good_nil
      · simp only [s5, a, b, if_false]; exact good_one hc
theorem rdGo_good {M : Mn} : ∀ (z : List Nat) (s : Nat) (rows : List (List (List Nat))) (row : List (List Nat)) (cell : List Nat) (p : Nat) (out : List (List (List Nat))), good z → goodR rows → (∀ t ∈ row, good t) → good cell → rdGo M s rows row cell p z = .ok out → goodR out
  | [], s, rows, row, cell, p, out, _, hr, _, _, h => by
    rw [rdGo] at h
    split at h
    · cases h; exact hr
    · cases h
  | c :: z, s, rows, row, cell, p, out, gz, hr, hw, hc, h => by
    rw [rdGo] at h
    have gz' : good z := fun d hd => gz d (.tail _ hd)
    cases hmv : mv M s c with
    | none => rw [hmv] at h; cases h
    | some n =>
      rw [hmv] at h
      simp only at h
      have gc : good (cell ++ told s n c) := good_app hc (told_good (gz c (.head _)))
      have gr : ∀ t ∈ row ++ [cell ++ told s n c], good t := fun t ht => (List.mem_append.mp ht).elim (hw t) fun h => by rw [List.mem_singleton.mp h]; exact gc
      split at h
      · refine rdGo_good z _ _ _ _ _ _ gz' (goodR_app hr fun r hr => by rw [List.mem_singleton.mp hr]; exact gr) (fun t ht => by cases ht) good_nil h
      · split at h
        · exact rdGo_good z _ _ _ _ _ _ gz' hr gr good_nil h
        · exact rdGo_good z _ _ _ _ _ _ gz' hr hw gc h
theorem rd_good {M : Mn} {t : List Nat} {out : List (List (List Nat))} (g : good t) (h : rd M t = .ok out) : goodR out :=
  rdGo_good t 0 [] [] [] 0 out g (fun r hr => by cases hr) (fun t ht => by cases ht) good_nil h
end W

/-! ### which manners fit a text -/
namespace W
open PySem PL
theorem all_manners_eq : r_all_manners [] = some (.lst (mns.map mnD)) := by rfl
def evenB : List (List (List Nat)) → Bool
  | [] => false
  | r :: rs => decide (1 < r.length) && (r :: rs).all fun q => decide (q.length = r.length)
theorem is_even_ok {rows : List (List (List Nat))} (g : goodR rows) (hl : rows.length ≤ 10000) : r_is_even [tabD rows] = some (.bl (evenB rows)) := by
  refine run_rt rfl ?_
  have hn : neD (tabD rows) (.lst []) = some (.bl (!decide (rows = []))) := ne_tab (b := []) g (fun r hr => by cases hr)
  cases rows with
  | nil =>
    simp at hn
    simp [b_is_even, fLst, hn, evenB]
  | cons r rs =>
    have h0 : ixD (tabD (r :: rs)) (.int 0) = some (rowD r) := ixD_l ((r :: rs).map rowD) 0
    have hlen : ∀ q : List (List Nat), lenD [rowD q] = some (.int q.length) := fun q => by
      show some (Dt.int ((q.map Dt.str).length : Nat)) = _
      rw [List.length_map]
    have hc : fComp (fItems (fV 0)) 1 [1] fYes (fOp eqD (fCall lenD (fCons (fV 1) fNil)) (fCall lenD (fCons (fOp ixD (fV 0) (fC (.int 0))) fNil))) [.val (tabD (r :: rs)), .no] = some (((r :: rs).map fun q => decide (q.length = r.length)).map Dt.bl) := by
      rw [e_fComp (items := (r :: rs).map rowD) (h := by simp [tabD]) (hl := by rw [List.length_map]; omega)]
      refine comp_map rowD Dt.bl (fun q => decide (q.length = r.length)) (r :: rs) fun q _ => ?_
      have hi : decide ((q.length : Int) = (r.length : Int)) = decide (q.length = r.length) := by congr 1; exact propext (by omega)
      simp only [wipeE_cons, wipeE_nil, List.set_cons_succ, List.set_cons_zero, e_fOp, e_fCall, e_fCons, e_fNil, e_fV, e_fC, gV_succ, gV_zero, bO_some, Option.map_some, hlen, h0, eqD_i, hi]
    have ha := allD_map ((r :: rs).map fun q => decide (q.length = r.length))
    rw [List.all_map] at ha
    have hne : neD (tabD (r :: rs)) (.lst []) = some (.bl true) := by rw [hn]; simp
    have h1 : decide ((1 : Int) < (r.length : Int)) = decide (1 < r.length) := by congr 1; exact propext (by omega)
    simp only [List.map_cons, List.map_nil, List.replicate, List.cons_append, List.nil_append, b_is_even, e_fRet, e_fAndV, e_fOp, e_fV, gV_zero, e_fL, fLst, e_fNil, List.length_nil, bO_some, Option.map_some] at *
    simp only [Nat.zero_le, if_true, Option.map_some, bO_some, hne, andV_t, e_fCall, e_fCons, e_fOp, e_fV, e_fC, gV_zero, e_fNil, h0, hlen, gtD_i, h1, hc, ha, andV_s, evenB, e_fL, bO_some, Option.map_some, List.map_cons]
    rw [Bool.true_and]; rfl
def fitB (t : List Nat) (M : Mn) : Bool := match rd M t with
  | .ok rows => evenB rows
  | .error _ => false
def fitEnv (t : List Nat) (l : List Mn) (x2 x3 x4 : Sl) : PL.Env := [.val (.str t), .own (l.map mnD), x2, x3, x4]
theorem fit_1 {t : List Nat} (ht : t.length ≤ 9000) (g : good t) {l : List Mn} (hl : l.length ≤ 1000) {x2 x3 x4 : Sl} {M : Mn} (hm : M ∈ mns) :
    ∃ y2 y3 y4, turnO (tNm 2) L_fitting_of_1 (mnD M) (fitEnv t l x2 x3 x4) = some (.nx (fitEnv t (l ++ (if fitB t M = true then [M] else [])) y2 y3 y4)) := by
  have hr := read_of_ok (mn_ok hm) t (by omega)
  have hml : (l.map mnD).length ≤ 100000 := by rw [List.length_map]; omega
  unfold fitB
  cases e : rd M t with
  | error p =>
    rw [e] at hr
    have p0 : ¬ (p : Int) < 0 := by omega
    refine ⟨.val (mnD M), .val (.lst []), .val (.int p), ?_⟩
    simp [turnO, fitEnv, L_fitting_of_1, hr, resD, p0]
  | ok rows =>
    rw [e] at hr
    have he := is_even_ok (rd_good g e) (by have := rd_rows e; omega)
    refine ⟨.val (mnD M), .val (tabD rows), .val (.int (-1)), ?_⟩
    cases hb : evenB rows with
    | true => rw [hb] at he; simp (disch := omega) [turnO, fitEnv, L_fitting_of_1, hr, resD, he, hb]
    | false => rw [hb] at he; simp (disch := omega) [turnO, fitEnv, L_fitting_of_1, hr, resD, he, hb]
theorem fit_loop {t : List Nat} (ht : t.length ≤ 9000) (g : good t) : ∀ (ms : List Mn) (l : List Mn) (x2 x3 x4 : Sl), (∀ M ∈ ms, M ∈ mns) → l.length + ms.length ≤ 1000 →
    ∃ y2 y3 y4, loopF (tNm 2) L_fitting_of_1 (ms.map mnD) (fitEnv t l x2 x3 x4) = some (.nx (fitEnv t (l ++ ms.filter (fitB t)) y2 y3 y4))
  | [], l, x2, x3, x4, _, _ => ⟨x2, x3, x4, by rw [List.filter_nil, List.append_nil]; rfl⟩
  | M :: ms, l, x2, x3, x4, hm, hl => by
    have hl' : l.length + (ms.length + 1) ≤ 1000 := hl
    obtain ⟨y2, y3, y4, e⟩ := fit_1 (x2 := x2) (x3 := x3) (x4 := x4) ht g (l := l) (by omega) (hm M (.head _))
    rw [List.map_cons, loop_cons, e]
    obtain ⟨z2, z3, z4, e2⟩ := fit_loop ht g ms (l ++ (if fitB t M = true then [M] else [])) y2 y3 y4 (fun N hN => hm N (.tail _ hN)) (by rw [List.length_append]; split <;> simp <;> omega)
    refine ⟨z2, z3, z4, ?_⟩
    simp only
    rw [e2, List.append_assoc]
    cases hb : fitB t M with
    | true => rw [List.filter_cons_of_pos hb, if_pos rfl]; rfl
    | false => rw [List.filter_cons_of_neg (by simp [hb]), if_neg (by decide)]; rfl
def fitL (t : List Nat) : List Mn := mns.filter (fitB t)
theorem fitting_of_ok {t : List Nat} (ht : t.length ≤ 9000) (g : good t) : r_fitting_of [.str t] = some (.lst ((fitL t).map mnD)) := by
  obtain ⟨y2, y3, y4, e⟩ := fit_loop ht g mns [] .no .no .no (fun M h => h) (by decide)
  refine run_rt rfl ?_
  rw [List.nil_append] at e
  unfold fitEnv at e
  simp only [List.map_nil] at e
  have hall := all_manners_eq
  simp (disch := omega) [b_fitting_of, fLst, hall, e, fitL, -List.map_map]
end W

namespace W
open PySem PL
theorem fitting_ok {t : List Nat} (ht : t.length ≤ 200) (g : good t) : r_fitting [.str t] = some (.lst ((fitL t).map mnD)) := by
  have h1 := check_text_ok ht g
  have h2 := fitting_of_ok (by omega) g
  refine run_rt rfl ?_
  simp [b_fitting, h1, h2]
end W

/-! ### how long rows that are read may be -/
namespace W
open PySem PL
theorem rdGo_full {M : Mn} : ∀ (z : List Nat) (s : Nat) (rows : List (List (List Nat))) (row : List (List Nat)) (cell : List Nat) (p : Nat) (out : List (List (List Nat))), (∀ r ∈ rows, r ≠ [] ∧ r.length ≤ p) → row.length ≤ p → rdGo M s rows row cell p z = .ok out → ∀ r ∈ out, r ≠ [] ∧ r.length ≤ p + z.length
  | [], s, rows, row, cell, p, out, hr, _, h => by
    rw [rdGo] at h
    split at h
    · cases h; exact hr
    · cases h
  | c :: z, s, rows, row, cell, p, out, hr, hw, h => by
    rw [rdGo] at h
    cases hmv : mv M s c with
    | none => rw [hmv] at h; cases h
    | some n =>
      rw [hmv] at h
      simp only at h
      have hr' : ∀ r ∈ rows, r ≠ [] ∧ r.length ≤ p + 1 := fun r h => ⟨(hr r h).1, by have := (hr r h).2; omega⟩
      have e : p + (c :: z).length = p + 1 + z.length := by rw [List.length_cons]; omega
      rw [e]
      split at h
      · refine rdGo_full z _ _ _ _ _ _ (fun r hm => ?_) (by simp) h
        rcases List.mem_append.mp hm with hm | hm
        · exact hr' r hm
        · rw [List.mem_singleton.mp hm]
          exact ⟨by simp, by rw [List.length_append, List.length_singleton]; omega⟩
      · split at h
        · exact rdGo_full z _ _ _ _ _ _ hr' (by rw [List.length_append, List.length_singleton]; omega) h
        · exact rdGo_full z _ _ _ _ _ _ hr' (by omega) h
theorem rd_full {M : Mn} {t : List Nat} {out : List (List (List Nat))} (h : rd M t = .ok out) : ∀ r ∈ out, r ≠ [] ∧ r.length ≤ t.length := by
  have := rdGo_full t 0 [] [] [] 0 out (fun r hr => by cases hr) (Nat.le_refl _) h
  simpa using this
end W

/-! ### k10: two marks exchanged sign by sign -/
namespace W
open PySem PL
structure Swp (f : Nat → Nat) : Prop where
  two : ∀ c, f (f c) = c
  f10 : f 10 = 10
  f110 : f 110 = 110
theorem Swp.inj {f : Nat → Nat} (h : Swp f) {a b : Nat} : f a = f b ↔ a = b := ⟨fun e => by rw [← h.two a, e, h.two], fun e => by rw [e]⟩
theorem Swp.one {f : Nat → Nat} (h : Swp f) {c : Nat} {l : List Nat} : [f c] = l.map f ↔ [c] = l := by
  constructor
  · intro e
    cases l with
    | nil => cases e
    | cons a l =>
      cases l with
      | nil =>
        have := (List.cons.inj e).1
        rw [h.inj.mp this]
      | cons b l => exact absurd (congrArg List.length e) (by simp)
  · rintro rfl; rfl
theorem Swp.nil {f : Nat → Nat} {l : List Nat} : l.map f = [] ↔ l = [] := List.map_eq_nil_iff
theorem Swp.e10 {f : Nat → Nat} (h : Swp f) {c : Nat} : f c = 10 ↔ c = 10 := by rw [← h.f10]; rw [h.inj, h.f10]
theorem Swp.e110 {f : Nat → Nat} (h : Swp f) {c : Nat} : f c = 110 ↔ c = 110 := by rw [← h.f110]; rw [h.inj, h.f110]
theorem Swp.map {f : Nat → Nat} (h : Swp f) (t : List Nat) : (t.map f).map f = t := by
  rw [List.map_map]
  have : f ∘ f = id := funext h.two
  rw [this, List.map_id]
def fMn (f : Nat → Nat) (M : Mn) : Mn := ⟨f M.m, M.q.map f, M.e.map f⟩
theorem fMn_two {f : Nat → Nat} (h : Swp f) (M : Mn) : fMn f (fMn f M) = M := by
  unfold fMn
  rw [h.two, h.map, h.map]
theorem mv_sw {f : Nat → Nat} (h : Swp f) (M : Mn) (s c : Nat) : mv (fMn f M) s (f c) = mv M s c := by
  have a1 : ([f c] = [f M.m]) = ([c] = [M.m]) := propext (by simp [h.inj])
  have a2 : ([f c] = M.q.map f) = ([c] = M.q) := propext h.one
  have a3 : ([f c] = M.e.map f) = ([c] = M.e) := propext h.one
  have a4 : (M.q.map f = []) = (M.q = []) := propext Swp.nil
  have a5 : (M.e.map f = []) = (M.e = []) := propext Swp.nil
  have a6 : (f c = 10) = (c = 10) := propext h.e10
  have a7 : ([f c] = [110]) = ([c] = [110]) := propext (by simp [h.e110])
  have a8 : (f c = f M.m) = (c = M.m) := propext h.inj
  unfold mv fMn
  simp only [a1, a2, a3, a4, a5, a6, a7, a8]
theorem told_sw {f : Nat → Nat} (h : Swp f) (s n c : Nat) : told s n (f c) = (told s n c).map f := by
  have a1 : (f c = 110) = (c = 110) := propext h.e110
  unfold told
  simp only [a1]
  repeat' split
  all_goals first | rfl | (rw [List.map_cons, List.map_nil, h.f10])
def rowsF (f : Nat → Nat) (rows : List (List (List Nat))) : List (List (List Nat)) := rows.map fun r => r.map fun t => t.map f
theorem rdGo_sw {f : Nat → Nat} (h : Swp f) (M : Mn) : ∀ (z : List Nat) (s : Nat) (rows : List (List (List Nat))) (row : List (List Nat)) (cell : List Nat) (p : Nat),
    rdGo (fMn f M) s (rowsF f rows) (row.map fun t => t.map f) (cell.map f) p (z.map f) = match rdGo M s rows row cell p z with | .ok out => .ok (rowsF f out) | .error k => .error k
  | [], s, rows, row, cell, p => by
    rw [List.map_nil, rdGo, rdGo]
    split <;> rfl
  | c :: z, s, rows, row, cell, p => by
    rw [List.map_cons, rdGo, rdGo, mv_sw h]
    cases mv M s c with
    | none => rfl
    | some n =>
      dsimp only
      rw [told_sw h]
      split
      · have := rdGo_sw h M z n (rows ++ [row ++ [cell ++ told s n c]]) [] [] (p + 1)
        rw [← this]
        unfold rowsF
        simp
      · split
        · have := rdGo_sw h M z n rows (row ++ [cell ++ told s n c]) [] (p + 1)
          rw [← this]
          simp
        · have := rdGo_sw h M z n rows row (cell ++ told s n c) (p + 1)
          rw [← this]
          simp
theorem rd_sw {f : Nat → Nat} (h : Swp f) (M : Mn) (t : List Nat) : rd (fMn f M) (t.map f) = match rd M t with | .ok out => .ok (rowsF f out) | .error k => .error k := rdGo_sw h M t 0 [] [] [] 0
theorem gn_sw {f : Nat → Nat} (h : Swp f) (M : Mn) (w : Nat) (s : Spot) (c : Nat) : gn (fMn f M) w s (f c) = gn M w s c := by
  unfold gn
  rw [mv_sw h]
theorem pIns_sw {f : Nat → Nat} (h : Swp f) (M : Mn) : pIns (fMn f M) = (pIns M).map f := by
  unfold pIns fMn
  simp [h.f10, h.f110]
theorem way_sw {f : Nat → Nat} (h : Swp f) {M : Mn} {w : Nat} {t : List Nat} {s : Spot} {v : LVal} (k : Way M w t s v) : Way (fMn f M) w (t.map f) s (v.1, v.2.map f) := by
  induction k with
  | nil => exact .nil
  | @ins t s v c q _ hc hg ih =>
    have := Way.ins ih (show f c ∈ pIns (fMn f M) by rw [pIns_sw h]; exact List.mem_map.mpr ⟨c, hc, rfl⟩) (by rw [gn_sw h]; exact hg)
    rw [List.map_append]
    exact this
  | del a _ ih =>
    rw [List.map_append]
    exact .del (f a) ih
  | @keep t s v a q _ hg ih =>
    have := Way.keep ih (show gn (fMn f M) w s (f a) = some q by rw [gn_sw h]; exact hg)
    rw [List.map_append, List.map_append]
    exact this
theorem few_sw {f : Nat → Nat} (h : Swp f) {M : Mn} {w : Nat} {t : List Nat} {v u : LVal} (k : Fewest M w t v) (l : Fewest (fMn f M) w (t.map f) u) : v.1 = u.1 := by
  refine Nat.le_antisymm ?_ (l.few (v.1, v.2.map f) (way_sw h k.way))
  have := way_sw h l.way
  rw [fMn_two h, h.map] at this
  exact k.few (u.1, u.2.map f) this
theorem even_sw (f : Nat → Nat) (rows : List (List (List Nat))) : evenB (rowsF f rows) = evenB rows := by
  cases rows with
  | nil => rfl
  | cons r rs =>
    show (decide (1 < (r.map fun t => t.map f).length) && ((r :: rs).map fun r => r.map fun t => t.map f).all fun q => decide (q.length = (r.map fun t => t.map f).length)) = _
    rw [List.all_map, List.length_map]
    show _ = (decide (1 < r.length) && (r :: rs).all fun q => decide (q.length = r.length))
    congr 2
    funext q
    show decide ((q.map fun t => t.map f).length = r.length) = _
    rw [List.length_map]
theorem fit_sw {f : Nat → Nat} (h : Swp f) (M : Mn) (t : List Nat) : fitB (t.map f) (fMn f M) = fitB t M := by
  unfold fitB
  rw [rd_sw h]
  cases rd M t with
  | ok rows => exact even_sw f rows
  | error p => rfl
/-- the exchanges of the law -/
def sw (a b c : Nat) : Nat := if c = a then b else if c = b then a else c
structure ExOk (a b : Nat) : Prop where
  s : Swp (sw a b)
  g : ∀ c ∈ sgs, sw a b c ∈ sgs
  ga : a ∈ sgs
  gb : b ∈ sgs
  m : ∀ M ∈ mns, fMn (sw a b) M ∈ mns
  p : (mns.map (fMn (sw a b))).Perm mns
theorem sw_two {a b : Nat} (h : a ≠ b) (c : Nat) : sw a b (sw a b c) = c := by
  unfold sw
  by_cases h1 : c = a
  · subst h1
    rw [if_pos rfl]
    have : ¬ b = c := fun e => h e.symm
    rw [if_neg this, if_pos rfl]
  · rw [if_neg h1]
    by_cases h2 : c = b
    · rw [if_pos h2, if_pos rfl, h2]
    · rw [if_neg h2, if_neg h1, if_neg h2]
def exs : List (Nat × Nat) := [(44, 59), (124, 58), (34, 39)]
theorem ex_ok {x : Nat × Nat} (h : x ∈ exs) : ExOk x.1 x.2 := by
  have h1 : ∀ x ∈ exs, x.1 ≠ x.2 ∧ sw x.1 x.2 10 = 10 ∧ sw x.1 x.2 110 = 110 ∧ (∀ c ∈ sgs, sw x.1 x.2 c ∈ sgs) ∧ x.1 ∈ sgs ∧ x.2 ∈ sgs ∧ (∀ M ∈ mns, fMn (sw x.1 x.2) M ∈ mns) := by decide +kernel
  have h2 : ∀ x ∈ exs, (mns.map (fMn (sw x.1 x.2))).isPerm mns = true := by decide +kernel
  obtain ⟨a1, a2, a3, a4, a5, a6, a7⟩ := h1 x h
  exact ⟨⟨sw_two a1, a2, a3⟩, a4, a5, a6, a7, List.isPerm_iff.mp (h2 x h)⟩
theorem fitL_sw {a b : Nat} (h : ExOk a b) (t : List Nat) : ((fitL t).map (fMn (sw a b))).Perm (fitL (t.map (sw a b))) := by
  unfold fitL
  have e : (mns.filter (fitB t)).map (fMn (sw a b)) = (mns.map (fMn (sw a b))).filter (fitB (t.map (sw a b))) := by
    rw [List.filter_map]
    congr 1
    refine List.filter_congr fun M _ => ?_
    exact (fit_sw h.s M t).symm
  rw [e]
  exact h.p.filter _
/-! the defs -/
theorem good_map {a b : Nat} (h : ExOk a b) {t : List Nat} (g : good t) : good (t.map (sw a b)) := fun c hc => by
  obtain ⟨d, hd, rfl⟩ := List.mem_map.mp hc
  exact h.g d (g d hd)
def swEnv (t : Dt) (a b : Nat) (u : List Nat) (x4 : Sl) : PL.Env := [.val t, .val (.str [a]), .val (.str [b]), .val (.str u), x4]
theorem sw_loop {t : Dt} {a b : Nat} : ∀ (z u : List Nat) (x4 : Sl), u.length + z.length ≤ 100000 → ∃ y4, loopF (tNm 4) L__law_swapped_1 (signsOf z) (swEnv t a b u x4) = some (.nx (swEnv t a b (u ++ z.map (sw a b)) y4))
  | [], u, x4, _ => ⟨x4, by rw [List.map_nil, List.append_nil]; rfl⟩
  | c :: z, u, x4, h => by
    rw [List.length_cons] at h
    obtain ⟨y4, e⟩ := sw_loop (t := t) (a := a) (b := b) z (u ++ [sw a b c]) (.val (.str [c])) (by rw [List.length_append]; simp; omega)
    refine ⟨y4, ?_⟩
    have e1 : turnO (tNm 4) L__law_swapped_1 (.str [c]) (swEnv t a b u x4) = some (.nx (swEnv t a b (u ++ [sw a b c]) (.val (.str [c])))) := by
      unfold sw
      by_cases h1 : c = a
      · subst h1
        simp (disch := omega) [turnO, swEnv, L__law_swapped_1]
      · by_cases h2 : c = b
        · subst h2
          simp (disch := omega) [turnO, swEnv, L__law_swapped_1, h1]
        · simp (disch := omega) [turnO, swEnv, L__law_swapped_1, h1, h2]
    show loopF (tNm 4) L__law_swapped_1 (.str [c] :: signsOf z) _ = _
    rw [loop_cons, e1]
    show loopF (tNm 4) L__law_swapped_1 (signsOf z) _ = _
    rw [e, List.append_assoc]
    rfl
theorem swapped_ok (a b : Nat) (t : List Nat) (h : t.length ≤ 50000) : r__law_swapped [.str t, .str [a], .str [b]] = some (.str (t.map (sw a b))) := by
  obtain ⟨y4, e⟩ := sw_loop (t := .str t) (a := a) (b := b) t [] .no (by rw [List.length_nil]; omega)
  rw [List.nil_append] at e
  unfold swEnv at e
  refine run_rt rfl ?_
  simp [b__law_swapped, e]
theorem part_comp {M : Mn} (hM : MnOk M) {a b : Nat} (r : PL.Env) (h7 : gV r 7 = some (mnD M)) (hw : ∀ d, gV ((wipeE r [9]).set 9 (.val d)) 9 = some d ∧ gV ((wipeE r [9]).set 9 (.val d)) 3 = some (.str [a]) ∧ gV ((wipeE r [9]).set 9 (.val d)) 4 = some (.str [b])) :
    fCall tupleD (fCons (fL (fComp (fItems (fV 7)) 9 [9] fYes (fCall r__law_swapped (fCons (fV 9) (fCons (fV 3) (fCons (fV 4) fNil)))))) fNil) r = some (mnD (fMn (sw a b) M)) := by
  have hc : fComp (fItems (fV 7)) 9 [9] fYes (fCall r__law_swapped (fCons (fV 9) (fCons (fV 3) (fCons (fV 4) fNil)))) r = some (([[M.m], M.q, M.e].map fun t => t.map (sw a b)).map Dt.str) := by
    rw [e_fComp (items := [[M.m], M.q, M.e].map Dt.str) (h := by rw [e_fItems, e_fV, h7]; rfl) (hl := by simp)]
    refine comp_map Dt.str Dt.str (fun t => t.map (sw a b)) _ fun t ht => ?_
    obtain ⟨w1, w2, w3⟩ := hw (.str t)
    have hl : t.length ≤ 50000 := by
      have := hM.q_len
      have := hM.e_len
      simp at ht
      rcases ht with rfl | rfl | rfl
      · simp
      · omega
      · omega
    rw [e_fCall, e_fCons, e_fV, w1, e_fCons, e_fV, w2, e_fCons, e_fV, w3]
    exact swapped_ok a b t hl
  rw [e_fCall, e_fCons, e_fL, hc]
  rfl
def lwEnv (ns : List Int) (by_ : Nat) (t : List Nat) (a b : Nat) (x6 x7 x8 x9 x10 x11 x12 x13 x14 x15 : Sl) : PL.Env :=
  [.val (.scr ns), .val (.int by_), .val (.str t), .val (.str [a]), .val (.str [b]), .val (.str (t.map (sw a b))), x6, x7, x8, x9, x10, x11, x12, x13, x14, x15]
theorem goodR_map {a b : Nat} (h : ExOk a b) {rows : List (List (List Nat))} (g : goodR rows) : goodR (rowsF (sw a b) rows) := fun r hr t ht => by
  obtain ⟨r', hr', rfl⟩ := List.mem_map.mp hr
  obtain ⟨t', ht', rfl⟩ := List.mem_map.mp ht
  exact good_map h (g r' hr' t' ht')
theorem rdGo_cells {M : Mn} : ∀ (z : List Nat) (s : Nat) (rows : List (List (List Nat))) (row : List (List Nat)) (cell : List Nat) (p : Nat) (out : List (List (List Nat))), (∀ r ∈ rows, ∀ t ∈ r, t.length ≤ p) → (∀ t ∈ row, t.length ≤ p) → cell.length ≤ p → rdGo M s rows row cell p z = .ok out → ∀ r ∈ out, ∀ t ∈ r, t.length ≤ p + z.length
  | [], s, rows, row, cell, p, out, hr, _, _, h => by
    rw [rdGo] at h
    split at h
    · cases h; exact hr
    · cases h
  | c :: z, s, rows, row, cell, p, out, hr, hw, hc, h => by
    rw [rdGo] at h
    cases hmv : mv M s c with
    | none => rw [hmv] at h; cases h
    | some n =>
      rw [hmv] at h
      simp only at h
      have hr' : ∀ r ∈ rows, ∀ t ∈ r, t.length ≤ p + 1 := fun r h t ht => by have := hr r h t ht; omega
      have hw' : ∀ t ∈ row, t.length ≤ p + 1 := fun t ht => by have := hw t ht; omega
      have hc' : (cell ++ told s n c).length ≤ p + 1 := by have := told_len s n c; rw [List.length_append]; omega
      have ha : ∀ t ∈ row ++ [cell ++ told s n c], t.length ≤ p + 1 := fun t ht => by
        rcases List.mem_append.mp ht with ht | ht
        · exact hw' t ht
        · rw [List.mem_singleton.mp ht]; exact hc'
      have e : p + (c :: z).length = p + 1 + z.length := by rw [List.length_cons]; omega
      rw [e]
      split at h
      · refine rdGo_cells z _ _ _ _ _ _ (fun r hm => ?_) (fun t ht => by cases ht) (by simp) h
        rcases List.mem_append.mp hm with hm | hm
        · exact hr' r hm
        · rw [List.mem_singleton.mp hm]; exact ha
      · split at h
        · exact rdGo_cells z _ _ _ _ _ _ hr' ha (by simp) h
        · exact rdGo_cells z _ _ _ _ _ _ hr' hw' hc' h
theorem rd_cells {M : Mn} {t : List Nat} {out : List (List (List Nat))} (h : rd M t = .ok out) : ∀ r ∈ out, ∀ c ∈ r, c.length ≤ t.length := by
  have := rdGo_cells t 0 [] [] [] 0 out (fun r hr => by cases hr) (fun t ht => by cases ht) (Nat.le_refl _) h
  simpa using this
theorem rows_comp {a b : Nat} {rows : List (List (List Nat))} (h1 : rows.length ≤ 10000) (h2 : ∀ r ∈ rows, r.length ≤ 10000 ∧ ∀ c ∈ r, c.length ≤ 10000) (r : PL.Env) (d : Dt) (h10 : (fUn (fldD 1 0) (fV 10)) r = some (tabD rows))
    (hw : ∀ d e, gV ((wipeE ((wipeE r [13]).set 13 (.val d)) [14]).set 14 (.val e)) 14 = some e ∧ gV ((wipeE ((wipeE r [13]).set 13 (.val d)) [14]).set 14 (.val e)) 3 = some (.str [a]) ∧ gV ((wipeE ((wipeE r [13]).set 13 (.val d)) [14]).set 14 (.val e)) 4 = some (.str [b]) ∧ gV ((wipeE r [13]).set 13 (.val d)) 13 = some d) :
    fComp (fItems (fUn (fldD 1 0) (fV 10))) 13 [13] fYes (fL (fComp (fItems (fV 13)) 14 [14] fYes (fCall r__law_swapped (fCons (fV 14) (fCons (fV 3) (fCons (fV 4) fNil)))))) r = some ((rows.map fun q => q.map fun t => t.map (sw a b)).map rowD) := by
  rw [e_fComp (items := rows.map rowD) (h := by rw [e_fItems, h10]; rfl) (hl := by rw [List.length_map]; omega)]
  refine comp_map rowD rowD (fun q => q.map fun t => t.map (sw a b)) rows fun q hq => ?_
  have hc : fComp (fItems (fV 13)) 14 [14] fYes (fCall r__law_swapped (fCons (fV 14) (fCons (fV 3) (fCons (fV 4) fNil)))) ((wipeE r [13]).set 13 (.val (rowD q))) = some ((q.map fun t => t.map (sw a b)).map Dt.str) := by
    rw [e_fComp (items := q.map Dt.str) (h := by rw [e_fItems, e_fV, (hw (rowD q) d).2.2.2]; rfl) (hl := by have := (h2 q hq).1; rw [List.length_map]; omega)]
    refine comp_map Dt.str Dt.str (fun t => t.map (sw a b)) q fun t ht => ?_
    obtain ⟨w1, w2, w3, _⟩ := hw (rowD q) (.str t)
    rw [e_fCall, e_fCons, e_fV, w1, e_fCons, e_fV, w2, e_fCons, e_fV, w3]
    exact swapped_ok a b t (by have := (h2 q hq).2 t ht; omega)
  rw [e_fL, hc]
  rfl
theorem lw_1 {ns : List Int} {by_ : Nat} {t : List Nat} {a b : Nat} (hx : ExOk a b) (ht : t.length ≤ 50) (g : good t) (hb : by_ ≤ 1000) (k : Nat) (hk : k < 3) (x6 x7 x8 x9 x10 x11 x12 x13 x14 x15 : Sl) :
    ∃ y7 y8 y9 y10 y11 y12 y13 y14, turnO (tNm 6) L_law_1 (.int k) (lwEnv ns by_ t a b x6 x7 x8 x9 x10 x11 x12 x13 x14 x15) = some (.nx (lwEnv ns by_ t a b (.val (.int k)) y7 y8 y9 y10 y11 y12 y13 y14 x15)) := by
  obtain ⟨M, hm, hM⟩ := manner_ok ns (by_ + k) (by omega)
  have hM' : r__law_manner [.scr ns, .int (by_ + k)] = some (mnD M) := hM
  have hm2 := hx.m M hm
  have g2 := good_map hx g
  have hr := read_ok hm (t := t) (by omega) g
  have hr2 := read_ok hm2 (t := t.map (sw a b)) (by rw [List.length_map]; omega) g2
  have hrd := rd_sw hx.s M t
  obtain ⟨v, e1, f1⟩ := far_ok hm (w := 2) (by decide) (by decide) (t := t.take 12) (by rw [List.length_take]; omega) (good_take _ g)
  obtain ⟨u, e2, f2⟩ := far_ok hm2 (w := 2) (by decide) (by decide) (t := (t.map (sw a b)).take 12) (by rw [List.length_take]; omega) (good_take _ g2)
  have hvu : v.1 = u.1 := by
    have f2' : Fewest (fMn (sw a b) M) 2 ((t.take 12).map (sw a b)) u := by rw [List.map_take]; exact f2
    exact few_sw hx.s f1 f2'
  have e1' : r_far [.str (t.take 12), mnD M, .int 2] = some (.int v.1) := e1
  have e2' : r_far [.str ((t.map (sw a b)).take 12), mnD (fMn (sw a b) M), .int 2] = some (.int v.1) := by rw [hvu]; exact e2
  have c1 : cutL t none (some (12 : Int)) = t.take 12 := cut_to t 12
  have c2 : cutL (t.map (sw a b)) none (some (12 : Int)) = (t.map (sw a b)).take 12 := cut_to _ 12
  refine ⟨.val (mnD M), .val (mnD (fMn (sw a b) M)), x9, .val (ansD (rd M t)), .val (ansD (rd (fMn (sw a b) M) (t.map (sw a b)))), (match rd M t with | .ok rows => .val (tabD (rowsF (sw a b) rows)) | .error _ => x12), x13, x14, ?_⟩
  show L_law_1 (lwEnv ns by_ t a b (.val (.int k)) x7 x8 x9 x10 x11 x12 x13 x14 x15) = _
  have s1 : fSet 7 (fCall r__law_manner (fCons (fV 0) (fCons (fOp addD (fV 1) (fV 6)) fNil))) (lwEnv ns by_ t a b (.val (.int k)) x7 x8 x9 x10 x11 x12 x13 x14 x15) = some (.nx (lwEnv ns by_ t a b (.val (.int k)) (.val (mnD M)) x8 x9 x10 x11 x12 x13 x14 x15)) := by
    simp [lwEnv, hM']
  have s2 : fSet 8 (fCall tupleD (fCons (fL (fComp (fItems (fV 7)) 9 [9] fYes (fCall r__law_swapped (fCons (fV 9) (fCons (fV 3) (fCons (fV 4) fNil)))))) fNil)) (lwEnv ns by_ t a b (.val (.int k)) (.val (mnD M)) x8 x9 x10 x11 x12 x13 x14 x15) = some (.nx (lwEnv ns by_ t a b (.val (.int k)) (.val (mnD M)) (.val (mnD (fMn (sw a b) M))) x9 x10 x11 x12 x13 x14 x15)) := by
    rw [e_fSet, part_comp (mn_ok hm) (a := a) (b := b) _ rfl (fun d => ⟨rfl, rfl, rfl⟩)]
    rfl
  have s3 : fPar [10, 11] [.v (fCall r_read (fCons (fV 2) (fCons (fV 7) fNil))), .v (fCall r_read (fCons (fV 5) (fCons (fV 8) fNil)))] (lwEnv ns by_ t a b (.val (.int k)) (.val (mnD M)) (.val (mnD (fMn (sw a b) M))) x9 x10 x11 x12 x13 x14 x15) = some (.nx (lwEnv ns by_ t a b (.val (.int k)) (.val (mnD M)) (.val (mnD (fMn (sw a b) M))) x9 (.val (ansD (rd M t))) (.val (ansD (rd (fMn (sw a b) M) (t.map (sw a b))))) x12 x13 x14 x15)) := by
    simp only [lwEnv, e_fPar, e_fMs_v, e_fMs_nil, e_fCall, e_fCons, e_fNil, e_fV, gV_succ, gV_zero, bO_some, Option.map_some, hr, hr2]
    rfl
  have s7 : (fIfS (asB (fOp neD (fCall r_far (fCons (fSlice (fV 2) oNo (oSo (fC (.int 12)))) (fCons (fV 7) (fCons (fC (.int 2)) fNil)))) (fCall r_far (fCons (fSlice (fV 5) oNo (oSo (fC (.int 12)))) (fCons (fV 8) (fCons (fC (.int 2)) fNil)))))) (fRet (fC (.bl false))) fNext) (lwEnv ns by_ t a b (.val (.int k)) (.val (mnD M)) (.val (mnD (fMn (sw a b) M))) x9 (.val (ansD (rd M t))) (.val (ansD (rd (fMn (sw a b) M) (t.map (sw a b))))) (match rd M t with | .ok rows => .val (tabD (rowsF (sw a b) rows)) | .error _ => x12) x13 x14 x15) = some (.nx (lwEnv ns by_ t a b (.val (.int k)) (.val (mnD M)) (.val (mnD (fMn (sw a b) M))) x9 (.val (ansD (rd M t))) (.val (ansD (rd (fMn (sw a b) M) (t.map (sw a b))))) (match rd M t with | .ok rows => .val (tabD (rowsF (sw a b) rows)) | .error _ => x12) x13 x14 x15)) := by
    have d1 : sliceD (.str t) none (some 12) = some (.str (t.take 12)) := by rw [sliceD_s _ _ _ (by omega), c1]
    have d2 : sliceD (.str (t.map (sw a b))) none (some 12) = some (.str ((t.map (sw a b)).take 12)) := by rw [sliceD_s _ _ _ (by rw [List.length_map]; omega), c2]
    simp only [lwEnv, e_fIfS, e_asB, e_fOp, e_fCall, e_fCons, e_fNil, e_fV, e_fC, e_fSlice, e_oNo, e_oSo, intO_s, frzE_cons, frz1_val, gV_succ, gV_zero, bO_some, Option.map_some, d1, d2, e1', e2', neD_i, decide_true, Bool.not_true, blO_some, ifO_f, e_fNext]
  unfold L_law_1
  rw [e_fSeq, s1, seqO_nx, e_fSeq, s2, seqO_nx, e_fSeq, s3, seqO_nx]
  cases hrt : rd M t with
  | error p =>
    rw [hrt] at hrd
    rw [hrt] at s7
    rw [hrd] at s7 ⊢
    dsimp only at s7 ⊢
    have b1 : isiD sub [ansD (.error p), .cls 2] = some (.bl true) := rfl
    have b2 : isiD sub [ansD (.error p), .cls 1] = some (.bl false) := rfl
    have b3 : fldD 2 0 (ansD (.error p)) = some (.int p) := fldD_0 _ _ _
    have n1 : neD (.bl true) (.bl true) = some (.bl false) := rfl
    have s4 : (fIfS (asB (fOp neD (fCall (isiD sub) (fCons (fV 10) (fCons (fC (.cls 2)) fNil))) (fCall (isiD sub) (fCons (fV 11) (fCons (fC (.cls 2)) fNil))))) (fRet (fC (.bl false))) fNext) (lwEnv ns by_ t a b (.val (.int k)) (.val (mnD M)) (.val (mnD (fMn (sw a b) M))) x9 (.val (ansD (.error p))) (.val (ansD (.error p))) x12 x13 x14 x15) = some (.nx (lwEnv ns by_ t a b (.val (.int k)) (.val (mnD M)) (.val (mnD (fMn (sw a b) M))) x9 (.val (ansD (.error p))) (.val (ansD (.error p))) x12 x13 x14 x15)) := by
      simp only [lwEnv, e_fIfS, e_asB, e_fOp, e_fCall, e_fCons, e_fNil, e_fV, e_fC, frzE_cons, frz1_val, gV_succ, gV_zero, bO_some, Option.map_some, b1, n1, blO_some, ifO_f, e_fNext]
    have s5 : (fIfS (fAnd (asB (fCall (isiD sub) (fCons (fV 10) (fCons (fC (.cls 2)) fNil)))) (asB (fOp neD (fUn (fldD 2 0) (fV 10)) (fUn (fldD 2 0) (fV 11))))) (fRet (fC (.bl false))) fNext) (lwEnv ns by_ t a b (.val (.int k)) (.val (mnD M)) (.val (mnD (fMn (sw a b) M))) x9 (.val (ansD (.error p))) (.val (ansD (.error p))) x12 x13 x14 x15) = some (.nx (lwEnv ns by_ t a b (.val (.int k)) (.val (mnD M)) (.val (mnD (fMn (sw a b) M))) x9 (.val (ansD (.error p))) (.val (ansD (.error p))) x12 x13 x14 x15)) := by
      simp only [lwEnv, e_fIfS, e_fAnd, e_asB, e_fOp, e_fUn, e_fCall, e_fCons, e_fNil, e_fV, e_fC, frzE_cons, frz1_val, gV_succ, gV_zero, bO_some, Option.map_some, b1, b3, neD_i, decide_true, Bool.not_true, blO_some, andO_t, ifO_f, e_fNext]
    rw [e_fSeq, s4, seqO_nx, e_fSeq, s5, seqO_nx, e_fSeq]
    have s6 : ∀ X : PL.Env → Option Out, (fIfS (asB (fCall (isiD sub) (fCons (fV 10) (fCons (fC (.cls 1)) fNil)))) X fNext) (lwEnv ns by_ t a b (.val (.int k)) (.val (mnD M)) (.val (mnD (fMn (sw a b) M))) x9 (.val (ansD (.error p))) (.val (ansD (.error p))) x12 x13 x14 x15) = some (.nx (lwEnv ns by_ t a b (.val (.int k)) (.val (mnD M)) (.val (mnD (fMn (sw a b) M))) x9 (.val (ansD (.error p))) (.val (ansD (.error p))) x12 x13 x14 x15)) := fun X => by
      simp only [lwEnv, e_fIfS, e_asB, e_fCall, e_fCons, e_fNil, e_fV, e_fC, frzE_cons, frz1_val, gV_succ, gV_zero, bO_some, Option.map_some, b2, blO_some, ifO_f, e_fNext]
    rw [s6, seqO_nx]
    exact s7
  | ok rows =>
    rw [hrt] at hrd
    rw [hrt] at s7
    rw [hrd] at s7 ⊢
    dsimp only at s7 ⊢
    have gr := rd_good g hrt
    have gr2 := goodR_map hx gr
    have b1 : ∀ rows, isiD sub [ansD (.ok rows), .cls 2] = some (.bl false) := fun _ => rfl
    have b2 : isiD sub [ansD (.ok rows), .cls 1] = some (.bl true) := rfl
    have b3 : ∀ rows, fldD 1 0 (ansD (.ok rows)) = some (tabD rows) := fun _ => fldD_0 _ _ _
    have n1 : neD (.bl false) (.bl false) = some (.bl false) := rfl
    have n2 : neD (tabD (rowsF (sw a b) rows)) (tabD (rowsF (sw a b) rows)) = some (.bl false) := by rw [ne_tab gr2 gr2, decide_eq_true rfl]; rfl
    have s4 : (fIfS (asB (fOp neD (fCall (isiD sub) (fCons (fV 10) (fCons (fC (.cls 2)) fNil))) (fCall (isiD sub) (fCons (fV 11) (fCons (fC (.cls 2)) fNil))))) (fRet (fC (.bl false))) fNext) (lwEnv ns by_ t a b (.val (.int k)) (.val (mnD M)) (.val (mnD (fMn (sw a b) M))) x9 (.val (ansD (.ok rows))) (.val (ansD (.ok (rowsF (sw a b) rows)))) x12 x13 x14 x15) = some (.nx (lwEnv ns by_ t a b (.val (.int k)) (.val (mnD M)) (.val (mnD (fMn (sw a b) M))) x9 (.val (ansD (.ok rows))) (.val (ansD (.ok (rowsF (sw a b) rows)))) x12 x13 x14 x15)) := by
      simp only [lwEnv, e_fIfS, e_asB, e_fOp, e_fCall, e_fCons, e_fNil, e_fV, e_fC, frzE_cons, frz1_val, gV_succ, gV_zero, bO_some, Option.map_some, b1, n1, blO_some, ifO_f, e_fNext]
    have s5 : ∀ X : PL.Env → Option Bool, (fIfS (fAnd (asB (fCall (isiD sub) (fCons (fV 10) (fCons (fC (.cls 2)) fNil)))) X) (fRet (fC (.bl false))) fNext) (lwEnv ns by_ t a b (.val (.int k)) (.val (mnD M)) (.val (mnD (fMn (sw a b) M))) x9 (.val (ansD (.ok rows))) (.val (ansD (.ok (rowsF (sw a b) rows)))) x12 x13 x14 x15) = some (.nx (lwEnv ns by_ t a b (.val (.int k)) (.val (mnD M)) (.val (mnD (fMn (sw a b) M))) x9 (.val (ansD (.ok rows))) (.val (ansD (.ok (rowsF (sw a b) rows)))) x12 x13 x14 x15)) := fun X => by
      simp only [lwEnv, e_fIfS, e_fAnd, e_asB, e_fCall, e_fCons, e_fNil, e_fV, e_fC, frzE_cons, frz1_val, gV_succ, gV_zero, bO_some, Option.map_some, b1, blO_some, andO_f, ifO_f, e_fNext]
    rw [e_fSeq, s4, seqO_nx, e_fSeq, s5, seqO_nx, e_fSeq, e_fIfS]
    have h6 : (asB (fCall (isiD sub) (fCons (fV 10) (fCons (fC (.cls 1)) fNil)))) (frzE (lwEnv ns by_ t a b (.val (.int k)) (.val (mnD M)) (.val (mnD (fMn (sw a b) M))) x9 (.val (ansD (.ok rows))) (.val (ansD (.ok (rowsF (sw a b) rows)))) x12 x13 x14 x15)) = some true := by
      simp only [lwEnv, e_asB, e_fCall, e_fCons, e_fNil, e_fV, e_fC, frzE_cons, frz1_val, gV_succ, gV_zero, bO_some, Option.map_some, b2, blO_some]
    have hcomp := rows_comp (a := a) (b := b) (rows := rows) (by have := rd_rows hrt; omega) (fun r hr => ⟨by have := (rd_full hrt r hr).2; omega, fun c hc => by have := rd_cells hrt r hr c hc; omega⟩) (lwEnv ns by_ t a b (.val (.int k)) (.val (mnD M)) (.val (mnD (fMn (sw a b) M))) x9 (.val (ansD (.ok rows))) (.val (ansD (.ok (rowsF (sw a b) rows)))) x12 x13 x14 x15) .non (b3 rows) (fun d e => ⟨rfl, rfl, rfl, rfl⟩)
    rw [h6, ifO_t, e_fSeq, e_fSet, e_fL, hcomp]
    show seqO (seqO (some (.nx (lwEnv ns by_ t a b (.val (.int k)) (.val (mnD M)) (.val (mnD (fMn (sw a b) M))) x9 (.val (ansD (.ok rows))) (.val (ansD (.ok (rowsF (sw a b) rows)))) (.val (tabD (rowsF (sw a b) rows))) x13 x14 x15))) _) _ = _
    have s8 : (fIfS (asB (fOp neD (fUn (fldD 1 0) (fV 11)) (fV 12))) (fRet (fC (.bl false))) fNext) (lwEnv ns by_ t a b (.val (.int k)) (.val (mnD M)) (.val (mnD (fMn (sw a b) M))) x9 (.val (ansD (.ok rows))) (.val (ansD (.ok (rowsF (sw a b) rows)))) (.val (tabD (rowsF (sw a b) rows))) x13 x14 x15) = some (.nx (lwEnv ns by_ t a b (.val (.int k)) (.val (mnD M)) (.val (mnD (fMn (sw a b) M))) x9 (.val (ansD (.ok rows))) (.val (ansD (.ok (rowsF (sw a b) rows)))) (.val (tabD (rowsF (sw a b) rows))) x13 x14 x15)) := by
      simp only [lwEnv, e_fIfS, e_asB, e_fOp, e_fUn, e_fV, frzE_cons, frz1_val, gV_succ, gV_zero, bO_some, b3, n2, blO_some, ifO_f, e_fNext]
    rw [seqO_nx, s8, seqO_nx]
    exact s7
def mkey (M : Mn) : KS := [[M.m], M.q, M.e]
theorem keysD_mns : ∀ Ms : List Mn, keysD (Ms.map mnD) = some (Ms.map mkey)
  | [] => rfl
  | M :: Ms => by
    rw [List.map_cons, keysD, keysD_mns Ms]
    rfl
theorem sortD_mns (Ms : List Mn) : sortD [.lst (Ms.map mnD)] = some (.lst ((sortK (Ms.map mkey)).map tupK)) := by
  show (keysD (Ms.map mnD)).map _ = _
  rw [keysD_mns]
  rfl
theorem sortK_same {l m : List KS} (h : l.Perm m) : sortK l = sortK m := sd_uniq (sortK_sd l) (sortK_sd m) ((sortK_perm l).trans (h.trans (sortK_perm m).symm))
theorem ne_sorted {Ms : List Mn} (h : ∀ M ∈ Ms, M ∈ mns) : neD (.lst ((sortK (Ms.map mkey)).map tupK)) (.lst ((sortK (Ms.map mkey)).map tupK)) = some (.bl false) := by
  have hok : okD 9 (.lst ((sortK (Ms.map mkey)).map tupK)) = true := by
    show ((sortK (Ms.map mkey)).map tupK).all (okD 8) = true
    rw [List.all_map, List.all_eq_true]
    intro k hk
    obtain ⟨M, hM, rfl⟩ := List.mem_map.mp ((sortK_perm _).mem_iff.mp hk)
    have hk := mn_ok (h M hM)
    show ((mkey M).map Dt.str).all (okD 7) = true
    unfold mkey
    simp only [List.map_cons, List.map_nil, List.all_cons, List.all_nil, Bool.and_true]
    rw [okD_str (good_one hk.m), okD_str hk.q, okD_str hk.e]
    rfl
  show (if okD 9 (.lst ((sortK (Ms.map mkey)).map tupK)) = true ∧ okD 9 (.lst ((sortK (Ms.map mkey)).map tupK)) = true then some (Dt.bl (!eqF 9 (.lst ((sortK (Ms.map mkey)).map tupK)) (.lst ((sortK (Ms.map mkey)).map tupK)))) else none) = _
  rw [if_pos ⟨hok, hok⟩, eqF_refl 9 _ hok]
  rfl
theorem lw_2 {ns : List Int} {by_ : Nat} {t : List Nat} {a b : Nat} (hx : ExOk a b) (ht : t.length ≤ 50) (g : good t) (hb : by_ ≤ 1000) (x3 x4 x5 x6 x7 x8 x9 x10 x11 x12 x13 x14 x15 : Sl) :
    ∃ y5 y6 y7 y8 y9 y10 y11 y12 y13 y14 y15, turnO (tTp [3, 4]) L_law_2 (.tup [.str [a], .str [b]]) [.val (.scr ns), .val (.int by_), .val (.str t), x3, x4, x5, x6, x7, x8, x9, x10, x11, x12, x13, x14, x15] = some (.nx [.val (.scr ns), .val (.int by_), .val (.str t), .val (.str [a]), .val (.str [b]), y5, y6, y7, y8, y9, y10, y11, y12, y13, y14, y15]) := by
  obtain ⟨r', el, y6, y7, y8, y9, y10, y11, y12, y13, y14, rfl⟩ := loop_inv (t := tNm 6) (b := L_law_1) (fun r => ∃ y6 y7 y8 y9 y10 y11 y12 y13 y14, r = lwEnv ns by_ t a b y6 y7 y8 y9 y10 y11 y12 y13 y14 x15) (rangeL 0 1 3) (lwEnv ns by_ t a b x6 x7 x8 x9 x10 x11 x12 x13 x14 x15)
    (fun x hx' r ⟨y6, y7, y8, y9, y10, y11, y12, y13, y14, er⟩ => by
      obtain ⟨j, hj, rfl⟩ := range_mem hx'
      rw [er, show ((0 : Int) + (j : Int) * 1) = (j : Int) by omega]
      obtain ⟨z7, z8, z9, z10, z11, z12, z13, z14, e⟩ := lw_1 (ns := ns) hx ht g hb j hj y6 y7 y8 y9 y10 y11 y12 y13 y14 x15
      exact ⟨_, .inl e, _, _, _, _, _, _, _, _, _, rfl⟩) ⟨x6, x7, x8, x9, x10, x11, x12, x13, x14, rfl⟩
  have hs := swapped_ok a b t (by omega)
  have hf := fitting_ok (t := t) (by omega) g
  have hf2 := fitting_ok (t := t.map (sw a b)) (by rw [List.length_map]; omega) (good_map hx g)
  have hfm : ∀ t, ∀ M ∈ fitL t, M ∈ mns := fun t M h => (List.mem_filter.mp h).1
  have hfl : ∀ t, (fitL t).length ≤ 24 := fun t => by
    have := List.length_filter_le (fitB t) mns
    rw [mns_len] at this
    exact this
  have hd1 := sortD_mns ((fitL t).map (fMn (sw a b)))
  have hd2 := sortD_mns (fitL (t.map (sw a b)))
  have hsame : sortK (((fitL t).map (fMn (sw a b))).map mkey) = sortK ((fitL (t.map (sw a b))).map mkey) := sortK_same ((fitL_sw hx t).map mkey)
  rw [hsame] at hd1
  have hne := ne_sorted (hfm (t.map (sw a b)))
  have s1 : fSet 5 (fCall r__law_swapped (fCons (fV 2) (fCons (fV 3) (fCons (fV 4) fNil)))) [.val (.scr ns), .val (.int by_), .val (.str t), .val (.str [a]), .val (.str [b]), x5, x6, x7, x8, x9, x10, x11, x12, x13, x14, x15] = some (.nx (lwEnv ns by_ t a b x6 x7 x8 x9 x10 x11 x12 x13 x14 x15)) := by
    simp only [lwEnv, e_fSet, e_fCall, e_fCons, e_fNil, e_fV, gV_succ, gV_zero, bO_some, Option.map_some, hs]
    rfl
  have s2 : (fFor (fArgs rng1 (fCons (fC (.int 3)) fNil)) (tNm 6) L_law_1) (lwEnv ns by_ t a b x6 x7 x8 x9 x10 x11 x12 x13 x14 x15) = some (.nx (lwEnv ns by_ t a b y6 y7 y8 y9 y10 y11 y12 y13 y14 x15)) := el
  have hc : fComp (fItems (fCall r_fitting (fCons (fV 2) fNil))) 7 [7] fYes (fCall tupleD (fCons (fL (fComp (fItems (fV 7)) 9 [9] fYes (fCall r__law_swapped (fCons (fV 9) (fCons (fV 3) (fCons (fV 4) fNil)))))) fNil)) (lwEnv ns by_ t a b y6 y7 y8 y9 y10 y11 y12 y13 y14 x15) = some (((fitL t).map (fMn (sw a b))).map mnD) := by
    rw [e_fComp (items := (fitL t).map mnD) (h := by simp only [lwEnv, e_fItems, e_fCall, e_fCons, e_fNil, e_fV, gV_succ, gV_zero, bO_some, Option.map_some, hf, itemsD_l]) (hl := by rw [List.length_map]; have := hfl t; omega)]
    exact comp_map mnD mnD (fMn (sw a b)) (fitL t) fun M hM => part_comp (mn_ok (hfm t M hM)) (a := a) (b := b) _ rfl (fun d => ⟨rfl, rfl, rfl⟩)
  have s3 : fSet 15 (fCall sortD (fCons (fL (fComp (fItems (fCall r_fitting (fCons (fV 2) fNil))) 7 [7] fYes (fCall tupleD (fCons (fL (fComp (fItems (fV 7)) 9 [9] fYes (fCall r__law_swapped (fCons (fV 9) (fCons (fV 3) (fCons (fV 4) fNil)))))) fNil)))) fNil)) (lwEnv ns by_ t a b y6 y7 y8 y9 y10 y11 y12 y13 y14 x15) = some (.nx (lwEnv ns by_ t a b y6 y7 y8 y9 y10 y11 y12 y13 y14 (.val (.lst ((sortK ((fitL (t.map (sw a b))).map mkey)).map tupK))))) := by
    rw [e_fSet, e_fCall, e_fCons, e_fL, hc]
    show (sortD [.lst (((fitL t).map (fMn (sw a b))).map mnD)]).map _ = _
    rw [hd1]
    rfl
  have s4 : (fIfS (asB (fOp neD (fCall sortD (fCons (fCall r_fitting (fCons (fV 5) fNil)) fNil)) (fV 15))) (fRet (fC (.bl false))) fNext) (lwEnv ns by_ t a b y6 y7 y8 y9 y10 y11 y12 y13 y14 (.val (.lst ((sortK ((fitL (t.map (sw a b))).map mkey)).map tupK)))) = some (.nx (lwEnv ns by_ t a b y6 y7 y8 y9 y10 y11 y12 y13 y14 (.val (.lst ((sortK ((fitL (t.map (sw a b))).map mkey)).map tupK))))) := by
    simp only [lwEnv, e_fIfS, e_asB, e_fOp, e_fCall, e_fCons, e_fNil, e_fV, frzE_cons, frz1_val, gV_succ, gV_zero, bO_some, Option.map_some, hf2, hd2, hne, blO_some, ifO_f, e_fNext]
  refine ⟨.val (.str (t.map (sw a b))), y6, y7, y8, y9, y10, y11, y12, y13, y14, .val (.lst ((sortK ((fitL (t.map (sw a b))).map mkey)).map tupK)), ?_⟩
  · show L_law_2 [.val (.scr ns), .val (.int by_), .val (.str t), .val (.str [a]), .val (.str [b]), x5, x6, x7, x8, x9, x10, x11, x12, x13, x14, x15] = _
    unfold L_law_2
    rw [e_fSeq, s1, seqO_nx, e_fSeq, s2, seqO_nx, e_fSeq, s3, seqO_nx, s4]
    rfl
theorem lw_3 {ns : List Int} (k : Nat) (hk : k ≤ 1000) (x1 x2 x3 x4 x5 x6 x7 x8 x9 x10 x11 x12 x13 x14 x15 : Sl) :
    ∃ y1 y2 y3 y4 y5 y6 y7 y8 y9 y10 y11 y12 y13 y14 y15, turnO (tNm 1) L_law_3 (.int k) [.val (.scr ns), x1, x2, x3, x4, x5, x6, x7, x8, x9, x10, x11, x12, x13, x14, x15] = some (.nx [.val (.scr ns), y1, y2, y3, y4, y5, y6, y7, y8, y9, y10, y11, y12, y13, y14, y15]) := by
  obtain ⟨t, et, ht, g⟩ := text_ok ns k 50 hk
  have et' : r__law_text [.scr ns, .int k, .int 50] = some (.str t) := et
  obtain ⟨r', el, y3, y4, y5, y6, y7, y8, y9, y10, y11, y12, y13, y14, y15, rfl⟩ := loop_inv (t := tTp [3, 4]) (b := L_law_2) (fun r => ∃ y3 y4 y5 y6 y7 y8 y9 y10 y11 y12 y13 y14 y15, r = [.val (.scr ns), .val (.int k), .val (.str t), y3, y4, y5, y6, y7, y8, y9, y10, y11, y12, y13, y14, y15]) (exs.map fun x => .tup [.str [x.1], .str [x.2]]) [.val (.scr ns), .val (.int k), .val (.str t), x3, x4, x5, x6, x7, x8, x9, x10, x11, x12, x13, x14, x15]
    (fun x hx r ⟨y3, y4, y5, y6, y7, y8, y9, y10, y11, y12, y13, y14, y15, er⟩ => by
      obtain ⟨p, hp, rfl⟩ := List.mem_map.mp hx
      rw [er]
      obtain ⟨z5, z6, z7, z8, z9, z10, z11, z12, z13, z14, z15, e⟩ := lw_2 (ns := ns) (ex_ok hp) ht g hk y3 y4 y5 y6 y7 y8 y9 y10 y11 y12 y13 y14 y15
      exact ⟨_, .inl e, _, _, _, _, _, _, _, _, _, _, _, _, _, rfl⟩) ⟨x3, x4, x5, x6, x7, x8, x9, x10, x11, x12, x13, x14, x15, rfl⟩
  refine ⟨.val (.int k), .val (.str t), y3, y4, y5, y6, y7, y8, y9, y10, y11, y12, y13, y14, y15, ?_⟩
  simp only [exs, List.map_cons, List.map_nil] at el
  simp [turnO, L_law_3, et', fLst, el]
theorem plain (ns : List Int) (hn : ns.length ≤ 63) : r_law [.scr ns] = some (.bl true) := by
  refine run_rt rfl ?_
  have hA : (⟨59, [], []⟩ : Mn) ∈ mns := by decide
  have hB : (⟨44, [], []⟩ : Mn) ∈ mns := by decide
  have e1 : r_read [.str [97, 59, 98, 10], .tup [.str [59], .str [], .str []]] = some (ansD (.ok [[[97], [98]]])) := read_ok (M := ⟨59, [], []⟩) hA (t := [97, 59, 98, 10]) (by decide) (by unfold good; decide)
  have e2 : r_read [.str [97, 44, 98, 10], .tup [.str [44], .str [], .str []]] = some (ansD (.ok [[[97], [98]]])) := read_ok (M := ⟨44, [], []⟩) hB (t := [97, 44, 98, 10]) (by decide) (by unfold good; decide)
  have b3 : fldD 1 0 (ansD (.ok [[[97], [98]]])) = some (tabD [[[97], [98]]]) := fldD_0 _ _ _
  have gg : goodR [[[97], [98]]] := by unfold goodR good; decide
  have n2 : eqD (tabD [[[97], [98]]]) (tabD [[[97], [98]]]) = some (.bl true) := by rw [eqD_tab gg gg, decide_eq_true rfl]
  obtain ⟨items, hit, hmem⟩ : ∃ items, rng3 [.int 0, .int (if (if (ns.length : Int) < 9 then (ns.length : Int) else 9) > 1 then (if (ns.length : Int) < 9 then (ns.length : Int) else 9) else 1), .int 3] = some items ∧ ∀ x ∈ items, ∃ j : Nat, j ≤ 1000 ∧ x = .int j := by
    refine ⟨_, rng3_i _ _ _ (by omega) (by omega) (by split <;> (try split) <;> omega) (by split <;> (try split) <;> omega) (by omega) (by omega), fun x hx => ?_⟩
    obtain ⟨j, hj, rfl⟩ := range_mem hx
    refine ⟨j * 3, ?_, by simp⟩
    have : (if (if (ns.length : Int) < 9 then (ns.length : Int) else 9) > 1 then (if (ns.length : Int) < 9 then (ns.length : Int) else 9) else 1) ≤ 9 := by split <;> (try split) <;> omega
    generalize (if (if (ns.length : Int) < 9 then (ns.length : Int) else 9) > 1 then (if (ns.length : Int) < 9 then (ns.length : Int) else 9) else 1) = u at hj this
    split at hj <;> omega
  obtain ⟨r', el, y1, y2, y3, y4, y5, y6, y7, y8, y9, y10, y11, y12, y13, y14, y15, rfl⟩ := loop_inv (t := tNm 1) (b := L_law_3) (fun r => ∃ y1 y2 y3 y4 y5 y6 y7 y8 y9 y10 y11 y12 y13 y14 y15, r = [.val (.scr ns), y1, y2, y3, y4, y5, y6, y7, y8, y9, y10, y11, y12, y13, y14, y15]) items [.val (.scr ns), .no, .no, .no, .no, .no, .no, .no, .no, .no, .no, .no, .no, .no, .no, .no]
      (fun x hx r ⟨y1, y2, y3, y4, y5, y6, y7, y8, y9, y10, y11, y12, y13, y14, y15, er⟩ => by
        obtain ⟨j, hj, rfl⟩ := hmem x hx
        rw [er]
        obtain ⟨z1, z2, z3, z4, z5, z6, z7, z8, z9, z10, z11, z12, z13, z14, z15, e⟩ := lw_3 (ns := ns) j hj y1 y2 y3 y4 y5 y6 y7 y8 y9 y10 y11 y12 y13 y14 y15
        exact ⟨_, .inl e, _, _, _, _, _, _, _, _, _, _, _, _, _, _, _, rfl⟩) ⟨.no, .no, .no, .no, .no, .no, .no, .no, .no, .no, .no, .no, .no, .no, .no, rfl⟩
  simp only [gt_iff_lt] at hit
  simp (disch := omega) [b_law, hit, el, e1, e2, b3, n2, -rng3_i]
end W

open PySem PySem.W PyProof.Rows
set_option maxHeartbeats 0 in
theorem PySem.Challenge.cw_tablemanners_k10_whole_exchanged_holds : PySem.Challenge.rw_tablemanners_k10_whole_exchanged.Holds := by
  w_on; o_law; k_head; (case hw => w_witness2)
  k_fill
  refine L2.walk_of (l := PySem.Challenge.rw_tablemanners_k10_whole_exchanged) (n := 63) (k := 6) (x := "_law_script") (CX := fun _ => L2.CX0) (sp := fun w => W.spLaw _) rfl (by decide) rfl ⟨rfl, by decide, by decide⟩ (fun w h Y => PySem.W.kIn_of Y) ?F (fun _ _ a ns hl _ hS => ⟨a, ns, rfl, hS, hl, fun _ => rfl⟩) (fun _ _ _ _ _ h => h)
  case F =>
    intro w mg fa h KX G hmg
    refine' W.all_mk W.plain KX G hmg ?C0 ?C1 ?C2 ?a0 ?l0 ?c0c ?k0 ?a1 ?l1 ?c1c ?k1 ?a2 ?l2 ?c2c ?k2 ?a3 ?l3 ?c3c ?k3 ?a4 ?l4 ?c4c ?k4 ?a5 ?l5 ?c5c ?k5 ?a6 ?l6 ?c6c ?k6 ?a7 ?l7 ?c7c ?k7 ?a8 ?l8 ?c8c ?k8 ?a9 ?l9 ?c9c ?k9 ?a10 ?l10 ?c10c ?k10 ?a11 ?l11 ?c11c ?k11 ?a12 ?i12 ?l12 ?c12c ?k12 ?a13 ?i13 ?l13 ?c13c ?k13 ?a14 ?l14 ?c14c ?k14 ?a15 ?l15 ?c15c ?k15 ?a16 ?l16 ?c16c ?k16 ?a17 ?l17 ?c17c ?k17 ?a18 ?l18 ?c18c ?k18 ?a19 ?l19 ?c19c ?k19 ?a20 ?l20 ?c20c ?k20 ?a21 ?l21 ?c21c ?k21 ?a22 ?l22 ?c22c ?k22 ?a23 ?l23 ?c23c ?k23 ?a24 ?l24 ?c24c ?k24 ?a25 ?l25 ?c25c ?k25 ?a26 ?l26 ?c26c ?k26 ?a27 ?l27 ?c27c ?k27 ?a28 ?l28 ?c28c ?k28 ?a29 ?l29 ?c29c ?k29 ?a30 ?l30 ?c30c ?k30 ?a31 ?l31 ?c31c ?k31 ?a32 ?l32 ?c32c ?k32 ?a33 ?l33 ?c33c ?k33 ?pg1 ?hd1 ?po1 ?sa1 ?mk1 ?kc1 ?ha1 ?mr1 ?na1_0 ?pg2 ?hd2 ?po2 ?sa2 ?mk2 ?kc2 ?ha2 ?mr2 ?na2_0 ?kt1_0 ?kt1_1 ?kt1_2 ?kt2_0 ?kt2_1 ?kt2_2 ?gt ?tk ?z_all ?z_bool ?z_enumerate ?z_int ?z_isinstance ?z_len ?z_list ?z_max ?z_min ?z_range ?z_sorted ?z_str ?z_tuple ?q_AFTER ?q_BARE ?q_CELL ?q_ESCAPED ?q_ESCAPES ?h_ESCAPES ?v_ESCAPES ?q_LONGEST_manners ?q_LONGEST_mending ?q_MARKS ?h_MARKS ?v_MARKS ?q_MOST_CELLS ?q_QUOTED ?q_QUOTES ?h_QUOTES ?v_QUOTES ?q_ROW ?q_SIGNS ?v_SIGNS
    (case C0 => k_is)
    (case C1 => k_is)
    (case C2 => k_is)
    (case a0 => k_is)
    (case l0 => k_is)
    (case c0c => k_is)
    (case k0 => k_is)
    (case a1 => k_is)
    (case l1 => k_is)
    (case c1c => k_is)
    (case k1 => k_is)
    (case a2 => k_is)
    (case l2 => k_is)
    (case c2c => k_is)
    (case k2 => k_is)
    (case a3 => k_is)
    (case l3 => k_is)
    (case c3c => k_is)
    (case k3 => k_is)
    (case a4 => k_is)
    (case l4 => k_is)
    (case c4c => k_is)
    (case k4 => k_is)
    (case a5 => k_is)
    (case l5 => k_is)
    (case c5c => k_is)
    (case k5 => k_is)
    (case a6 => k_is)
    (case l6 => k_is)
    (case c6c => k_is)
    (case k6 => k_is)
    (case a7 => k_is)
    (case l7 => k_is)
    (case c7c => k_is)
    (case k7 => k_is)
    (case a8 => k_is)
    (case l8 => k_is)
    (case c8c => k_is)
    (case k8 => k_is)
    (case a9 => k_is)
    (case l9 => k_is)
    (case c9c => k_is)
    (case k9 => k_is)
    (case a10 => k_is)
    (case l10 => k_is)
    (case c10c => k_is)
    (case k10 => k_is)
    (case a11 => k_is)
    (case l11 => k_is)
    (case c11c => k_is)
    (case k11 => k_is)
    (case a12 => k_is)
    (case i12 => k_is)
    (case l12 => k_is)
    (case c12c => k_is)
    (case k12 => k_is)
    (case a13 => k_is)
    (case i13 => k_is)
    (case l13 => k_is)
    (case c13c => k_is)
    (case k13 => k_is)
    (case a14 => k_is)
    (case l14 => k_is)
    (case c14c => k_is)
    (case k14 => k_is)
    (case a15 => k_is)
    (case l15 => k_is)
    (case c15c => k_is)
    (case k15 => k_is)
    (case a16 => k_is)
    (case l16 => k_is)
    (case c16c => k_is)
    (case k16 => k_is)
    (case a17 => k_is)
    (case l17 => k_is)
    (case c17c => k_is)
    (case k17 => k_is)
    (case a18 => k_is)
    (case l18 => k_is)
    (case c18c => k_is)
    (case k18 => k_is)
    (case a19 => k_is)
    (case l19 => k_is)
    (case c19c => k_is)
    (case k19 => k_is)
    (case a20 => k_is)
    (case l20 => k_is)
    (case c20c => k_is)
    (case k20 => k_is)
    (case a21 => k_is)
    (case l21 => k_is)
    (case c21c => k_is)
    (case k21 => k_is)
    (case a22 => k_is)
    (case l22 => k_is)
    (case c22c => k_is)
    (case k22 => k_is)
    (case a23 => k_is)
    (case l23 => k_is)
    (case c23c => k_is)
    (case k23 => k_is)
    (case a24 => k_is)
    (case l24 => k_is)
    (case c24c => k_is)
    (case k24 => k_is)
    (case a25 => k_is)
    (case l25 => k_is)
    (case c25c => k_is)
    (case k25 => k_is)
    (case a26 => k_is)
    (case l26 => k_is)
    (case c26c => k_is)
    (case k26 => k_is)
    (case a27 => k_is)
    (case l27 => k_is)
    (case c27c => k_is)
    (case k27 => k_is)
    (case a28 => k_is)
    (case l28 => k_is)
    (case c28c => k_is)
    (case k28 => k_is)
    (case a29 => k_is)
    (case l29 => k_is)
    (case c29c => k_is)
    (case k29 => k_is)
    (case a30 => k_is)
    (case l30 => k_is)
    (case c30c => k_is)
    (case k30 => k_is)
    (case a31 => k_is)
    (case l31 => k_is)
    (case c31c => k_is)
    (case k31 => k_is)
    (case a32 => k_is)
    (case l32 => k_is)
    (case c32c => k_is)
    (case k32 => k_is)
    (case a33 => k_is)
    (case l33 => k_is)
    (case c33c => k_is)
    (case k33 => k_is)
    (case pg1 => k_is)
    (case hd1 => k_is)
    (case po1 => k_is)
    (case sa1 => k_is)
    (case mk1 => k_is)
    (case kc1 => k_is)
    (case ha1 => k_is)
    (case mr1 => k_is)
    (case na1_0 => k_is)
    (case pg2 => k_is)
    (case hd2 => k_is)
    (case po2 => k_is)
    (case sa2 => k_is)
    (case mk2 => k_is)
    (case kc2 => k_is)
    (case ha2 => k_is)
    (case mr2 => k_is)
    (case na2_0 => k_is)
    (case kt1_0 => kit_is)
    (case kt1_1 => kit_is)
    (case kt1_2 => kit_is)
    (case kt2_0 => kit_is)
    (case kt2_1 => kit_is)
    (case kt2_2 => kit_is)
    (case gt => k_is)
    (case tk => k_is)
    (case z_all => k_is)
    (case z_bool => k_is)
    (case z_enumerate => k_is)
    (case z_int => k_is)
    (case z_isinstance => k_is)
    (case z_len => k_is)
    (case z_list => k_is)
    (case z_max => k_is)
    (case z_min => k_is)
    (case z_range => k_is)
    (case z_sorted => k_is)
    (case z_str => k_is)
    (case z_tuple => k_is)
    (case q_AFTER => k_is)
    (case q_BARE => k_is)
    (case q_CELL => k_is)
    (case q_ESCAPED => k_is)
    (case q_ESCAPES => k_is)
    (case h_ESCAPES => k_is)
    (case v_ESCAPES => first | rfl | kernel_rfl | decide +kernel)
    (case q_LONGEST_manners => k_is)
    (case q_LONGEST_mending => k_is)
    (case q_MARKS => k_is)
    (case h_MARKS => k_is)
    (case v_MARKS => first | rfl | kernel_rfl | decide +kernel)
    (case q_MOST_CELLS => k_is)
    (case q_QUOTED => k_is)
    (case q_QUOTES => k_is)
    (case h_QUOTES => k_is)
    (case v_QUOTES => first | rfl | kernel_rfl | decide +kernel)
    (case q_ROW => k_is)
    (case q_SIGNS => k_is)
    (case v_SIGNS => first | rfl | kernel_rfl | decide +kernel)
#print axioms PySem.Challenge.cw_tablemanners_k10_whole_exchanged_holds

