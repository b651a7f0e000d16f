import PyProof.Rows.All
import Wide.All
import OpenK.AllK
import Wide.FinOn
import HandS.ForMost
import HandS.ForExc
import HandS.Walk
import HandS.CallSlots
import HandS.Flow
import HandS.Defaults
import HandS.TupAny
import HandS.TupLe
import HandS.Deep
import HandS.IsInst
import HandS.HeadHook2
import HandS.Zip
import HandS.Rev
import HandS.More
import HandS.Sort
import HandS.SortOrd
import HandS.Strs
import HandS.HeadEnd
import HandS.ExcIs
import HandS.TryMany
import HandS.SortRule
import HandS.SortInts
import KE.KStateDown
import HandS.Head0
import HandS.Head1
import HandS.Head2
import HandS.HeadHook1
import HandS.Style
import HandS.SetFor
import HandS.Conv
import KE.KTupSum
import KE.DataMinMax
import KE.GoesMore
import HandS.Text
import HandS.Replace
import HandS.FStr
import HandS.ExcInit
import HandS.ExcField
import HandS.ClsMeth
import PySem.Challenge.RW_degreechoices_k18_text
set_option Elab.async false
set_option linter.all false
set_option maxRecDepth 100000
set_option maxHeartbeats 4000000
/-! The value layer: what a piece of the program is worth as a plain function of data. -/
namespace DL
open PySem L2

/-- an attribute: data, or a list of one's own -/
inductive Fd where
  | dat (d : PyData)
  | own (ds : List PyData)
/-- a thing of one's own that is no list: a dict whose keys are tuples of whole numbers; an instance of the class at C -/
inductive OB where
  | dic (ks : List (List Int × PyData))
  | dicL (ks : List (List Int × PyData))
  | ins (C : Addr) (fs : List (Str × Fd))
/-- what a slot holds: nothing that is known, data that stays, a list of one's own that may be changed -/
inductive Sl where
  | un
  | dat (d : PyData)
  | own (ds : List PyData)
  | obj (o : OB)
abbrev En := List Sl

/-- what is wished of an exception, by its class's name -/
abbrev WN := Str → Option Addr → L2.St → Hp → Prop
/-- an end of an expression -/
inductive R (α : Type) where
  | ok (a : α)
  | exc (c : Str) (fs : Option (List (Str × PyData)))
  | bad
def R.bind {α β : Type} (r : R α) (f : α → R β) : R β := match r with
  | .ok a => f a
  | .exc c fs => .exc c fs
  | .bad => .bad
def R.map {α β : Type} (r : R α) (f : α → β) : R β := match r with
  | .ok a => .ok (f a)
  | .exc c fs => .exc c fs
  | .bad => .bad

/-- an end of a statement -/
inductive O where
  | nx (r : En)
  | rt (d : PyData)
  | bk (r : En)
  | ct (r : En)
  | exc (c : Str) (fs : Option (List (Str × PyData))) (r : En)
  | bad
def O.seq (o : O) (f : En → O) : O := match o with
  | .nx r => f r
  | o => o
/-- an expression's end carried into a statement -/
def R.toO {α : Type} (r : R α) (e : En) (f : α → O) : O := match r with
  | .ok a => f a
  | .exc c fs => .exc c fs e
  | .bad => .bad
theorem R.bind_ok {α β : Type} (a : α) (f : α → R β) : (R.ok a).bind f = f a := rfl
theorem R.bind_exc {α β : Type} (c : Str) (fs : Option (List (Str × PyData))) (f : α → R β) : (R.exc c fs : R α).bind f = .exc c fs := rfl
theorem R.bind_bad {α β : Type} (f : α → R β) : (R.bad : R α).bind f = .bad := rfl
theorem R.toO_ok {α : Type} (a : α) (e : En) (f : α → O) : (R.ok a).toO e f = f a := rfl
theorem R.toO_exc {α : Type} (c : Str) (fs : Option (List (Str × PyData))) (e : En) (f : α → O) : (R.exc c fs : R α).toO e f = .exc c fs e := rfl
theorem R.toO_bad {α : Type} (e : En) (f : α → O) : (R.bad : R α).toO e f = .bad := rfl
theorem O.seq_nx (r : En) (f : En → O) : (O.nx r).seq f = f r := rfl
theorem O.seq_rt (d : PyData) (f : En → O) : (O.rt d).seq f = .rt d := rfl
theorem O.seq_bk (r : En) (f : En → O) : (O.bk r).seq f = .bk r := rfl
theorem O.seq_ct (r : En) (f : En → O) : (O.ct r).seq f = .ct r := rfl
theorem O.seq_exc (c : Str) (fs : Option (List (Str × PyData))) (r : En) (f : En → O) : (O.exc c fs r).seq f = .exc c fs r := rfl
theorem O.seq_bad (f : En → O) : O.bad.seq f = .bad := rfl

/-! ### heaps -/
/-! the value v is the datum d, all its parts tracked in G -/
mutual
inductive De (G : Hp) : V → PyData → Prop
  | non : De G .non .none
  | bl (b : Bool) : De G (.bl b) (.bool b)
  | int (i : Int) : De G (.int i) (.int i)
  | str (x : Str) : De G (.str x) (.str x)
  | lst {a : Addr} {xs : List V} {ds : List PyData} : Rd G a (.lst xs) → DeAll G xs ds → De G (.ref a) (.list ds)
  | tup {a : Addr} {xs : List V} {ds : List PyData} : G a = some (.tup xs) → DeAll G xs ds → De G (.ref a) (.tuple ds)
inductive DeAll (G : Hp) : List V → List PyData → Prop
  | nil : DeAll G [] []
  | cons {v : V} {vs : List V} {d : PyData} {ds : List PyData} : De G v d → DeAll G vs ds → DeAll G (v :: vs) (d :: ds)
end
theorem rdm {G G' : Hp} {a : Addr} {u : HO} (s : Same G G') (h : Rd G a u) : Rd G' a u := by
  rcases h with h | ⟨o, h⟩
  · exact .inl (s _ _ h)
  · exact .inr ⟨o, s _ _ h⟩
mutual
theorem dm {G G' : Hp} (s : Same G G') : ∀ {d : PyData} {v : V}, De G v d → De G' v d
  | _, _, .non => .non
  | _, _, .bl b => .bl b
  | _, _, .int i => .int i
  | _, _, .str x => .str x
  | _, _, .lst h ha => .lst (rdm s h) (dam s ha)
  | _, _, .tup h ha => .tup (s _ _ h) (dam s ha)
theorem dam {G G' : Hp} (s : Same G G') : ∀ {ds : List PyData} {vs : List V}, DeAll G vs ds → DeAll G' vs ds
  | _, _, .nil => .nil
  | _, _, .cons h t => .cons (dm s h) (dam s t)
end
mutual
theorem De.dp {K : PySem.W.Frag} {G : Hp} : ∀ {d : PyData} {v : V}, De G v d → Dp K G v d
  | _, _, .non => .non
  | _, _, .bl b => .bl b
  | _, _, .int i => .int i
  | _, _, .str x => .str x
  | _, _, .lst h ha => .lst (.inl h) (DeAll.dp ha)
  | _, _, .tup h ha => .tup (.inl (.inl h)) (DeAll.dp ha)
theorem DeAll.dp {K : PySem.W.Frag} {G : Hp} : ∀ {ds : List PyData} {vs : List V}, DeAll G vs ds → DpAll K G vs ds
  | _, _, .nil => .nil
  | _, _, .cons h t => .cons (De.dp h) (DeAll.dp t)
end
theorem Same.new {H : Hp} {p : Addr} {o : HO} (h : H p = none) : Same H (upd H p o) := fun a u e => by
  rw [upd_ne (ne_of_none e h)]
  exact e

/-- from (G, H) to (G', H'): nothing is changed; what is new in G' is new in H' -/
structure Ext (G H G' H' : Hp) : Prop where
  hh : Same H H'
  gg : Same G G'
  gh : Same G' H'
  new : ∀ a o, G' a = some o → G a = some o ∨ H a = none ∨ ∃ xs, o = .tup xs
theorem Ext.refl {G H : Hp} (s : Same G H) : Ext G H G H := ⟨Same.refl H, Same.refl G, s, fun _ _ e => .inl e⟩
theorem Ext.trans {G H G1 H1 G2 H2 : Hp} (a : Ext G H G1 H1) (b : Ext G1 H1 G2 H2) : Ext G H G2 H2 :=
  ⟨a.hh.trans b.hh, a.gg.trans b.gg, b.gh, fun x o e => by
    rcases b.new x o e with h | h | h
    · exact a.new x o h
    · exact .inr (.inl (a.hh.free h))
    · exact .inr (.inr h)⟩
/-- a new object, kept as data -/
theorem Ext.laid {G H : Hp} {p : Addr} {o : HO} (s : Same G H) (h : H p = none) : Ext G H (upd G p o) (upd H p o) :=
  ⟨Same.new h, Same.new (s.free h), fun a u e => by
    by_cases q : a = p
    · subst q
      rw [upd_same] at e ⊢
      exact e
    · rw [upd_ne q] at e ⊢
      exact s a u e, fun a u e => by
    by_cases q : a = p
    · subst q
      exact .inr (.inl h)
    · rw [upd_ne q] at e
      exact .inl e⟩
/-- a new object, not data yet -/
theorem Ext.fresh {G H : Hp} {p : Addr} {o : HO} (s : Same G H) (h : H p = none) : Ext G H G (upd H p o) :=
  ⟨Same.new h, Same.refl G, s.trans (Same.new h), fun _ _ e => .inl e⟩

/-- things of one's own: what they are made of -/
def FdR (G H : Hp) : V → Fd → List Addr → Prop
  | v, .dat d, L => De G v d ∧ L = []
  | v, .own ds, L => ∃ p vs, v = .ref p ∧ H p = some (.lst vs) ∧ DeAll G vs ds ∧ L = [p]
inductive FdA (G H : Hp) : List (Str × V) → List (Str × Fd) → List Addr → Prop
  | nil : FdA G H [] [] []
  | cons {f : Str} {v : V} {vs : List (Str × V)} {d : Fd} {ds : List (Str × Fd)} {L M : List Addr} : FdR G H v d L → FdA G H vs ds M → (∀ a ∈ L, a ∉ M) → FdA G H ((f, v) :: vs) ((f, d) :: ds) (L ++ M)
inductive DcA (G : Hp) : List (List Key × V) → List (List Int × PyData) → Prop
  | nil : DcA G [] []
  | cons {k : List Int} {v : V} {d : PyData} {kvs : List (List Key × V)} {ks : List (List Int × PyData)} : De G v d → DcA G kvs ks → DcA G ((k.map Sum.inl, v) :: kvs) ((k, d) :: ks)
def ObR (G H : Hp) : OB → V → List Addr → Prop
  | .dic ks, v, L => ∃ p kvs, v = .ref p ∧ L = [p] ∧ H p = some (.dT kvs) ∧ DcA G kvs ks
  | .dicL ks, v, L => ∃ p kvs u, v = .ref p ∧ L = [p] ∧ H p = some (.frz u (.dT kvs)) ∧ DcA G kvs ks
  | .ins C fs, v, L => ∃ a dx vs M, v = .ref a ∧ H a = some (.ins C dx vs) ∧ H dx = some (.own a) ∧ dx ≠ a ∧ FdA G H vs fs M ∧ L = a :: dx :: M ∧ a ∉ M ∧ dx ∉ M
theorem FdR.keep {G G' H H' : Hp} {v : V} {d : Fd} {L : List Addr} (h : FdR G H v d L) (g : Same G G') (k : ∀ a ∈ L, ∀ o, H a = some o → H' a = some o) : FdR G' H' v d L := by
  cases d with
  | dat d => exact ⟨dm g h.1, h.2⟩
  | own ds =>
    obtain ⟨p, vs, h1, h2, h3, h4⟩ := h
    exact ⟨p, vs, h1, k p (by rw [h4]; exact List.mem_cons_self) _ h2, dam g h3, h4⟩
theorem FdA.keep {G G' H H' : Hp} {vs : List (Str × V)} {ds : List (Str × Fd)} {L : List Addr} (h : FdA G H vs ds L) (g : Same G G') (k : ∀ a ∈ L, ∀ o, H a = some o → H' a = some o) : FdA G' H' vs ds L := by
  induction h with
  | nil => exact .nil
  | cons h1 _ h3 ih => exact .cons (h1.keep g fun a m => k a (List.mem_append_left _ m)) (ih fun a m => k a (List.mem_append_right _ m)) h3
theorem DcA.keep {G G' : Hp} {kvs : List (List Key × V)} {ks : List (List Int × PyData)} (h : DcA G kvs ks) (g : Same G G') : DcA G' kvs ks := by
  induction h with
  | nil => exact .nil
  | cons h1 _ ih => exact .cons (dm g h1) ih
theorem ObR.keep {G G' H H' : Hp} {o : OB} {v : V} {L : List Addr} (h : ObR G H o v L) (g : Same G G') (k : ∀ a ∈ L, ∀ u, H a = some u → H' a = some u) : ObR G' H' o v L := by
  cases o with
  | dic ks =>
    obtain ⟨p, kvs, h1, h2, h3, h4⟩ := h
    exact ⟨p, kvs, h1, h2, k p (by rw [h2]; exact List.mem_cons_self) _ h3, h4.keep g⟩
  | dicL ks =>
    obtain ⟨p, kvs, u, h1, h2, h3, h4⟩ := h
    exact ⟨p, kvs, u, h1, h2, k p (by rw [h2]; exact List.mem_cons_self) _ h3, h4.keep g⟩
  | ins C fs =>
    obtain ⟨a, dx, vs, M, h1, h2, h3, h4, h5, h6, h7, h8⟩ := h
    refine ⟨a, dx, vs, M, h1, k a (by rw [h6]; exact List.mem_cons_self) _ h2, k dx (by rw [h6]; exact List.mem_cons_of_mem _ List.mem_cons_self) _ h3, h4, h5.keep g fun b m => k b (by rw [h6]; exact List.mem_cons_of_mem _ (List.mem_cons_of_mem _ m)), h6, h7, h8⟩
theorem FdR.part {G H : Hp} {v : V} {d : Fd} {L : List Addr} (h : FdR G H v d L) : ∀ a ∈ L, ∃ xs, H a = some (.lst xs) := by
  intro a m
  cases d with
  | dat d => rw [h.2] at m; cases m
  | own ds =>
    obtain ⟨p, vs, _, h2, _, h4⟩ := h
    rw [h4] at m
    rw [List.mem_singleton.mp m]
    exact ⟨vs, h2⟩
/-- no tuple is among the parts -/
theorem FdA.part {G H : Hp} {vs : List (Str × V)} {ds : List (Str × Fd)} {L : List Addr} (h : FdA G H vs ds L) : ∀ a ∈ L, ∃ xs, H a = some (.lst xs) := by
  induction h with
  | nil => intro a m; cases m
  | cons h1 _ _ ih =>
    intro a m
    rcases List.mem_append.mp m with m | m
    · exact h1.part a m
    · exact ih a m
theorem ObR.part {G H : Hp} {o : OB} {v : V} {L : List Addr} (h : ObR G H o v L) : ∀ a ∈ L, ∃ u, H a = some u ∧ ∀ xs, u ≠ .tup xs := by
  cases o with
  | dic ks =>
    obtain ⟨p, kvs, h1, h2, h3, h4⟩ := h
    intro a m
    rw [h2] at m
    rw [List.mem_singleton.mp m]
    exact ⟨_, h3, fun _ e => nomatch e⟩
  | dicL ks =>
    obtain ⟨p, kvs, u, h1, h2, h3, h4⟩ := h
    intro a m
    rw [h2] at m
    rw [List.mem_singleton.mp m]
    exact ⟨_, h3, fun _ e => nomatch e⟩
  | ins C fs =>
    obtain ⟨a, dx, vs, M, h1, h2, h3, h4, h5, h6, h7, h8⟩ := h
    intro b m
    rw [h6] at m
    rcases List.mem_cons.mp m with rfl | m
    · exact ⟨_, h2, fun _ e => nomatch e⟩
    · rcases List.mem_cons.mp m with rfl | m
      · exact ⟨_, h3, fun _ e => nomatch e⟩
      · obtain ⟨xs, e⟩ := h5.part b m
        exact ⟨_, e, fun _ e => nomatch e⟩
/-- the things of one's own, apart from each other and from all else -/
structure Obs (F G : Hp) (r : En) (σ : St) (H : Hp) (fp : Nat → List Addr) : Prop where
  at_ : ∀ (i : Nat) o, r[i]? = some (.obj o) → ∃ v, σ[i]? = some (some v) ∧ ObR G H o v (fp i)
  nG : ∀ (i : Nat) o, r[i]? = some (.obj o) → ∀ a ∈ fp i, G a = none
  nF : ∀ (i : Nat) o, r[i]? = some (.obj o) → ∀ a ∈ fp i, F a = none
  sep : ∀ (i j : Nat) o u, i ≠ j → r[i]? = some (.obj o) → r[j]? = some (.obj u) → ∀ a ∈ fp i, a ∉ fp j
  own : ∀ (i j : Nat) o ds p, r[i]? = some (.obj o) → r[j]? = some (.own ds) → σ[j]? = some (some (.ref p)) → p ∉ fp i
structure Rep (F G : Hp) (r : En) (σ : St) (H : Hp) : Prop where
  sub : Same G H
  fr : ∀ a o, F a = some o → H a = some o ∧ (G a = none ∨ ∃ xs, o = .tup xs)
  len : r.length = σ.length
  dat : ∀ (i : Nat) d, r[i]? = some (.dat d) → ∃ v, σ[i]? = some (some v) ∧ De G v d
  own : ∀ (i : Nat) ds, r[i]? = some (.own ds) → ∃ p vs, σ[i]? = some (some (.ref p)) ∧ H p = some (.lst vs) ∧ G p = none ∧ F p = none ∧ DeAll G vs ds
  sep : ∀ (i j : Nat) ds es p, i ≠ j → r[i]? = some (.own ds) → r[j]? = some (.own es) → σ[i]? = some (some (.ref p)) → σ[j]? ≠ some (some (.ref p))
  obj : ∃ fp, Obs F G r σ H fp
theorem Obs.alter {F G G' H H' : Hp} {r r' : En} {σ σ' : St} {fp : Nat → List Addr} (h : Obs F G r σ H fp) (g : Same G G') (ho : ∀ (j : Nat) o, r'[j]? = some (.obj o) → r[j]? = some (.obj o) ∧ σ'[j]? = σ[j]?)
    (hg : ∀ (j : Nat) o, r[j]? = some (.obj o) → ∀ a ∈ fp j, G' a = none) (hk : ∀ (j : Nat) o, r[j]? = some (.obj o) → ∀ a ∈ fp j, ∀ u, H a = some u → H' a = some u)
    (hw : ∀ (j : Nat) ds p, r'[j]? = some (.own ds) → σ'[j]? = some (some (.ref p)) → ∀ (i : Nat) o, r[i]? = some (.obj o) → p ∉ fp i) : Obs F G' r' σ' H' fp where
  at_ := fun i o q => by
    obtain ⟨q1, q2⟩ := ho i o q
    obtain ⟨v, h1, h2⟩ := h.at_ i o q1
    exact ⟨v, by rw [q2]; exact h1, h2.keep g (hk i o q1)⟩
  nG := fun i o q => hg i o (ho i o q).1
  nF := fun i o q => h.nF i o (ho i o q).1
  sep := fun i j o u ne q1 q2 => h.sep i j o u ne (ho i o q1).1 (ho j u q2).1
  own := fun i j o ds p q1 q2 q3 => hw j ds p q2 q3 i o (ho i o q1).1
theorem Obs.extG {F G G' H H' : Hp} {r : En} {σ : St} {fp : Nat → List Addr} (h : Obs F G r σ H fp) (e : Ext G H G' H') : ∀ (j : Nat) o, r[j]? = some (.obj o) → ∀ a ∈ fp j, G' a = none := fun j o q a m => by
  cases z : G' a with
  | none => rfl
  | some u =>
    obtain ⟨v, _, h2⟩ := h.at_ j o q
    obtain ⟨w, p1, p2⟩ := h2.part a m
    rcases e.new a u z with y | y | ⟨xs, y⟩
    · rw [h.nG j o q a m] at y; cases y
    · rw [p1] at y; cases y
    · have := e.gh a u z
      rw [e.hh a w p1] at this
      cases this
      exact absurd y (p2 xs)
theorem Rep.ext {F G G' H H' : Hp} {r : En} {σ : St} (h : Rep F G r σ H) (e : Ext G H G' H') : Rep F G' r σ H' where
  sub := e.gh
  fr := fun a o q => by
    obtain ⟨h1, h2⟩ := h.fr a o q
    refine ⟨e.hh a o h1, ?_⟩
    cases z : G' a with
    | none => exact .inl rfl
    | some u =>
      rcases h2 with h2 | h2
      · rcases e.new a u z with y | y | ⟨xs, y⟩
        · rw [h2] at y; cases y
        · rw [h1] at y; cases y
        · have := e.gh a u z
          rw [e.hh a o h1] at this
          cases this
          exact .inr ⟨xs, y⟩
      · exact .inr h2
  len := h.len
  dat := fun i d q => by
    obtain ⟨v, h1, h2⟩ := h.dat i d q
    exact ⟨v, h1, dm e.gg h2⟩
  own := fun i ds q => by
    obtain ⟨p, vs, h1, h2, h3, h4, h5⟩ := h.own i ds q
    refine ⟨p, vs, h1, e.hh _ _ h2, ?_, h4, dam e.gg h5⟩
    cases z : G' p with
    | none => rfl
    | some u =>
      rcases e.new p u z with y | y | ⟨xs, y⟩
      · rw [h3] at y; cases y
      · rw [h2] at y; cases y
      · have := e.gh p u z
        rw [e.hh p _ h2, y] at this
        cases this
  sep := h.sep
  obj := by
    obtain ⟨fp, hf⟩ := h.obj
    exact ⟨fp, hf.alter e.gg (fun j o q => ⟨q, rfl⟩) (hf.extG e) (fun j o q a m u z => e.hh a u z) fun j ds p q1 q2 i o q3 => hf.own i j o ds p q3 q1 q2⟩

/-! ### the three ways to have a value: data that stays; a thing to look at now; a new list of one's own -/
abbrev Post := Hp → Hp → Hp → Hp → V → PyData → Prop
def RBv (G H : Hp) (v : V) (d : PyData) : Prop := De G v d ∨ ∃ p vs ds, v = .ref p ∧ H p = some (.lst vs) ∧ d = .list ds ∧ DeAll G vs ds
theorem RBv.ext {G H G' H' : Hp} {v : V} {d : PyData} (h : RBv G H v d) (e : Ext G H G' H') : RBv G' H' v d := by
  rcases h with h | ⟨p, vs, ds, h1, h2, h3, h4⟩
  · exact .inl (dm e.gg h)
  · exact .inr ⟨p, vs, ds, h1, e.hh _ _ h2, h3, dam e.gg h4⟩
theorem RBv.de {G H : Hp} {v : V} {d : PyData} (h : RBv G H v d) (s : Same G H) : De H v d := by
  rcases h with h | ⟨p, vs, ds, rfl, h2, rfl, h4⟩
  · exact dm s h
  · exact .lst (.inl h2) (dam s h4)
def pE : Post := fun _ _ G' _ v d => De G' v d
def pB : Post := fun _ _ G' H' v d => RBv G' H' v d
def pO : Post := fun _ H G' H' v d => ∃ p vs ds, v = .ref p ∧ d = .list ds ∧ H p = none ∧ G' p = none ∧ H' p = some (.lst vs) ∧ DeAll G' vs ds
/-- the exception's own fields -/
def XR (G H : Hp) (x : Option Addr) : Option (List (Str × PyData)) → Prop
  | none => x = none
  | some fs => ∃ a vs, x = some a ∧ H a = some (.xd vs) ∧ Paired (fun (p : Str × V) (q : Str × PyData) => p.1 = q.1 ∧ De G p.2 q.2) vs fs

/-- the reading t, at (σ, H) with the data G, comes to the end r -/
def Sd (P : Post) (W : WN) (t : TE) (σ : St) (G H : Hp) : R PyData → Prop
  | .ok d => ∀ Q : VK, (∀ v G' H', Ext G H G' H' → P G H G' H' v d → Q v H') → t σ H Q
  | .exc c fs => (∀ x G' H', Ext G H G' H' → XR G' H' x fs → W c x σ H') → ∀ Q : VK, t σ H Q
  | .bad => True
structure Vx (P : Post) (X : Cx) (W : WN) (e : Expr) (t : TE) (f : En → R PyData) : Prop where
  pe : PE X e t
  so : ∀ F G r σ H, Rep F G r σ H → Sd P W t σ G H (f r)
abbrev VE (X : Cx) := Vx pE X
abbrev VB (X : Cx) := Vx pB X
abbrev VO (X : Cx) := Vx pO X
section
variable {X : Cx} {W : WN} {e : Expr} {t : TE} {f : En → R PyData}
theorem Sd.imp {P P' : Post} {σ : St} {G H : Hp} {r : R PyData} (h : Sd P W t σ G H r) (i : ∀ G' H' v d, Ext G H G' H' → P G H G' H' v d → ∃ G2, Ext G H G2 H' ∧ P' G H G2 H' v d) : Sd P' W t σ G H r := by
  cases r with
  | ok d =>
    intro Q q
    refine h Q fun v G' H' e p => ?_
    obtain ⟨G2, e2, p2⟩ := i G' H' v d e p
    exact q v G2 H' e2 p2
  | exc c fs => exact h
  | bad => trivial
theorem Vx.b (h : VE X W e t f) : VB X W e t f := ⟨h.pe, fun F G r σ H q => (h.so F G r σ H q).imp fun G' H' v d e p => ⟨G', e, .inl p⟩⟩
theorem Vx.ob (h : VO X W e t f) : VB X W e t f := ⟨h.pe, fun F G r σ H q => (h.so F G r σ H q).imp fun G' H' v d e ⟨p, vs, ds, h1, h2, h3, h4, h5, h6⟩ => ⟨G', e, .inr ⟨p, vs, ds, h1, h5, h2, h6⟩⟩⟩
theorem Vx.fz (h : VO X W e t f) : VE X W e t f := ⟨h.pe, fun F G r σ H q => (h.so F G r σ H q).imp fun G' H' v d e ⟨p, vs, ds, h1, h2, h3, h4, h5, h6⟩ => by
  subst h1 h2
  refine ⟨upd G' p (.lst vs), ⟨e.hh, e.gg.trans (Same.new h4), fun a o z => ?_, fun a o z => ?_⟩, .lst (.inl upd_same) (dam (Same.new h4) h6)⟩
  · by_cases y : a = p
    · subst y
      rw [upd_same] at z
      rw [h5]; exact z
    · rw [upd_ne y] at z
      exact e.gh a o z
  · by_cases y : a = p
    · subst y
      exact .inr (.inl h3)
    · rw [upd_ne y] at z
      exact e.new a o z⟩
end
end DL
namespace DL
open PySem L2

/-! ### what stands behind a datum -/
section
variable {G H : Hp} {v : V}
theorem RBv.non (h : RBv G H v .none) : v = .non := by
  rcases h with h | ⟨_, _, _, _, _, h, _⟩
  · cases h; rfl
  · cases h
theorem RBv.bl {b : Bool} (h : RBv G H v (.bool b)) : v = .bl b := by
  rcases h with h | ⟨_, _, _, _, _, h, _⟩
  · cases h; rfl
  · cases h
theorem RBv.int {i : Int} (h : RBv G H v (.int i)) : v = .int i := by
  rcases h with h | ⟨_, _, _, _, _, h, _⟩
  · cases h; rfl
  · cases h
theorem RBv.str {x : Str} (h : RBv G H v (.str x)) : v = .str x := by
  rcases h with h | ⟨_, _, _, _, _, h, _⟩
  · cases h; rfl
  · cases h
theorem RBv.tup {ds : List PyData} (h : RBv G H v (.tuple ds)) : ∃ a vs, v = .ref a ∧ Rd G a (.tup vs) ∧ DeAll G vs ds := by
  rcases h with h | ⟨_, _, _, _, _, h, _⟩
  · cases h with
    | tup h1 h2 => exact ⟨_, _, rfl, .inl h1, h2⟩
  · cases h
theorem RBv.tupX {ds : List PyData} (h : RBv G H v (.tuple ds)) : ∃ a vs, v = .ref a ∧ G a = some (.tup vs) ∧ DeAll G vs ds := by
  rcases h with h | ⟨_, _, _, _, _, h, _⟩
  · cases h with
    | tup h1 h2 => exact ⟨_, _, rfl, h1, h2⟩
  · cases h
theorem RBv.lst {ds : List PyData} (h : RBv G H v (.list ds)) (s : Same G H) : ∃ a vs, v = .ref a ∧ Rd H a (.lst vs) ∧ DeAll G vs ds := by
  rcases h with h | ⟨p, vs, es, h1, h2, h3, h4⟩
  · cases h with
    | lst h1 h2 => exact ⟨_, _, rfl, rdm s h1, h2⟩
  · cases h3
    exact ⟨p, vs, h1, .inl h2, h4⟩
end
theorem DeAll.len {G : Hp} : ∀ {vs : List V} {ds : List PyData}, DeAll G vs ds → vs.length = ds.length
  | _, _, .nil => rfl
  | _, _, .cons _ t => congrArg (· + 1) (DeAll.len t)
theorem DeAll.get {G : Hp} : ∀ {vs : List V} {ds : List PyData} {i : Nat} {d : PyData}, DeAll G vs ds → ds[i]? = some d → ∃ v, vs[i]? = some v ∧ De G v d
  | _, _, _, _, .nil, e => by simp at e
  | _, _, 0, _, .cons h _, e => by
    have e2 := Option.some.inj (show some _ = some _ from e)
    subst e2
    exact ⟨_, rfl, h⟩
  | _, _, i + 1, _, .cons _ t, e => DeAll.get (i := i) t e
theorem DeAll.getV {G : Hp} : ∀ {vs : List V} {ds : List PyData} {i : Nat} {v : V}, DeAll G vs ds → vs[i]? = some v → ∃ d, ds[i]? = some d ∧ De G v d
  | _, _, _, _, .nil, e => by simp at e
  | _, _, 0, _, .cons h _, e => by
    have e2 := Option.some.inj (show some _ = some _ from e)
    subst e2
    exact ⟨_, rfl, h⟩
  | _, _, i + 1, _, .cons _ t, e => DeAll.getV (i := i) t e
theorem DeAll.app {G : Hp} : ∀ {vs ws : List V} {ds es : List PyData}, DeAll G vs ds → DeAll G ws es → DeAll G (vs ++ ws) (ds ++ es)
  | _, _, _, _, .nil, h => h
  | _, _, _, _, .cons a t, h => .cons a (DeAll.app t h)
theorem DeAll.set {G : Hp} {v : V} {d : PyData} (h : De G v d) : ∀ {vs : List V} {ds : List PyData} (i : Nat), DeAll G vs ds → DeAll G (vs.set i v) (ds.set i d)
  | _, _, _, .nil => .nil
  | _, _, 0, .cons _ t => .cons h t
  | _, _, i + 1, .cons a t => .cons a (DeAll.set h i t)
theorem DeAll.take {G : Hp} : ∀ {vs : List V} {ds : List PyData} (n : Nat), DeAll G vs ds → DeAll G (vs.take n) (ds.take n)
  | _, _, 0, _ => .nil
  | _, _, _ + 1, .nil => .nil
  | _, _, n + 1, .cons a t => .cons a (DeAll.take n t)
theorem DeAll.drop {G : Hp} : ∀ {vs : List V} {ds : List PyData} (n : Nat), DeAll G vs ds → DeAll G (vs.drop n) (ds.drop n)
  | _, _, 0, h => h
  | _, _, _ + 1, .nil => .nil
  | _, _, n + 1, .cons _ t => DeAll.drop n t
theorem DeAll.rep {G : Hp} {vs : List V} {ds : List PyData} (h : DeAll G vs ds) : ∀ n : Nat, DeAll G (List.replicate n vs).flatten (List.replicate n ds).flatten
  | 0 => .nil
  | n + 1 => by
    rw [List.replicate_succ, List.replicate_succ, List.flatten_cons, List.flatten_cons]
    exact DeAll.app h (DeAll.rep h n)
theorem DeAll.erase {G : Hp} : ∀ {vs : List V} {ds : List PyData} (n : Nat), DeAll G vs ds → DeAll G (vs.eraseIdx n) (ds.eraseIdx n)
  | _, _, _, .nil => .nil
  | _, _, 0, .cons _ t => t
  | _, _, n + 1, .cons a t => .cons a (DeAll.erase n t)

/-! ### one reading behind another -/
def PMono (P : Post) : Prop := ∀ G H G1 H1 G2 H2 v d, Ext G H G1 H1 → P G1 H1 G2 H2 v d → P G H G2 H2 v d
theorem mE : PMono pE := fun _ _ _ _ _ _ _ _ _ h => h
theorem mB : PMono pB := fun _ _ _ _ _ _ _ _ _ h => h
theorem mO : PMono pO := fun _ _ _ _ _ _ _ _ e ⟨p, vs, ds, h1, h2, h3, h4, h5, h6⟩ => ⟨p, vs, ds, h1, h2, e.hh.free h3, h4, h5, h6⟩
theorem sd_bind {P P' : Post} {W : WN} {ta : TE} {t' : V → TE} {σ : L2.St} {G H : Hp} {ra : R PyData} {rk : PyData → R PyData} (m : PMono P') (ha : Sd P W ta σ G H ra)
    (hk : ∀ d v G1 H1, ra = .ok d → Ext G H G1 H1 → P G H G1 H1 v d → Sd P' W (t' v) σ G1 H1 (rk d)) : Sd P' W (fun σ H Q => ta σ H fun v H1 => t' v σ H1 Q) σ G H (ra.bind rk) := by
  cases ra with
  | ok d =>
    show Sd P' W _ σ G H (rk d)
    have hk := fun v G1 H1 => hk d v G1 H1 rfl
    cases e : rk d with
    | ok z =>
      rw [e] at hk
      intro Q q
      exact ha _ fun v G1 H1 e1 p1 => hk v G1 H1 e1 p1 Q fun v2 G2 H2 e2 p2 => q v2 G2 H2 (e1.trans e2) (m _ _ _ _ _ _ _ _ e1 p2)
    | exc c fs =>
      rw [e] at hk
      intro w Q
      exact ha _ fun v G1 H1 e1 p1 => hk v G1 H1 e1 p1 (fun x G2 H2 e2 p2 => w x G2 H2 (e1.trans e2) p2) Q
    | bad => trivial
  | exc c fs =>
    intro w Q
    exact ha w _
  | bad => trivial
/-- a value at once -/
theorem sd_pure {P : Post} {W : WN} {σ : L2.St} {G H : Hp} {v : V} {d : PyData} (s : Same G H) (h : P G H G H v d) : Sd P W (fun _ H Q => Q v H) σ G H (.ok d) := fun Q q => q v G H (Ext.refl s) h
/-- a new tuple -/
theorem sd_tup {W : WN} {σ : L2.St} {G H : Hp} {vs : List V} {ds : List PyData} (s : Same G H) (h : DeAll G vs ds) : Sd pE W (fun _ H Q => ∀ p, H p = none → Q (.ref p) (upd H p (.tup vs))) σ G H (.ok (.tuple ds)) := fun Q q p hp =>
  q _ _ _ (Ext.laid s hp) (.tup upd_same (dam (Same.new (s.free hp)) h))
/-- a new list, one's own -/
theorem sd_lst {W : WN} {σ : L2.St} {G H : Hp} {vs : List V} {ds : List PyData} (s : Same G H) (h : DeAll G vs ds) : Sd pO W (fun _ H Q => ∀ p, H p = none → Q (.ref p) (upd H p (.lst vs))) σ G H (.ok (.list ds)) := fun Q q p hp =>
  q _ G _ (Ext.fresh s hp) ⟨p, vs, ds, rfl, rfl, hp, s.free hp, upd_same, h⟩
theorem sd_eq {P : Post} {W : WN} {t t' : TE} {σ : L2.St} {G H : Hp} {r : R PyData} (h : Sd P W t σ G H r) (e : ∀ Q, t σ H Q → t' σ H Q) : Sd P W t' σ G H r := by
  cases r with
  | ok d => exact fun Q q => e Q (h Q q)
  | exc c fs => exact fun w Q => e Q (h w Q)
  | bad => trivial
theorem sd_of {P : Post} {W : WN} {t : TE} {σ : L2.St} {G H : Hp} {v : V} {d : PyData} (s : Same G H) (h : P G H G H v d) (k : ∀ Q : VK, Q v H → t σ H Q) : Sd P W t σ G H (.ok d) := fun Q q => k Q (q v G H (Ext.refl s) h)
theorem sd_fz {W : WN} {t : TE} {σ : L2.St} {G H : Hp} {r : R PyData} (h : Sd pO W t σ G H r) : Sd pE W t σ G H r := h.imp fun G' H' v d e ⟨p, vs, ds, h1, h2, h3, h4, h5, h6⟩ => by
  subst h1 h2
  refine ⟨upd G' p (.lst vs), ⟨e.hh, e.gg.trans (Same.new h4), fun a o z => ?_, fun a o z => ?_⟩, .lst (.inl upd_same) (dam (Same.new h4) h6)⟩
  · by_cases y : a = p
    · subst y
      rw [upd_same] at z
      rw [h5]; exact z
    · rw [upd_ne y] at z
      exact e.gh a o z
  · by_cases y : a = p
    · subst y
      exact .inr (.inl h3)
    · rw [upd_ne y] at z
      exact e.new a o z

/-! ### operations by data -/
def Op2 (P : Post) (r : R2) (g : PyData → PyData → R PyData) : Prop :=
  ∀ (W : WN) (σ : L2.St) (G H : Hp) (x y : V) (d e : PyData), Same G H → RBv G H x d → RBv G H y e → Sd P W (fun _ H Q => r x y H Q) σ G H (g d e)
section
variable {X : Cx} {W : WN} {a b c : Expr} {ta tb tc : TE} {fa fb fc : En → R PyData} {pos : Pos} {P : Post}
def b2 (fa fb : En → R PyData) (g : PyData → PyData → R PyData) : En → R PyData := fun r => (fa r).bind fun x => (fb r).bind fun y => g x y
theorem sd_op {r : R2} {g : PyData → PyData → R PyData} {σ : L2.St} {F G H : Hp} {ro : En} (m : PMono P) (hg : Op2 P r g) (ra : Rep F G ro σ H) (ha : Sd pB W ta σ G H (fa ro))
    (hb : ∀ G1 H1, Ext G H G1 H1 → Sd pB W tb σ G1 H1 (fb ro)) : Sd P W (tOp r ta tb) σ G H (b2 fa fb g ro) := by
  refine sd_bind (t' := fun x σ H1 Q => tb σ H1 fun y H2 => r x y H2 Q) m ha fun d v G1 H1 _ e1 p1 => ?_
  refine sd_bind (t' := fun y _ H2 Q => r v y H2 Q) m (hb G1 H1 e1) fun d2 v2 G2 H2 _ e2 p2 => ?_
  exact hg W σ G2 H2 v v2 d d2 e2.gh (p1.ext e2) p2
theorem vx_op {op : Operator} {r : R2} {g : PyData → PyData → R PyData} (m : PMono P) (ho : OpR X (binaryOp op) r) (hg : Op2 P r g) (ha : VB X W a ta fa) (hb : VB X W b tb fb) : Vx P X W (.BinOp a op b pos) (tOp r ta tb) (b2 fa fb g) :=
  ⟨pe_op ho ha.pe hb.pe, fun F G ro σ H q => sd_op m hg q (ha.so F G ro σ H q) fun G1 H1 e => hb.so F G1 ro σ H1 (q.ext e)⟩
theorem ve_cmp {op : CmpOp} {r : R2} {g : PyData → PyData → R PyData} (ho : OpR X (compareOp op) r) (hg : Op2 pE r g) (hm : behindInMarks op b = false) (ha : VB X W a ta fa) (hb : VB X W b tb fb) : VE X W (.Compare a [op] [b] pos) (tOp r ta tb) (b2 fa fb g) :=
  ⟨pe_cmpR ho ha.pe hb.pe hm, fun F G ro σ H q => sd_op mE hg q (ha.so F G ro σ H q) fun G1 H1 e => hb.so F G1 ro σ H1 (q.ext e)⟩
end

/-! ### tests -/
def SdT (W : WN) (t : TT) (σ : L2.St) (G H : Hp) : R Bool → Prop
  | .ok b => ∀ Q : Bool → Hp → Prop, (∀ G' H', Ext G H G' H' → Q b H') → t σ H Q
  | .exc c fs => (∀ x G' H', Ext G H G' H' → XR G' H' x fs → W c x σ H') → ∀ Q : Bool → Hp → Prop, t σ H Q
  | .bad => True
structure VT (X : Cx) (W : WN) (e : Expr) (t : TT) (f : En → R Bool) : Prop where
  pt : PT X e t
  so : ∀ F G r σ H, Rep F G r σ H → SdT W t σ G H (f r)
structure VW (X : Cx) (W : WN) (e : Expr) (t : TT) (f : En → R Bool) : Prop where
  pw : PW X e t
  so : ∀ F G r σ H, Rep F G r σ H → SdT W t σ G H (f r)
def boolD : PyData → R Bool
  | .bool b => .ok b
  | _ => .bad
def truD : PyData → R Bool
  | .none => .ok false
  | .bool b => .ok b
  | .int i => .ok (i != 0)
  | .str x => if x.length ≤ sizeLine then .ok ((x.length : Int) != 0) else .bad
  | .list ds => .ok (!ds.isEmpty)
  | .tuple ds => .ok (!ds.isEmpty)
  | .dict _ => .bad
def andR (a b : R Bool) : R Bool := a.bind fun x => if x then b else .ok false
def orR (a b : R Bool) : R Bool := a.bind fun x => if x then .ok true else b
def notR (a : R Bool) : R Bool := a.bind fun x => .ok (!x)
section
variable {X : Cx} {W : WN} {a b c e : Expr} {ta tb tc te : TE} {fa fb fc fe : En → R PyData} {pos : Pos} {P : Post} {tA tB : TT} {fA fB : En → R Bool} {rest : List Expr}
/-- a value carried into a test -/
theorem sdt_bind {t' : V → TT} {σ : L2.St} {G H : Hp} {ra : R PyData} {rk : PyData → R Bool} (ha : Sd P W ta σ G H ra)
    (hk : ∀ d v G1 H1, ra = .ok d → Ext G H G1 H1 → P G H G1 H1 v d → SdT W (t' v) σ G1 H1 (rk d)) : SdT W (fun σ H Q => ta σ H fun v H1 => t' v σ H1 Q) σ G H (ra.bind rk) := by
  cases ra with
  | ok d =>
    show SdT W _ σ G H (rk d)
    have hk := fun v G1 H1 => hk d v G1 H1 rfl
    cases e : rk d with
    | ok z =>
      rw [e] at hk
      intro Q q
      exact ha _ fun v G1 H1 e1 p1 => hk v G1 H1 e1 p1 Q fun G2 H2 e2 => q G2 H2 (e1.trans e2)
    | exc c fs =>
      rw [e] at hk
      intro w Q
      exact ha _ fun v G1 H1 e1 p1 => hk v G1 H1 e1 p1 (fun x G2 H2 e2 p2 => w x G2 H2 (e1.trans e2) p2) Q
    | bad => trivial
  | exc c fs =>
    intro w Q
    exact ha w _
  | bad => trivial
theorem sdt_bindB {t : TT} {t' : Bool → TT} {σ : L2.St} {G H : Hp} {ra : R Bool} {rk : Bool → R Bool} (ha : SdT W t σ G H ra)
    (hk : ∀ d G1 H1, ra = .ok d → Ext G H G1 H1 → SdT W (t' d) σ G1 H1 (rk d)) : SdT W (fun σ H Q => t σ H fun v H1 => t' v σ H1 Q) σ G H (ra.bind rk) := by
  cases ra with
  | ok d =>
    show SdT W _ σ G H (rk d)
    have hk := fun G1 H1 => hk d G1 H1 rfl
    cases e : rk d with
    | ok z =>
      rw [e] at hk
      intro Q q
      exact ha _ fun G1 H1 e1 => hk G1 H1 e1 Q fun G2 H2 e2 => q G2 H2 (e1.trans e2)
    | exc c fs =>
      rw [e] at hk
      intro w Q
      exact ha _ fun G1 H1 e1 => hk G1 H1 e1 (fun x G2 H2 e2 p2 => w x G2 H2 (e1.trans e2) p2) Q
    | bad => trivial
  | exc c fs =>
    intro w Q
    exact ha w _
  | bad => trivial
theorem sd_bindT {t : TT} {t' : Bool → TE} {σ : L2.St} {G H : Hp} {ra : R Bool} {rk : Bool → R PyData} (m : PMono P) (ha : SdT W t σ G H ra)
    (hk : ∀ d G1 H1, ra = .ok d → Ext G H G1 H1 → Sd P W (t' d) σ G1 H1 (rk d)) : Sd P W (fun σ H Q => t σ H fun v H1 => t' v σ H1 Q) σ G H (ra.bind rk) := by
  cases ra with
  | ok d =>
    show Sd P W _ σ G H (rk d)
    have hk := fun G1 H1 => hk d G1 H1 rfl
    cases e : rk d with
    | ok z =>
      rw [e] at hk
      intro Q q
      exact ha _ fun G1 H1 e1 => hk G1 H1 e1 Q fun v2 G2 H2 e2 p2 => q v2 G2 H2 (e1.trans e2) (m _ _ _ _ _ _ _ _ e1 p2)
    | exc c fs =>
      rw [e] at hk
      intro w Q
      exact ha _ fun G1 H1 e1 => hk G1 H1 e1 (fun x G2 H2 e2 p2 => w x G2 H2 (e1.trans e2) p2) Q
    | bad => trivial
  | exc c fs =>
    intro w Q
    exact ha w _
  | bad => trivial
theorem sdt_ok {t : TT} {σ : L2.St} {G H : Hp} {b : Bool} (s : Same G H) (k : ∀ Q : Bool → Hp → Prop, Q b H → t σ H Q) : SdT W t σ G H (.ok b) := fun Q q => k Q (q G H (Ext.refl s))

theorem tru_of {K : PySem.W.Frag} {G H : Hp} {v : V} {d : PyData} {k : Bool} (s : Same G H) (h : RBv G H v d) (e : truD d = .ok k) : TruV K v H k := by
  cases d with
  | none => rw [h.non]; cases e; rfl
  | bool b => rw [h.bl]; cases e; rfl
  | int i => rw [h.int]; cases e; rfl
  | str x =>
    rw [h.str]
    simp only [truD] at e
    split at e
    · rename_i hx
      cases e
      exact ⟨hx, rfl⟩
    · cases e
  | list ds =>
    obtain ⟨a, vs, rfl, h1, h2⟩ := h.lst s
    cases e
    refine .inl ⟨vs, .inl h1, ?_⟩
    cases h2 <;> rfl
  | tuple ds =>
    obtain ⟨a, vs, rfl, h1, h2⟩ := h.tup
    cases e
    refine .inr (.inl ⟨vs, .inl (rdm s h1), ?_⟩)
    cases h2 <;> rfl
  | dict _ => cases e
theorem truD_noexc (d : PyData) : (∃ k, truD d = .ok k) ∨ truD d = .bad := by
  cases d with
  | str x =>
    by_cases h : x.length ≤ sizeLine
    · exact .inl ⟨_, by simp only [truD]; rw [if_pos h]⟩
    · exact .inr (by simp only [truD]; rw [if_neg h])
  | dict _ => exact .inr rfl
  | _ => exact .inl ⟨_, rfl⟩
/-- an expression's truth -/
theorem vt_truth (ha : VB X W a ta fa) (he : ∀ whole, isTrue a X.env whole = (do let v ← whole; standAt a.pos; holding [v] (truthy v)) := by intro _; rfl) :
    VT X W a (fun σ H Q => ta σ H fun x H' => ∃ k, TruV X.K x H' k ∧ Q k H') (fun r => (fa r).bind truD) := by
  refine ⟨pt_truth ha.pe he, fun F G r σ H q => ?_⟩
  refine sdt_bind (t' := fun x _ H' Q => ∃ k, TruV X.K x H' k ∧ Q k H') (ha.so F G r σ H q) fun d v G1 H1 _ e1 p1 => ?_
  rcases truD_noexc d with ⟨k, e⟩ | e
  · rw [e]
    exact sdt_ok e1.gh fun Q q => ⟨k, tru_of e1.gh p1 e, q⟩
  · rw [e]
    trivial
/-- a comparison as a test -/
theorem vt_cmp {op : CmpOp} {r : R2} {g : PyData → PyData → R PyData} (ho : OpR X (compareOp op) r) (hg : Op2 pE r g) (hm : behindInMarks op b = false) (ha : VB X W a ta fa) (hb : VB X W b tb fb) :
    VT X W (.Compare a [op] [b] pos) (tTest (tOp r ta tb)) (fun ro => (b2 fa fb g ro).bind boolD) := by
  refine ⟨pt_cmpR ho ha.pe hb.pe hm, fun F G ro σ H q => ?_⟩
  refine sdt_bind (t' := fun x _ H' Q => ∃ k, x = .bl k ∧ Q k H') (sd_op (P := pE) mE hg q (ha.so F G ro σ H q) fun G1 H1 e => hb.so F G1 ro σ H1 (q.ext e)) fun d v G1 H1 _ e1 p1 => ?_
  cases d with
  | bool k =>
    cases p1
    exact sdt_ok e1.gh fun Q q => ⟨k, rfl, q⟩
  | _ => trivial
theorem VW.t (h : VW X W e tA fA) : VT X W e tA fA := ⟨h.pw.pt, h.so⟩
theorem vw_and1 (ha : VT X W a tA fA) : VW X W (.BoolOp .And [a] pos) tA fA := ⟨pw_and1 ha.pt, ha.so⟩
theorem vw_or1 (ha : VT X W a tA fA) : VW X W (.BoolOp .Or [a] pos) tA fA := ⟨pw_or1 ha.pt, ha.so⟩
theorem vw_and (ha : VT X W a tA fA) (hb : VW X W (.BoolOp .And (b :: rest) pos) tB fB) : VW X W (.BoolOp .And (a :: b :: rest) pos) (tAnd tA tB) (fun r => andR (fA r) (fB r)) := by
  refine ⟨pw_and ha.pt hb.pw, fun F G r σ H q => ?_⟩
  refine sdt_bindB (t' := fun c σ H1 Q => if c = true then tB σ H1 Q else Q false H1) (ha.so F G r σ H q) fun d G1 H1 _ e1 => ?_
  cases d with
  | true => exact hb.so F G1 r σ H1 (q.ext e1)
  | false => exact sdt_ok e1.gh fun Q q => q
theorem vw_or (ha : VT X W a tA fA) (hb : VW X W (.BoolOp .Or (b :: rest) pos) tB fB) : VW X W (.BoolOp .Or (a :: b :: rest) pos) (tOr tA tB) (fun r => orR (fA r) (fB r)) := by
  refine ⟨pw_or ha.pt hb.pw, fun F G r σ H q => ?_⟩
  refine sdt_bindB (t' := fun c σ H1 Q => if c = true then Q true H1 else tB σ H1 Q) (ha.so F G r σ H q) fun d G1 H1 _ e1 => ?_
  cases d with
  | true => exact sdt_ok e1.gh fun Q q => q
  | false => exact hb.so F G1 r σ H1 (q.ext e1)
theorem vt_not (ha : VT X W a tA fA) : VT X W (.UnaryOp .Not a pos) (tNot tA) (fun r => notR (fA r)) := by
  refine ⟨pt_not ha.pt, fun F G r σ H q => ?_⟩
  exact sdt_bindB (t' := fun c _ H1 Q => Q (!c) H1) (ha.so F G r σ H q) fun d G1 H1 _ e1 => sdt_ok e1.gh fun Q q => q
/-! ### and, or, not as values (bools) -/
def andV (a b : R PyData) : R PyData := a.bind fun x => (boolD x).bind fun k => if k then b else .ok (.bool false)
def orV (a b : R PyData) : R PyData := a.bind fun x => (boolD x).bind fun k => if k then .ok (.bool true) else b
def notV (a : R PyData) : R PyData := a.bind fun x => (truD x).bind fun k => .ok (.bool (!k))
theorem vx_one {op} (h : Vx P X W a ta fa) : Vx P X W (.BoolOp op [a] pos) ta fa := ⟨pe_one h.pe, h.so⟩
theorem ve_and (ha : VE X W a ta fa) (hb : VE X W (.BoolOp .And (b :: rest) pos) tb fb) : VE X W (.BoolOp .And (a :: b :: rest) pos) (tAndV ta tb) (fun r => andV (fa r) (fb r)) := by
  refine ⟨pe_and ha.pe hb.pe, fun F G r σ H q => ?_⟩
  refine sd_bind (t' := fun x σ H1 Q => ∃ c, x = .bl c ∧ if c = true then tb σ H1 Q else Q (.bl false) H1) mE (ha.so F G r σ H q) fun d v G1 H1 _ e1 p1 => ?_
  cases d with
  | bool k =>
    cases p1
    cases k with
    | true => exact sd_eq (hb.so F G1 r σ H1 (q.ext e1)) fun Q z => ⟨true, rfl, z⟩
    | false => exact sd_of e1.gh (.bl false) fun Q z => ⟨false, rfl, z⟩
  | _ => trivial
theorem ve_or (ha : VE X W a ta fa) (hb : VE X W (.BoolOp .Or (b :: rest) pos) tb fb) : VE X W (.BoolOp .Or (a :: b :: rest) pos) (tOrV ta tb) (fun r => orV (fa r) (fb r)) := by
  refine ⟨pe_or ha.pe hb.pe, fun F G r σ H q => ?_⟩
  refine sd_bind (t' := fun x σ H1 Q => ∃ c, x = .bl c ∧ if c = true then Q (.bl true) H1 else tb σ H1 Q) mE (ha.so F G r σ H q) fun d v G1 H1 _ e1 p1 => ?_
  cases d with
  | bool k =>
    cases p1
    cases k with
    | true => exact sd_of e1.gh (.bl true) fun Q z => ⟨true, rfl, z⟩
    | false => exact sd_eq (hb.so F G1 r σ H1 (q.ext e1)) fun Q z => ⟨false, rfl, z⟩
  | _ => trivial
theorem ve_not (ha : VB X W a ta fa) : VE X W (.UnaryOp .Not a pos) (tNotT X.K ta) (fun r => notV (fa r)) := by
  refine ⟨pe_notT ha.pe, fun F G r σ H q => ?_⟩
  refine sd_bind (t' := fun x _ H1 Q => ∃ k, TruV X.K x H1 k ∧ Q (.bl (!k)) H1) mE (ha.so F G r σ H q) fun d v G1 H1 _ e1 p1 => ?_
  rcases truD_noexc d with ⟨k, e⟩ | e
  · rw [e]
    exact sd_of e1.gh (.bl _) fun Q z => ⟨k, tru_of e1.gh p1 e, z⟩
  · rw [e]
    trivial
/-- a if t else b -/
def ifV (c : R Bool) (a b : R PyData) : R PyData := c.bind fun k => if k then a else b
theorem vx_if (m : PMono P) (hc : VT X W c tA fA) (ha : Vx P X W a ta fa) (hb : Vx P X W b tb fb) : Vx P X W (.IfExp c a b pos) (tIf tA ta tb) (fun r => ifV (fA r) (fa r) (fb r)) := by
  refine ⟨pe_ifExp hc.pt ha.pe hb.pe, fun F G r σ H q => ?_⟩
  refine sd_bindT (t' := fun k σ H1 Q => if k = true then ta σ H1 Q else tb σ H1 Q) m (hc.so F G r σ H q) fun d G1 H1 _ e1 => ?_
  cases d with
  | true => exact ha.so F G1 r σ H1 (q.ext e1)
  | false => exact hb.so F G1 r σ H1 (q.ext e1)
/-! ### names and constants -/
def datE (i : Nat) (r : En) : R PyData := match r[i]? with
  | some (.dat d) => .ok d
  | _ => .bad
def datB (i : Nat) (r : En) : R PyData := match r[i]? with
  | some (.dat d) => .ok d
  | some (.own ds) => .ok (.list ds)
  | _ => .bad
theorem ve_var (i : Nat) {x : Str} (hp : PE X (.Name x pos) (tVar i)) : VE X W (.Name x pos) (tVar i) (datE i) := by
  refine ⟨hp, fun F G r σ H q => ?_⟩
  unfold datE
  split
  · rename_i d e
    obtain ⟨v, h1, h2⟩ := q.dat i d e
    exact sd_of q.sub h2 fun Q z => ⟨v, h1, z⟩
  · trivial
theorem vb_var (i : Nat) {x : Str} (hp : PE X (.Name x pos) (tVar i)) : VB X W (.Name x pos) (tVar i) (datB i) := by
  refine ⟨hp, fun F G r σ H q => ?_⟩
  unfold datB
  split
  · rename_i d e
    obtain ⟨v, h1, h2⟩ := q.dat i d e
    exact sd_of q.sub (.inl h2) fun Q z => ⟨v, h1, z⟩
  · rename_i ds e
    obtain ⟨p, vs, h1, h2, h3, h4, h5⟩ := q.own i ds e
    exact sd_of q.sub (.inr ⟨p, vs, ds, rfl, h2, rfl, h5⟩) fun Q z => ⟨_, h1, z⟩
  · trivial
def kR (d : PyData) : En → R PyData := fun _ => .ok d
theorem ve_c {v : V} {d : PyData} (hp : PE X e (tC v)) (h : ∀ G, De G v d) : VE X W e (tC v) (kR d) := ⟨hp, fun F G r σ H q => sd_of q.sub (h G) fun Q z => z⟩
theorem ve_int {i : Int} {j} : VE X W (.Constant (.int i) j pos) (tC (.int i)) (kR (.int i)) := ve_c pe_int fun _ => .int i
theorem ve_bl {i : Bool} {j} : VE X W (.Constant (.bool i) j pos) (tC (.bl i)) (kR (.bool i)) := ve_c pe_bl fun _ => .bl i
theorem ve_non {j} : VE X W (.Constant .none j pos) (tC .non) (kR .none) := ve_c pe_non fun _ => .non
theorem ve_str {x : Str} {j} : VE X W (.Constant (.str x) j pos) (tC (.str x)) (kR (.str x)) := ve_c pe_str fun _ => .str x
end
end DL
namespace DL
open PySem L2

theorem slL {K : PySem.W.Frag} {H : Hp} {a : Addr} {xs : List V} (h : Rd H a (.lst xs)) : SqL K H a xs := .inl h
theorem slT {K : PySem.W.Frag} {H : Hp} {a : Addr} {xs : List V} (h : Rd H a (.tup xs)) : SqT K H a xs := .inl h

/-! ### + - * // % ** -/
def addD : PyData → PyData → R PyData
  | .int i, .int j => .ok (.int (i + j))
  | .str a, .str b => if a.length + b.length ≤ sizeLine then .ok (.str (a ++ b)) else .bad
  | .tuple xs, .tuple ys => if xs.length + ys.length ≤ sizeLine then .ok (.tuple (xs ++ ys)) else .bad
  | _, _ => .bad
def catD : PyData → PyData → R PyData
  | .list xs, .list ys => if xs.length + ys.length ≤ sizeLine then .ok (.list (xs ++ ys)) else .bad
  | _, _ => .bad
def subD : PyData → PyData → R PyData
  | .int i, .int j => .ok (.int (i - j))
  | _, _ => .bad
def mulD : PyData → PyData → R PyData
  | .int i, .int j => if (-(2 ^ 64) < i ∧ i < 2 ^ 64) ∨ (-(2 ^ 64) < j ∧ j < 2 ^ 64) then .ok (.int (i * j)) else .bad
  | _, _ => .bad
def repD : PyData → PyData → R PyData
  | .list xs, .int k => if -(2 ^ 63) ≤ k ∧ k < 2 ^ 63 ∧ xs.length * k.toNat ≤ sizeLine then .ok (.list (List.replicate k.toNat xs).flatten) else .bad
  | _, _ => .bad
def fdivD : PyData → PyData → R PyData
  | .int i, .int j => if 0 < j ∧ j < 1073741824 then .ok (.int (i / j)) else .bad
  | _, _ => .bad
def modD : PyData → PyData → R PyData
  | .int i, .int j => if 0 < j then .ok (.int (i % j)) else .bad
  | _, _ => .bad
def powD : PyData → PyData → R PyData
  | .int i, .int j => if 0 ≤ j ∧ j ≤ 1000000 ∧ i.natAbs < 2 ^ 64 then .ok (.int (i ^ j.toNat)) else .bad
  | _, _ => .bad
section
variable {X : Cx}
def rAddA (K : PySem.W.Frag) : R2 := fun x y H Q => rI0 (fun i j => .int (i + j)) x y H Q ∨ (∃ i j, x = .str i ∧ y = .str j ∧ i.length + j.length ≤ sizeLine ∧ Q (.str (i ++ j)) H) ∨ rCatA K x y H Q
theorem op_addA : OpR X (binaryOp .Add) (rAddA X.K) := op_add.or (op_add_str.or op_catA)
theorem o2_add {K : PySem.W.Frag} : Op2 pE (rAddA K) addD := by
  intro W σ G H x y d e s hx hy
  cases d with
  | int i =>
    cases e with
    | int j =>
      cases hx.int; cases hy.int
      exact sd_of s (.int _) fun Q q => .inl ⟨i, j, rfl, rfl, q⟩
    | _ => trivial
  | str a =>
    cases e with
    | str b =>
      cases hx.str; cases hy.str
      show Sd pE W _ σ G H (if _ then _ else _)
      split
      · rename_i hl
        exact sd_of s (.str _) fun Q q => .inr (.inl ⟨a, b, rfl, rfl, hl, q⟩)
      · trivial
    | _ => trivial
  | tuple xs =>
    cases e with
    | tuple ys =>
      obtain ⟨a, vs, rfl, hX, h2⟩ := hx.tupX
      obtain ⟨b, ws, rfl, hY, h4⟩ := hy.tupX
      have h1 := Rd.of hX
      have h3 := Rd.of hY
      show Sd pE W _ σ G H (if _ then _ else _)
      split
      · rename_i hl
        have l1 := h2.len
        have l2 := h4.len
        intro Q q
        refine .inr (.inr ⟨a, b, vs, ws, rfl, rfl, slT (rdm s h1), slT (rdm s h3), by omega, fun e => ?_, fun _ e => ?_, fun _ _ p hp => ?_⟩)
        · subst e
          cases h2
          exact q _ G H (Ext.refl s) (.tup hY h4)
        · subst e
          cases h4
          rw [List.append_nil] at q
          exact q _ G H (Ext.refl s) (.tup hX h2)
        · exact q _ _ _ (Ext.laid s hp) (.tup upd_same (dam (Same.new (s.free hp)) (h2.app h4)))
      · trivial
    | _ => trivial
  | _ => trivial
theorem Inv.lstR {pins : List (Addr × Obj)} {σ : L2.St} {H : Hp} {s : Shared} {l : Addr} {xs : List V} (I : Inv X pins σ H s) (h : Rd H l (.lst xs)) :
    xs.length ≤ sizeLine ∧ ∃ (its : List Value) (n : Nat), Vals xs its ∧ xs.length = its.length ∧ s.heap.get? l = some { cls := .type "list", data := .seq its.toArray n } := by
  obtain ⟨z, its, n, r, e⟩ := h.ok I.hok
  exact ⟨z, its, n, r, r.length, e⟩
def rCatL : R2 := fun x y H Q => ∃ l b xs zs, x = .ref l ∧ y = .ref b ∧ Rd H l (.lst xs) ∧ Rd H b (.lst zs) ∧ xs.length + zs.length ≤ sizeLine ∧ ∀ p, H p = none → Q (.ref p) (upd H p (.lst (xs ++ zs)))
theorem op_catL : OpR X (binaryOp .Add) rCatL := by
  intro pins s σ H x y v u Q I rx ry h
  obtain ⟨l, b, xs, zs, rfl, rfl, hH, hB, hz, q⟩ := h
  cases rx
  cases ry
  obtain ⟨z, its, n, r, hl, e⟩ := Inv.lstR I hH
  obtain ⟨z2, its2, n2, r2, hl2, e2⟩ := Inv.lstR I hB
  refine PySem.P.add_list e e2 ?_ (by rw [List.size_toArray, List.size_toArray]; omega)
  have ea : its.toArray ++ its2.toArray = (its ++ its2).toArray := by simp
  rw [ea]
  exact ⟨.ref _, _, I.lnew (t' := s.toks) (r.append r2) (by rw [List.length_append]; omega), rfl, q _ I.fresh⟩
theorem o2_cat : Op2 pO rCatL catD := by
  intro W σ G H x y d e s hx hy
  cases d with
  | list xs =>
    cases e with
    | list ys =>
      obtain ⟨a, vs, rfl, h1, h2⟩ := hx.lst s
      obtain ⟨b, ws, rfl, h3, h4⟩ := hy.lst s
      show Sd pO W _ σ G H (if _ then _ else _)
      split
      · rename_i hl
        have l1 := h2.len
        have l2 := h4.len
        exact sd_eq (sd_lst s (h2.app h4)) fun Q q => ⟨a, b, vs, ws, rfl, rfl, h1, h3, by omega, q⟩
      · trivial
    | _ => trivial
  | _ => trivial
theorem o2_int {C : Int → Int → Prop} [∀ i j, Decidable (C i j)] {g : Int → Int → Int} {f : PyData → PyData → R PyData} (hf : ∀ i j, f (.int i) (.int j) = if C i j then .ok (.int (g i j)) else .bad)
    (hb : ∀ d e, (∀ i j, ¬ (d = .int i ∧ e = .int j)) → f d e = .bad) : Op2 pE (rI C fun i j => .int (g i j)) f := by
  intro W σ G H x y d e s hx hy
  cases d with
  | int i =>
    cases e with
    | int j =>
      cases hx.int; cases hy.int
      rw [hf]
      split
      · rename_i hc
        exact sd_of s (.int _) fun Q q => ⟨i, j, rfl, rfl, hc, q⟩
      · trivial
    | _ => rw [hb _ _ (fun _ _ z => by cases z.2)]; trivial
  | _ => rw [hb _ _ (fun _ _ z => by cases z.1)]; trivial
theorem o2_sub : Op2 pE (rI0 fun i j => .int (i - j)) subD := by
  intro W σ G H x y d e s hx hy
  cases d with
  | int i =>
    cases e with
    | int j =>
      cases hx.int; cases hy.int
      exact sd_of s (.int _) fun Q q => ⟨i, j, rfl, rfl, q⟩
    | _ => trivial
  | _ => trivial
instance (i j : Int) : Decidable (CMul i j) := by unfold CMul; infer_instance
instance (i j : Int) : Decidable (CDiv i j) := by unfold CDiv; infer_instance
instance (i j : Int) : Decidable (CPow i j) := by unfold CPow; infer_instance
theorem o2_mul : Op2 pE (rI CMul fun i j => .int (i * j)) mulD := o2_int (fun i j => by unfold mulD CMul; rfl) fun d e h => by
  cases d <;> cases e <;> first | rfl | exact absurd ⟨rfl, rfl⟩ (h _ _)
theorem o2_fdiv : Op2 pE (rI CDiv fun i j => .int (i / j)) fdivD := o2_int (fun i j => by unfold fdivD CDiv; rfl) fun d e h => by
  cases d <;> cases e <;> first | rfl | exact absurd ⟨rfl, rfl⟩ (h _ _)
theorem o2_mod : Op2 pE (rI (fun _ j => 0 < j) fun i j => .int (i % j)) modD := o2_int (fun i j => by unfold modD; rfl) fun d e h => by
  cases d <;> cases e <;> first | rfl | exact absurd ⟨rfl, rfl⟩ (h _ _)
theorem o2_pow : Op2 pE (rI CPow fun i j => .int (i ^ j.toNat)) powD := o2_int (fun i j => by unfold powD CPow; rfl) fun d e h => by
  cases d <;> cases e <;> first | rfl | exact absurd ⟨rfl, rfl⟩ (h _ _)
def rRepL : R2 := fun x y H Q => ∃ l k xs, x = .ref l ∧ y = .int k ∧ H l = some (.lst xs) ∧ -(2 ^ 63) ≤ k ∧ k < 2 ^ 63 ∧ xs.length * k.toNat ≤ sizeLine ∧
  ∀ p, H p = none → Q (.ref p) (upd H p (.lst (List.replicate k.toNat xs).flatten))
end
/-- [a, ..] * n: the list is one's own (a display) -/
theorem vo_rep {X : Cx} {W : WN} {a b : Expr} {ta tb : TE} {fa fb : En → R PyData} {pos : Pos} (ha : VO X W a ta fa) (hb : VE X W b tb fb) : VO X W (.BinOp a .Mult b pos) (tOp rRep ta tb) (b2 fa fb repD) := by
  refine ⟨pe_op op_rep ha.pe hb.pe, fun F G ro σ H q => ?_⟩
  refine sd_bind (t' := fun x σ H1 Q => tb σ H1 fun y H2 => rRep x y H2 Q) mO (ha.so F G ro σ H q) fun d v G1 H1 _ e1 p1 => ?_
  refine sd_bind (t' := fun y _ H2 Q => rRep v y H2 Q) mO (hb.so F G1 ro σ H1 (q.ext e1)) fun d2 v2 G2 H2 _ e2 p2 => ?_
  obtain ⟨p, vs, ds, rfl, rfl, h3, h4, h5, h6⟩ := p1
  cases d2 with
  | int k =>
    cases p2
    show Sd pO W _ σ G2 H2 (if _ then _ else _)
    split
    · rename_i hk
      have l := h6.len
      exact sd_eq (sd_lst e2.gh ((dam e2.gg h6).rep k.toNat)) fun Q z => ⟨p, k, vs, rfl, rfl, e2.hh _ _ h5, hk.1, hk.2.1, by rw [l]; exact hk.2.2, z⟩
    · trivial
  | _ => trivial

/-! ### comparisons -/
def intsOf : List PyData → Option (List Int)
  | [] => some []
  | .int i :: r => (intsOf r).map (i :: ·)
  | _ :: _ => none
theorem intsOf_map : ∀ ns : List Int, intsOf (ns.map PyData.int) = some ns
  | [] => rfl
  | n :: r => by
    show (intsOf (r.map PyData.int)).map (n :: ·) = _
    rw [intsOf_map r]; rfl
theorem DeAll.ints {G : Hp} : ∀ {vs : List V} {ds : List PyData} {ns : List Int}, DeAll G vs ds → intsOf ds = some ns → vs = ns.map V.int
  | _, [], ns, .nil, e => by
    cases e; rfl
  | _, d :: ds, ns, .cons h t, e => by
    cases d with
    | int i =>
      cases h
      cases q : intsOf ds with
      | none => simp [intsOf, q] at e
      | some ms =>
        simp [intsOf, q] at e
        subst e
        rw [DeAll.ints t q]; rfl
    | _ => cases e
def lexLt : List Int → List Int → Bool
  | [], [] => false
  | [], _ :: _ => true
  | _ :: _, [] => false
  | x :: xs, y :: ys => if x = y then lexLt xs ys else decide (x < y)
def lexLe : List Int → List Int → Bool
  | [], _ => true
  | _ :: _, [] => false
  | x :: xs, y :: ys => if x = y then lexLe xs ys else decide (x ≤ y)
def lexGe : List Int → List Int → Bool
  | _, [] => true
  | [], _ :: _ => false
  | x :: xs, y :: ys => if x = y then lexGe xs ys else decide (y ≤ x)
theorem lexAt_shift (e r : Nat → Bool) (z : Bool) : ∀ (k i : Nat), Ob.lexAt e r z (i + 1) k = Ob.lexAt (fun j => e (j + 1)) (fun j => r (j + 1)) z i k
  | 0, _ => rfl
  | k + 1, i => by
    rw [Ob.lexAt_succ, Ob.lexAt_succ, lexAt_shift e r z k (i + 1)]
theorem lexAt_le : ∀ ns ms : List Int, Ob.lexAt (fun j => decide (ns.getD j 0 = ms.getD j 0)) (fun j => decide (ns.getD j 0 ≤ ms.getD j 0)) (decide (ns.length ≤ ms.length)) 0 (min ns.length ms.length) = lexLe ns ms
  | [], ms => by simp [Ob.lexAt_zero, lexLe]
  | _ :: _, [] => by simp [Ob.lexAt_zero, lexLe]
  | x :: xs, y :: ys => by
    have h := lexAt_le xs ys
    have e : min (x :: xs).length (y :: ys).length = min xs.length ys.length + 1 := by simp only [List.length_cons]; omega
    rw [e, Ob.lexAt_succ, lexAt_shift]
    have e2 : (decide ((x :: xs).length ≤ (y :: ys).length)) = decide (xs.length ≤ ys.length) := by simp
    rw [e2]
    simp only [List.getD_cons_succ, List.getD_cons_zero, decide_eq_true_eq, lexLe]
    rw [h]
theorem lexAt_ge : ∀ ns ms : List Int, Ob.lexAt (fun j => decide (ns.getD j 0 = ms.getD j 0)) (fun j => decide (ms.getD j 0 ≤ ns.getD j 0)) (decide (ns.length ≥ ms.length)) 0 (min ns.length ms.length) = lexGe ns ms
  | [], [] => by simp [Ob.lexAt_zero, lexGe]
  | [], _ :: _ => by simp [Ob.lexAt_zero, lexGe]
  | _ :: _, [] => by simp [Ob.lexAt_zero, lexGe]
  | x :: xs, y :: ys => by
    have h := lexAt_ge xs ys
    have e : min (x :: xs).length (y :: ys).length = min xs.length ys.length + 1 := by simp only [List.length_cons]; omega
    rw [e, Ob.lexAt_succ, lexAt_shift]
    have e2 : (decide ((x :: xs).length ≥ (y :: ys).length)) = decide (xs.length ≥ ys.length) := by simp
    rw [e2]
    simp only [List.getD_cons_succ, List.getD_cons_zero, decide_eq_true_eq, lexGe]
    rw [h]
theorem lexLt_eq : ∀ ns ms : List Int, HT.lexLt ns ms = lexLt ns ms
  | [], [] => rfl
  | [], _ :: _ => rfl
  | _ :: _, [] => rfl
  | x :: xs, y :: ys => by rw [HT.lexLt_cons, lexLt, lexLt_eq xs ys]
def rGeT (K : PySem.W.Frag) : R2 := fun x y H Q => ∃ (a b : Addr) (ns ms : List Int), x = .ref a ∧ y = .ref b ∧ SqT K H a (ns.map V.int) ∧ SqT K H b (ms.map V.int) ∧
  Q (.bl (Ob.lexAt (fun j => decide (ns.getD j 0 = ms.getD j 0)) (fun j => decide (ms.getD j 0 ≤ ns.getD j 0)) (decide (ns.length ≥ ms.length)) 0 (min ns.length ms.length))) H
theorem op_geT {X : Cx} (hu : X.A.units < cLine) : OpR X (compareOp .GtE) (rGeT X.K) := by
  intro pins s σ H x y v u Q I rx ry h
  obtain ⟨a, b, ns, ms, rfl, rfl, ha, hb, q⟩ := h
  cases rx
  cases ry
  obtain ⟨its, r1, p1, _⟩ := I.tuple ha
  obtain ⟨its2, r2, p2, _⟩ := I.tuple hb
  have i1 : PyProof.Rows.IntsAre its ns := Vals.ints r1
  have i2 : PyProof.Rows.IntsAre its2 ms := Vals.ints r2
  have e1 : its.toArray.size = ns.length := by rw [List.size_toArray]; exact i1.length
  have e2 : its2.toArray.size = ms.length := by rw [List.size_toArray]; exact i2.length
  have at1 : ∀ j (h1 : j < its.toArray.size), ∃ t, its.toArray[j] = .int (ns.getD j 0) t := fun j h1 => PyProof.Rows.IntsAre.int_at i1 _ _ (by simp at h1; simp [h1])
  have at2 : ∀ j (h1 : j < its2.toArray.size), ∃ t, its2.toArray[j] = .int (ms.getD j 0) t := fun j h1 => PyProof.Rows.IntsAre.int_at i2 _ _ (by simp at h1; simp [h1])
  have R := Ob.RcOp.tuples_ge (A := X.A) (s := s) (e := fun j => decide (ns.getD j 0 = ms.getD j 0)) (r := fun j => decide (ms.getD j 0 ≤ ns.getD j 0)) p1 p2 hu (fun j h1 h2 => by
    obtain ⟨t, et⟩ := at1 j h1
    obtain ⟨t', et'⟩ := at2 j h2
    rw [et, et']
    have z : (ns.getD j 0 == ms.getD j 0) = decide (ns.getD j 0 = ms.getD j 0) := by
      by_cases q : ns.getD j 0 = ms.getD j 0
      · rw [decide_eq_true q]; exact beq_iff_eq.mpr q
      · rw [decide_eq_false q]; exact beq_eq_false_iff_ne.mpr q
    rw [← z]
    exact SeqAt.EqAt.int_int _ _ _ _) (fun j h1 h2 _ => by
    obtain ⟨t, et⟩ := at1 j h1
    obtain ⟨t', et'⟩ := at2 j h2
    rw [et, et']
    exact Ob.RcOp.ge_int _ _ _ _)
  rw [e1, e2] at R
  have z : wpAny (model X.prog X.w) X.A (compareOp .GtE (.ref a) (.ref b)) (EP X pins σ Q) X.xe s := R X.prog X.w X.xe (EP X pins σ Q) ⟨.bl _, H, I, rfl, q⟩
  exact z
/-- <, <=, >, >= of ints and of tuples of ints -/
def cmpD (p : Int → Int → Bool) (q : List Int → List Int → Bool) : PyData → PyData → R PyData
  | .int i, .int j => .ok (.bool (p i j))
  | .tuple xs, .tuple ys => match intsOf xs, intsOf ys with
    | some ns, some ms => .ok (.bool (q ns ms))
    | _, _ => .bad
  | _, _ => .bad
def ltD := cmpD (fun i j => decide (i < j)) lexLt
def leD := cmpD (fun i j => decide (i ≤ j)) lexLe
def gtD := cmpD (fun i j => decide (j < i)) (fun a b => lexLt b a)
def geD := cmpD (fun i j => decide (j ≤ i)) lexGe
section
variable {X : Cx}
theorem o2_cmp {p : Int → Int → Bool} {q : List Int → List Int → Bool} {r1 r2 : R2} {K : PySem.W.Frag} (h1 : ∀ i j H Q, Q (.bl (p i j)) H → r1 (.int i) (.int j) H Q)
    (h2 : ∀ a b ns ms H Q, SqT K H a (ns.map V.int) → SqT K H b (ms.map V.int) → Q (.bl (q ns ms)) H → r2 (.ref a) (.ref b) H Q) : Op2 pE (fun x y H Q => r1 x y H Q ∨ r2 x y H Q) (cmpD p q) := by
  intro W σ G H x y d e s hx hy
  cases d with
  | int i =>
    cases e with
    | int j =>
      cases hx.int; cases hy.int
      exact sd_of s (.bl _) fun Q z => .inl (h1 i j H Q z)
    | _ => trivial
  | tuple xs =>
    cases e with
    | tuple ys =>
      obtain ⟨a, vs, rfl, k1, k2⟩ := hx.tup
      obtain ⟨b, ws, rfl, k3, k4⟩ := hy.tup
      show Sd pE W _ σ G H (match intsOf xs, intsOf ys with | some ns, some ms => .ok (.bool (q ns ms)) | _, _ => .bad)
      split
      · rename_i ns ms e1 e2
        have z1 := DeAll.ints k2 e1
        have z2 := DeAll.ints k4 e2
        subst z1 z2
        exact sd_of s (.bl _) fun Q z => .inr (h2 a b ns ms H Q (slT (rdm s k1)) (slT (rdm s k3)) z)
      · trivial
    | _ => trivial
  | _ => trivial
def rLtA (K : PySem.W.Frag) : R2 := fun x y H Q => rI0 (fun i j => .bl (decide (i < j))) x y H Q ∨ rLtT K x y H Q
def rLeA (K : PySem.W.Frag) : R2 := fun x y H Q => rI0 (fun i j => .bl (decide (i ≤ j))) x y H Q ∨ rLeT K x y H Q
def rGeA (K : PySem.W.Frag) : R2 := fun x y H Q => rI0 (fun i j => .bl (decide (j ≤ i))) x y H Q ∨ rGeT K x y H Q
theorem op_ltA (hu : X.A.units < cLine) : OpR X (compareOp .Lt) (rLtA X.K) := op_lt.or (op_ltT hu)
theorem op_leA (hu : X.A.units < cLine) : OpR X (compareOp .LtE) (rLeA X.K) := op_le.or (op_leT hu)
theorem op_geA (hu : X.A.units < cLine) : OpR X (compareOp .GtE) (rGeA X.K) := op_ge.or (op_geT hu)
theorem o2_lt {K : PySem.W.Frag} : Op2 pE (rLtA K) ltD := o2_cmp (K := K) (fun i j H Q z => ⟨i, j, rfl, rfl, z⟩) fun a b ns ms H Q k1 k2 z => ⟨a, b, ns, ms, rfl, rfl, k1, k2, by rw [lexLt_eq]; exact z⟩
theorem o2_le {K : PySem.W.Frag} : Op2 pE (rLeA K) leD := o2_cmp (K := K) (fun i j H Q z => ⟨i, j, rfl, rfl, z⟩) fun a b ns ms H Q k1 k2 z => ⟨a, b, ns, ms, rfl, rfl, k1, k2, by rw [lexAt_le]; exact z⟩
theorem o2_ge {K : PySem.W.Frag} : Op2 pE (rGeA K) geD := o2_cmp (K := K) (fun i j H Q z => ⟨i, j, rfl, rfl, z⟩) fun a b ns ms H Q k1 k2 z => ⟨a, b, ns, ms, rfl, rfl, k1, k2, by rw [lexAt_ge]; exact z⟩
/-- > of ints alone -/
def gtI : PyData → PyData → R PyData
  | .int i, .int j => .ok (.bool (decide (j < i)))
  | _, _ => .bad
theorem o2_gt : Op2 pE (rI0 fun i j => .bl (decide (j < i))) gtI := by
  intro W σ G H x y d e s hx hy
  cases d with
  | int i =>
    cases e with
    | int j =>
      cases hx.int; cases hy.int
      exact sd_of s (.bl _) fun Q z => ⟨i, j, rfl, rfl, z⟩
    | _ => trivial
  | _ => trivial
/-! ### ==, !=, in, not in -/
def laidE (d e : PyData) : Bool := d.canLay0 && (e.canLay0 && decide (min d.depth e.depth ≤ 60))
def eqD (d e : PyData) : R PyData := if laidE d e = true then .ok (.bool (PyData.eqv d e)) else .bad
def neD (d e : PyData) : R PyData := if laidE d e = true then .ok (.bool (!PyData.eqv d e)) else .bad
def rEqE (b : Bool) : R2 := fun x y H Q => ∃ d e, De H x d ∧ De H y e ∧ laidE d e = true ∧ Q (.bl (b != PyData.eqv d e)) H
theorem laidE_ok {d e : PyData} (h : laidE d e = true) : d.canLay0 = true ∧ e.canLay0 = true ∧ min d.depth e.depth ≤ 60 := by
  obtain ⟨h1, h2⟩ := Bool.and_eq_true_iff.mp h
  obtain ⟨h3, h4⟩ := Bool.and_eq_true_iff.mp h2
  exact ⟨h1, h3, of_decide_eq_true h4⟩
theorem op_eqE (hu : X.A.units + 64 < cLine) : OpR X (compareOp .Eq) (rEqE false) := by
  intro pins s σ H x y v u Q I rx ry h
  obtain ⟨d, e, hd, he, hl, q⟩ := h
  obtain ⟨h1, h2, h3⟩ := laidE_ok hl
  obtain ⟨as, r1⟩ := Dp.reads I d x v hd.dp rx
  obtain ⟨bs, r2⟩ := Dp.reads I e y u he.dp ry
  refine SeqAt.compareEq_reads r1 r2 h1 h2 (by omega) ⟨.bl _, H, I, rfl, ?_⟩
  simpa using q
theorem op_neE (hu : X.A.units + 64 < cLine) : OpR X (compareOp .NotEq) (rEqE true) := by
  intro pins s σ H x y v u Q I rx ry h
  obtain ⟨d, e, hd, he, hl, q⟩ := h
  obtain ⟨h1, h2, h3⟩ := laidE_ok hl
  obtain ⟨as, r1⟩ := Dp.reads I d x v hd.dp rx
  obtain ⟨bs, r2⟩ := Dp.reads I e y u he.dp ry
  refine SeqAt.compareNe_reads r1 r2 h1 h2 (by omega) ⟨.bl _, H, I, rfl, ?_⟩
  simpa using q
theorem o2_eq : Op2 pE (rEqE false) eqD := by
  intro W σ G H x y d e s hx hy
  unfold eqD
  split
  · rename_i hl
    exact sd_of s (.bl _) fun Q z => ⟨d, e, hx.de s, hy.de s, hl, by simpa using z⟩
  · trivial
theorem o2_ne : Op2 pE (rEqE true) neD := by
  intro W σ G H x y d e s hx hy
  unfold neD
  split
  · rename_i hl
    exact sd_of s (.bl _) fun Q z => ⟨d, e, hx.de s, hy.de s, hl, by simpa using z⟩
  · trivial
/-- x in c, c a list or a tuple -/
def laidI (d : PyData) (ds : List PyData) : Bool := d.canLay0 && (PyData.canLayAll0 ds && decide (min (PyData.depthAll ds) d.depth ≤ 60))
def inD (d c : PyData) : R PyData := match c with
  | .list ds => if laidI d ds = true then .ok (.bool (ds.any fun z => PyData.eqv z d)) else .bad
  | .tuple ds => if laidI d ds = true then .ok (.bool (ds.any fun z => PyData.eqv z d)) else .bad
  | _ => .bad
def ninD (d c : PyData) : R PyData := match c with
  | .list ds => if laidI d ds = true then .ok (.bool (!ds.any fun z => PyData.eqv z d)) else .bad
  | .tuple ds => if laidI d ds = true then .ok (.bool (!ds.any fun z => PyData.eqv z d)) else .bad
  | _ => .bad
def rInE (b : Bool) : R2 := fun x y H Q => ∃ d ds, De H x d ∧ (De H y (.list ds) ∨ De H y (.tuple ds)) ∧ laidI d ds = true ∧ Q (.bl (b != ds.any fun z => PyData.eqv z d)) H
theorem laidI_ok {d : PyData} {ds : List PyData} (h : laidI d ds = true) : d.canLay0 = true ∧ PyData.canLayAll0 ds = true ∧ min (PyData.depthAll ds) d.depth ≤ 60 := by
  obtain ⟨h1, h2⟩ := Bool.and_eq_true_iff.mp h
  obtain ⟨h3, h4⟩ := Bool.and_eq_true_iff.mp h2
  exact ⟨h1, h3, of_decide_eq_true h4⟩
theorem op_inE (hu : X.A.units + 64 < cLine) : OpR X (compareOp .In) (rInE false) := by
  intro pins s σ H x y v u Q I rx ry h
  obtain ⟨d, ds, hd, he, hl, q⟩ := h
  obtain ⟨h1, h2, h3⟩ := laidI_ok hl
  obtain ⟨as, r1⟩ := Dp.reads I d x v hd.dp rx
  rcases he with he | he
  · obtain ⟨bs, r2⟩ := Dp.reads I _ y u he.dp ry
    refine SeqAt.in_list_reads r2 r1 h2 h1 (by omega) ⟨.bl _, H, I, rfl, ?_⟩
    simpa using q
  · obtain ⟨bs, r2⟩ := Dp.reads I _ y u he.dp ry
    refine SeqAt.in_tuple_reads r2 r1 h2 h1 (by omega) ⟨.bl _, H, I, rfl, ?_⟩
    simpa using q
theorem op_ninE (hu : X.A.units + 64 < cLine) : OpR X (compareOp .NotIn) (rInE true) := by
  intro pins s σ H x y v u Q I rx ry h
  obtain ⟨d, ds, hd, he, hl, q⟩ := h
  obtain ⟨h1, h2, h3⟩ := laidI_ok hl
  obtain ⟨as, r1⟩ := Dp.reads I d x v hd.dp rx
  rcases he with he | he
  · obtain ⟨bs, r2⟩ := Dp.reads I _ y u he.dp ry
    refine SeqAt.notIn_list_reads r2 r1 h2 h1 (by omega) ⟨.bl _, H, I, rfl, ?_⟩
    simpa using q
  · obtain ⟨bs, r2⟩ := Dp.reads I _ y u he.dp ry
    refine SeqAt.notIn_tuple_reads r2 r1 h2 h1 (by omega) ⟨.bl _, H, I, rfl, ?_⟩
    simpa using q
theorem o2_in : Op2 pE (rInE false) inD := by
  intro W σ G H x y d e s hx hy
  cases e with
  | list ds =>
    show Sd pE W _ σ G H (if _ then _ else _)
    split
    · rename_i hl
      exact sd_of s (.bl _) fun Q z => ⟨d, ds, hx.de s, .inl (hy.de s), hl, by simpa using z⟩
    · trivial
  | tuple ds =>
    show Sd pE W _ σ G H (if _ then _ else _)
    split
    · rename_i hl
      exact sd_of s (.bl _) fun Q z => ⟨d, ds, hx.de s, .inr (hy.de s), hl, by simpa using z⟩
    · trivial
  | _ => trivial
theorem o2_nin : Op2 pE (rInE true) ninD := by
  intro W σ G H x y d e s hx hy
  cases e with
  | list ds =>
    show Sd pE W _ σ G H (if _ then _ else _)
    split
    · rename_i hl
      exact sd_of s (.bl _) fun Q z => ⟨d, ds, hx.de s, .inl (hy.de s), hl, by simpa using z⟩
    · trivial
  | tuple ds =>
    show Sd pE W _ σ G H (if _ then _ else _)
    split
    · rename_i hl
      exact sd_of s (.bl _) fun Q z => ⟨d, ds, hx.de s, .inr (hy.de s), hl, by simpa using z⟩
    · trivial
  | _ => trivial
/-- is None, is not None -/
def isN : PyData → Bool
  | .none => true
  | _ => false
def isNoneD (d e : PyData) : R PyData := match e with
  | .none => .ok (.bool (isN d))
  | _ => .bad
def isntNoneD (d e : PyData) : R PyData := match e with
  | .none => .ok (.bool (!isN d))
  | _ => .bad
theorem none_iff {G H : Hp} {v : V} {d : PyData} (h : RBv G H v d) : decide (v = .non) = isN d := by
  cases d with
  | none => rw [h.non]; rfl
  | bool b => rw [h.bl]; rfl
  | int b => rw [h.int]; exact decide_eq_false (fun z => nomatch z)
  | str b => rw [h.str]; exact decide_eq_false (fun z => nomatch z)
  | list b =>
    rcases h with h | ⟨p, vs, ds, rfl, _⟩
    · cases h; exact decide_eq_false (fun z => nomatch z)
    · exact decide_eq_false (fun z => nomatch z)
  | tuple b =>
    obtain ⟨a, vs, rfl, _⟩ := h.tup
    exact decide_eq_false (fun z => nomatch z)
  | dict _ =>
    rcases h with h | ⟨p, vs, ds, _, _, h, _⟩
    · cases h
    · cases h
theorem o2_is : Op2 pE (fun x y H Q => y = .non ∧ Q (.bl (decide (x = .non))) H) isNoneD := by
  intro W σ G H x y d e s hx hy
  cases e with
  | none =>
    cases hy.non
    exact sd_of s (.bl _) fun Q z => ⟨rfl, by rw [none_iff hx]; exact z⟩
  | _ => trivial
theorem o2_isnt : Op2 pE (fun x y H Q => y = .non ∧ Q (.bl (!decide (x = .non))) H) isntNoneD := by
  intro W σ G H x y d e s hx hy
  cases e with
  | none =>
    cases hy.non
    exact sd_of s (.bl _) fun Q z => ⟨rfl, by rw [none_iff hx]; exact z⟩
  | _ => trivial
end
end DL
namespace DL
open PySem L2

/-! ### subscripts -/
def ixD : PyData → PyData → R PyData
  | .list ds, .int i => match atI ds i with
    | some d => .ok d
    | none => .bad
  | .tuple ds, .int i => match atI ds i with
    | some d => .ok d
    | none => .bad
  | _, _ => .bad
theorem DeAll.at {G : Hp} {vs : List V} {ds : List PyData} {i : Int} {d : PyData} (h : DeAll G vs ds) (e : atI ds i = some d) : ∃ v, atI vs i = some v ∧ De G v d := by
  unfold atI at e ⊢
  rw [h.len]
  cases q : ixN ds.length i with
  | none => rw [q] at e; cases e
  | some j =>
    rw [q] at e
    exact h.get e
section
variable {X : Cx} {W : WN} {a b c e : Expr} {ta tb tc te : TE} {fa fb fc fe : En → R PyData} {pos : Pos} {P : Post} {es : List Expr}
def rIxA (K : PySem.W.Frag) : R2 := fun x y H Q => rIxL K x y H Q ∨ rIxT K x y H Q
theorem ix_A : IxR X (rIxA X.K) := ix_list.or ix_tup
theorem o2_ix {K : PySem.W.Frag} : Op2 pE (rIxA K) ixD := by
  intro W σ G H x y d e s hx hy
  cases d with
  | list ds =>
    cases e with
    | int i =>
      cases hy.int
      obtain ⟨a, vs, rfl, h1, h2⟩ := hx.lst s
      show Sd pE W _ σ G H (match atI ds i with | some d => .ok d | none => .bad)
      split
      · rename_i d e
        obtain ⟨v, e1, e2⟩ := h2.at e
        exact sd_of s e2 fun Q z => .inl ⟨a, vs, i, v, rfl, rfl, slL h1, e1, z⟩
      · trivial
    | _ => trivial
  | tuple ds =>
    cases e with
    | int i =>
      cases hy.int
      obtain ⟨a, vs, rfl, h1, h2⟩ := hx.tup
      show Sd pE W _ σ G H (match atI ds i with | some d => .ok d | none => .bad)
      split
      · rename_i d e
        obtain ⟨v, e1, e2⟩ := h2.at e
        exact sd_of s e2 fun Q z => .inr ⟨a, vs, i, v, rfl, rfl, slT (rdm s h1), e1, z⟩
      · trivial
    | _ => trivial
  | _ => trivial
theorem ve_ix (ha : VB X W a ta fa) (hb : VB X W b tb fb) (hs : PlainIx b := by exact fun _ _ => rfl) : VE X W (.Subscript a b pos) (tOp (rIxA X.K) ta tb) (b2 fa fb ixD) :=
  ⟨pe_ix ix_A ha.pe hb.pe hs, fun F G ro σ H q => sd_op mE o2_ix q (ha.so F G ro σ H q) fun G1 H1 e => hb.so F G1 ro σ H1 (q.ext e)⟩

/-! ### slices -/
def SdP (W : WN) (t : TO) (σ : L2.St) (G H : Hp) : R (Option Int) → Prop
  | .ok o => ∀ Q : Option Int → Hp → Prop, (∀ G' H', Ext G H G' H' → Q o H') → t σ H Q
  | .exc c fs => (∀ x G' H', Ext G H G' H' → XR G' H' x fs → W c x σ H') → ∀ Q : Option Int → Hp → Prop, t σ H Q
  | .bad => True
structure VP (X : Cx) (W : WN) (o : Option Expr) (t : TO) (f : En → R (Option Int)) : Prop where
  po : PO X o t
  so : ∀ F G r σ H, Rep F G r σ H → SdP W t σ G H (f r)
def intD : PyData → R (Option Int)
  | .int i => .ok (some i)
  | _ => .bad
theorem vp_none : VP X W none tNoPart (fun _ => .ok none) := ⟨po_none, fun F G r σ H q Q z => z G H (Ext.refl q.sub)⟩
theorem vp_some (ha : VE X W a ta fa) : VP X W (some a) (tPart ta) (fun r => (fa r).bind intD) := by
  refine ⟨po_some ha.pe, fun F G r σ H q => ?_⟩
  have h := ha.so F G r σ H q
  cases e : fa r with
  | ok d =>
    rw [e] at h
    cases d with
    | int i =>
      intro Q z
      refine h _ fun v G' H' e1 p1 => ?_
      cases p1
      exact ⟨i, rfl, z G' H' e1⟩
    | _ => trivial
  | exc c fs =>
    rw [e] at h
    exact fun w Q => h w _
  | bad => trivial
def cutL {α : Type} (xs : List α) (lo hi : Option Int) : List α := (xs.drop (HT.sIx xs.length 0 lo)).take (HT.sIx xs.length xs.length hi - HT.sIx xs.length 0 lo)
theorem DeAll.cut {G : Hp} {vs : List V} {ds : List PyData} (h : DeAll G vs ds) (lo hi : Option Int) : DeAll G (cutV vs lo hi) (cutL ds lo hi) := by
  unfold cutV cutL
  rw [h.len]
  exact (h.drop _).take _
def slT3 (d : PyData) (lo hi : Option Int) : R PyData := match d with
  | .tuple ds => .ok (.tuple (cutL ds lo hi))
  | _ => .bad
def slL3 (d : PyData) (lo hi : Option Int) : R PyData := match d with
  | .list ds => .ok (.list (cutL ds lo hi))
  | _ => .bad
def b3 (fa : En → R PyData) (fl fh : En → R (Option Int)) (g : PyData → Option Int → Option Int → R PyData) : En → R PyData := fun r => (fa r).bind fun x => (fl r).bind fun l => (fh r).bind fun h => g x l h
theorem sd_bindP {tp : TO} {t' : Option Int → TE} {σ : L2.St} {G H : Hp} {ra : R (Option Int)} {rk : Option Int → R PyData} (m : PMono P) (ha : SdP W tp σ G H ra)
    (hk : ∀ o G1 H1, ra = .ok o → Ext G H G1 H1 → Sd P W (t' o) σ G1 H1 (rk o)) : Sd P W (fun σ H Q => tp σ H fun o H1 => t' o σ H1 Q) σ G H (ra.bind rk) := by
  cases ra with
  | ok d =>
    show Sd P W _ σ G H (rk d)
    have hk := fun G1 H1 => hk d G1 H1 rfl
    cases e : rk d with
    | ok z =>
      rw [e] at hk
      intro Q q
      exact ha _ fun G1 H1 e1 => hk G1 H1 e1 Q fun v2 G2 H2 e2 p2 => q v2 G2 H2 (e1.trans e2) (m _ _ _ _ _ _ _ _ e1 p2)
    | exc c fs =>
      rw [e] at hk
      intro w Q
      exact ha _ fun G1 H1 e1 => hk G1 H1 e1 (fun x G2 H2 e2 p2 => w x G2 H2 (e1.trans e2) p2) Q
    | bad => trivial
  | exc c fs =>
    intro w Q
    exact ha w _
  | bad => trivial
variable {lo hi : Option Expr} {tl th : TO} {fl fh : En → R (Option Int)} {p2 : Pos}
theorem ve_slT (ha : VB X W a ta fa) (hl : VP X W lo tl fl) (hh : VP X W hi th fh) : VE X W (.Subscript a (.Slice lo hi none p2) pos) (tSl (rSlA X.K) ta tl th) (b3 fa fl fh slT3) := by
  refine ⟨pe_slice sl_tupA ha.pe hl.po hh.po, fun F G r σ H q => ?_⟩
  refine sd_bind (t' := fun x σ H1 Q => tl σ H1 fun l H2 => th σ H2 fun u H3 => rSlA X.K x l u H3 Q) mE (ha.so F G r σ H q) fun d v G1 H1 _ e1 p1 => ?_
  refine sd_bindP (t' := fun l σ H2 Q => th σ H2 fun u H3 => rSlA X.K v l u H3 Q) mE (hl.so F G1 r σ H1 (q.ext e1)) fun l G2 H2 _ e2 => ?_
  refine sd_bindP (t' := fun u _ H3 Q => rSlA X.K v l u H3 Q) mE (hh.so F G2 r σ H2 (q.ext (e1.trans e2))) fun u G3 H3 _ e3 => ?_
  have p3 := p1.ext (e2.trans e3)
  cases d with
  | tuple ds =>
    obtain ⟨a, vs, rfl, hX, h2⟩ := p3.tupX
    have h1 := Rd.of hX
    intro Q z
    refine ⟨a, vs, rfl, slT (rdm e3.gh h1), fun w => ?_, fun _ p hp => ?_⟩
    · have e : cutL ds l u = ds := by
        unfold cutL
        rw [← h2.len, w.1, w.2, List.drop_zero, Nat.sub_zero, h2.len, List.take_length]
      refine z _ G3 H3 (Ext.refl e3.gh) ?_
      rw [e]
      exact .tup hX h2
    · exact z _ _ _ (Ext.laid e3.gh hp) (.tup upd_same (dam (Same.new (e3.gh.free hp)) (h2.cut l u)))
  | _ => trivial
theorem vo_slL (ha : VB X W a ta fa) (hl : VP X W lo tl fl) (hh : VP X W hi th fh) : VO X W (.Subscript a (.Slice lo hi none p2) pos) (tSl (rSlL X.K) ta tl th) (b3 fa fl fh slL3) := by
  refine ⟨pe_slice sl_list ha.pe hl.po hh.po, fun F G r σ H q => ?_⟩
  refine sd_bind (t' := fun x σ H1 Q => tl σ H1 fun l H2 => th σ H2 fun u H3 => rSlL X.K x l u H3 Q) mO (ha.so F G r σ H q) fun d v G1 H1 _ e1 p1 => ?_
  refine sd_bindP (t' := fun l σ H2 Q => th σ H2 fun u H3 => rSlL X.K v l u H3 Q) mO (hl.so F G1 r σ H1 (q.ext e1)) fun l G2 H2 _ e2 => ?_
  refine sd_bindP (t' := fun u _ H3 Q => rSlL X.K v l u H3 Q) mO (hh.so F G2 r σ H2 (q.ext (e1.trans e2))) fun u G3 H3 _ e3 => ?_
  have p3 := p1.ext (e2.trans e3)
  cases d with
  | list ds =>
    obtain ⟨a, vs, rfl, h1, h2⟩ := p3.lst e3.gh
    exact sd_eq (sd_lst e3.gh (h2.cut l u)) fun Q z => ⟨a, vs, rfl, slL h1, z⟩
  | _ => trivial

/-! ### argument lists -/
def SdA (W : WN) (t : TA) (σ : L2.St) (G H : Hp) : R (List PyData) → Prop
  | .ok ds => ∀ Q : List V → Hp → Prop, (∀ vs G' H', Ext G H G' H' → DeAll G' vs ds → Q vs H') → t σ H Q
  | .exc c fs => (∀ x G' H', Ext G H G' H' → XR G' H' x fs → W c x σ H') → ∀ Q : List V → Hp → Prop, t σ H Q
  | .bad => True
structure VA (X : Cx) (W : WN) (es : List Expr) (t : TA) (f : En → R (List PyData)) : Prop where
  pa : PA X es t
  len : ∀ r ds, f r = .ok ds → ds.length = es.length
  so : ∀ F G r σ H, Rep F G r σ H → SdA W t σ G H (f r)
def aNil : En → R (List PyData) := fun _ => .ok []
def aCons (fa : En → R PyData) (fr : En → R (List PyData)) : En → R (List PyData) := fun r => (fa r).bind fun x => (fr r).bind fun xs => .ok (x :: xs)
theorem va_nil : VA X W [] tNil aNil := ⟨pa_nil, fun r ds e => by cases e; rfl, fun F G r σ H q Q z => z [] G H (Ext.refl q.sub) .nil⟩
theorem va_cons {tr : TA} {fr : En → R (List PyData)} (ha : VE X W e te fe) (hr : VA X W es tr fr) (hs : starEach (e :: es) X.env = (false, eval e X.env) :: starEach es X.env := by rfl) : VA X W (e :: es) (tCons te tr) (aCons fe fr) := by
  refine ⟨pa_cons ha.pe hr.pa hs, fun r ds z => ?_, fun F G r σ H q => ?_⟩
  · unfold aCons at z
    cases e1 : fe r with
    | ok d =>
      rw [e1] at z
      cases e2 : fr r with
      | ok xs =>
        rw [e2] at z
        cases z
        show xs.length + 1 = es.length + 1
        rw [hr.len r xs e2]
      | exc c fs => rw [e2] at z; cases z
      | bad => rw [e2] at z; cases z
    | exc c fs => rw [e1] at z; cases z
    | bad => rw [e1] at z; cases z
  have h1 := ha.so F G r σ H q
  unfold aCons
  cases e1 : fe r with
  | ok d =>
    rw [e1] at h1
    have h2 := fun G1 H1 (x : Ext G H G1 H1) => hr.so F G1 r σ H1 (q.ext x)
    show SdA W _ σ G H ((fr r).bind fun xs => .ok (d :: xs))
    cases e2 : fr r with
    | ok ds =>
      rw [e2] at h2
      exact fun Q z => h1 _ fun v G1 H1 x1 p1 => h2 G1 H1 x1 _ fun vs G2 H2 x2 p2 => z _ G2 H2 (x1.trans x2) (.cons (dm x2.gg p1) p2)
    | exc c fs =>
      rw [e2] at h2
      exact fun w Q => h1 _ fun v G1 H1 x1 p1 => h2 G1 H1 x1 (fun x G2 H2 x2 p2 => w x G2 H2 (x1.trans x2) p2) _
    | bad => trivial
  | exc c fs =>
    rw [e1] at h1
    exact fun w Q => h1 w _
  | bad => trivial
/-- arguments carried into a value -/
theorem sd_bindA {t : TA} {t' : List V → TE} {σ : L2.St} {G H : Hp} {ra : R (List PyData)} {rk : List PyData → R PyData} (m : PMono P) (ha : SdA W t σ G H ra)
    (hk : ∀ ds vs G1 H1, ra = .ok ds → Ext G H G1 H1 → DeAll G1 vs ds → Sd P W (t' vs) σ G1 H1 (rk ds)) : Sd P W (fun σ H Q => t σ H fun vs H1 => t' vs σ H1 Q) σ G H (ra.bind rk) := by
  cases ra with
  | ok d =>
    show Sd P W _ σ G H (rk d)
    have hk := fun vs G1 H1 => hk d vs G1 H1 rfl
    cases e : rk d with
    | ok z =>
      rw [e] at hk
      intro Q q
      exact ha _ fun vs G1 H1 e1 p1 => hk vs G1 H1 e1 p1 Q fun v2 G2 H2 e2 p2 => q v2 G2 H2 (e1.trans e2) (m _ _ _ _ _ _ _ _ e1 p2)
    | exc c fs =>
      rw [e] at hk
      intro w Q
      exact ha _ fun vs G1 H1 e1 p1 => hk vs G1 H1 e1 p1 (fun x G2 H2 e2 p2 => w x G2 H2 (e1.trans e2) p2) Q
    | bad => trivial
  | exc c fs =>
    intro w Q
    exact ha w _
  | bad => trivial
def tupR (ds : List PyData) : R PyData := if ds.length ≤ sizeLine then .ok (.tuple ds) else .bad
def lstR (ds : List PyData) : R PyData := if ds.length ≤ sizeLine then .ok (.list ds) else .bad
theorem ve_tup {t : TA} {f : En → R (List PyData)} {x1} (h : VA X W es t f) : VE X W (.Tuple es x1 pos) (tTup t) (fun r => (f r).bind tupR) := by
  refine ⟨pe_tup h.pa, fun F G r σ H q => ?_⟩
  refine sd_bindA (t' := fun vs _ H1 Q => vs.length ≤ sizeLine ∧ ∀ p, H1 p = none → Q (.ref p) (upd H1 p (.tup vs))) mE (h.so F G r σ H q) fun ds vs G1 H1 _ e1 p1 => ?_
  unfold tupR
  split
  · rename_i hl
    exact sd_eq (sd_tup e1.gh p1) fun Q z => ⟨by rw [p1.len]; exact hl, z⟩
  · trivial
theorem vo_lst {t : TA} {f : En → R (List PyData)} (h : VA X W es t f) : VO X W (.List es pos) (tLst t) (fun r => (f r).bind lstR) := by
  refine ⟨pe_lst h.pa, fun F G r σ H q => ?_⟩
  refine sd_bindA (t' := fun vs _ H1 Q => vs.length ≤ sizeLine ∧ ∀ p, H1 p = none → Q (.ref p) (upd H1 p (.lst vs))) mO (h.so F G r σ H q) fun ds vs G1 H1 _ e1 p1 => ?_
  unfold lstR
  split
  · rename_i hl
    exact sd_eq (sd_lst e1.gh p1) fun Q z => ⟨by rw [p1.len]; exact hl, z⟩
  · trivial

/-! ### defs: a promise by a function of data -/
/-- the wish by the class itself -/
def wx (K : PySem.W.Frag) (W : WN) : WX := fun cls d σ H => ∃ c, cls = .ref (He.ga K c) ∧ W c d σ H
theorem wx_of {K : PySem.W.Frag} {W : WX} {cls : Value} {d : Option Addr} {σ : L2.St} {H : Hp} (h : wx K (fun c d σ H => W (.ref (He.ga K c)) d σ H) cls d σ H) : W cls d σ H := by
  obtain ⟨c, rfl, h⟩ := h
  exact h
theorem takes_wx {X : Cx} {K : PySem.W.Frag} {W : WX} (tk : Takes X W) : Takes X (wx K fun c d σ H => W (.ref (He.ga K c)) d σ H) := tk.imp fun _ _ _ _ h => wx_of h
def spV (K : PySem.W.Frag) (n : Nat) (Ff : List PyData → R PyData) : Sp := fun vs H Q E => vs.length = n ∧ ∃ ds G, Same G H ∧ DeAll G vs ds ∧ match Ff ds with
  | .ok d => ∀ v G' H', Ext G H G' H' → De G' v d → Q v H'
  | .exc c fs => ∀ x G' H', Ext G H G' H' → XR G' H' x fs → E (.ref (He.ga K c)) x H'
  | .bad => False
abbrev FV (P : Program) (w : World) (K : PySem.W.Frag) (mg : Str → Option Value) (base : Heap) (k : Nat) (f : Addr) (fd : FuncData) (ps : List Str) (n : Nat) (Ff : List PyData → R PyData) : Prop := FnOk P w K mg base (L2.CX P w) k f fd ps (spV K n Ff)
theorem ve_call {k n : Nat} {f : Addr} {fd : FuncData} {ps : List Str} {Ff : List PyData → R PyData} {x : Str} {p : Pos} {t : TA} {fs : En → R (List PyData)} (Fn : FV X.prog X.w X.K X.mg X.base k f fd ps n Ff) (hr : Room k X.A) (hg : Gl X x) (hm : X.mg x = some (.ref f))
    (hk : PySem.W.keepIn X.K (.ref f) = true) (hb : Binds X.K fd ps []) (tk : Takes X (wx X.K W)) (ha : VA X W (e :: es) t fs) (hn : (e :: es).length = n := by rfl)
    (hdb : (x == ("__debug__" : Str)) = false := by decide) (he : starEach (e :: es) X.env = (false, eval e X.env) :: starEach es X.env := by rfl) (hpl : (backTo pos (starEach es X.env)).any (·.1) = false := by rfl) :
    VE X W (.Call (.Name x p) (e :: es) [] pos) (tCallS (spV X.K n Ff) (WE (wx X.K W)) t) (fun r => (fs r).bind Ff) := by
  refine ⟨pe_callS Fn hr hg hm hk hb (fun σ => passAt tk σ) ha.pa hdb he hpl, fun F G r σ H q => ?_⟩
  refine sd_bindA (t' := fun vs σ H1 Q => spV X.K n Ff vs H1 Q (WE (wx X.K W) σ)) mE (ha.so F G r σ H q) fun ds vs G1 H1 e0 e1 p1 => ?_
  have l := p1.len
  have l2 := ha.len r ds e0
  cases e2 : Ff ds with
  | ok d => exact fun Q z => ⟨by omega, ds, G1, e1.gh, p1, by rw [e2]; exact z⟩
  | exc c fs => exact fun w Q => ⟨by omega, ds, G1, e1.gh, p1, by rw [e2]; exact fun x G' H' e xr => ⟨c, rfl, w x G' H' e xr⟩⟩
  | bad => trivial
end
end DL
namespace DL
open PySem L2

/-! ### slots set -/
theorem getset {α : Type} (l : List α) (i j : Nat) (x : α) : (l.set i x)[j]? = if i = j then (if i < l.length then some x else none) else l[j]? := by
  by_cases h : i = j
  · subst h
    rw [if_pos rfl]
    by_cases h2 : i < l.length
    · rw [if_pos h2, List.getElem?_set_self h2]
    · rw [if_neg h2]
      exact List.getElem?_eq_none (by rw [List.length_set]; omega)
  · rw [if_neg h, List.getElem?_set_ne h]
theorem Obs.set {F G H : Hp} {r : En} {σ : L2.St} {fp : Nat → List Addr} (h : Obs F G r σ H fp) (i : Nat) {s : Sl} (hs : ∀ o, s ≠ .obj o) (x : Option V) (hn : ∀ ds p, s = .own ds → x = some (.ref p) → ∀ (k : Nat) o, r[k]? = some (.obj o) → p ∉ fp k) : Obs F G (r.set i s) (σ.set i x) H fp :=
  h.alter (Same.refl G) (fun j o q => by
    rw [getset] at q
    by_cases z : i = j
    · rw [if_pos z] at q
      split at q
      · exact absurd (Option.some.inj q) (hs o)
      · cases q
    · rw [if_neg z] at q
      exact ⟨q, by rw [getset, if_neg z]⟩) h.nG (fun _ _ _ _ _ _ e => e) (fun j ds p q1 q2 k o q3 => by
    rw [getset] at q1 q2
    by_cases z : i = j
    · rw [if_pos z] at q1 q2
      split at q1
      · split at q2
        · exact hn ds p (Option.some.inj q1) (Option.some.inj q2) k o q3
        · cases q2
      · cases q1
    · rw [if_neg z] at q1 q2
      exact h.own k j o ds p q3 q1 q2)
theorem Obs.un {F G H : Hp} {r : En} {σ : L2.St} {fp : Nat → List Addr} (h : Obs F G r σ H fp) (i : Nat) : Obs F G (r.set i .un) σ H fp :=
  h.alter (Same.refl G) (fun j o q => by
    rw [getset] at q
    by_cases z : i = j
    · rw [if_pos z] at q
      split at q <;> cases q
    · rw [if_neg z] at q
      exact ⟨q, rfl⟩) h.nG (fun _ _ _ _ _ _ e => e) (fun j ds p q1 q2 k o q3 => by
    rw [getset] at q1
    by_cases z : i = j
    · rw [if_pos z] at q1
      split at q1 <;> cases q1
    · rw [if_neg z] at q1
      exact h.own k j o ds p q3 q1 q2)
theorem Rep.setD {F G H : Hp} {r : En} {σ : L2.St} {v : V} {d : PyData} (h : Rep F G r σ H) (i : Nat) (hv : De G v d) : Rep F G (r.set i (.dat d)) (σ.set i (some v)) H where
  sub := h.sub
  fr := h.fr
  len := by rw [List.length_set, List.length_set, h.len]
  dat := fun j e q => by
    rw [getset] at q
    rw [getset, ← h.len]
    by_cases z : i = j
    · rw [if_pos z] at q ⊢
      by_cases y : i < r.length
      · rw [if_pos y] at q ⊢
        cases q
        exact ⟨v, rfl, hv⟩
      · rw [if_neg y] at q; cases q
    · rw [if_neg z] at q ⊢
      exact h.dat j e q
  own := fun j ds q => by
    rw [getset] at q
    rw [getset]
    by_cases z : i = j
    · rw [if_pos z] at q
      split at q <;> cases q
    · rw [if_neg z] at q ⊢
      exact h.own j ds q
  sep := fun j k ds es p ne q1 q2 => by
    rw [getset] at q1 q2
    rw [getset, getset]
    by_cases z : i = j
    · rw [if_pos z] at q1
      split at q1 <;> cases q1
    · by_cases y : i = k
      · rw [if_pos y] at q2
        split at q2 <;> cases q2
      · rw [if_neg z] at q1 ⊢
        rw [if_neg y] at q2 ⊢
        exact h.sep j k ds es p ne q1 q2
  obj := by
    obtain ⟨fp, hf⟩ := h.obj
    exact ⟨fp, hf.set i (fun _ e => by cases e) _ fun _ _ e => by cases e⟩
theorem Rep.setU {F G H : Hp} {r : En} {σ : L2.St} (h : Rep F G r σ H) (i : Nat) (o : Option V) : Rep F G (r.set i .un) (σ.set i o) H where
  sub := h.sub
  fr := h.fr
  len := by rw [List.length_set, List.length_set, h.len]
  dat := fun j e q => by
    rw [getset] at q
    rw [getset]
    by_cases z : i = j
    · rw [if_pos z] at q
      split at q <;> cases q
    · rw [if_neg z] at q ⊢
      exact h.dat j e q
  own := fun j ds q => by
    rw [getset] at q
    rw [getset]
    by_cases z : i = j
    · rw [if_pos z] at q
      split at q <;> cases q
    · rw [if_neg z] at q ⊢
      exact h.own j ds q
  sep := fun j k ds es p ne q1 q2 => by
    rw [getset] at q1 q2
    rw [getset, getset]
    by_cases z : i = j
    · rw [if_pos z] at q1
      split at q1 <;> cases q1
    · by_cases y : i = k
      · rw [if_pos y] at q2
        split at q2 <;> cases q2
      · rw [if_neg z] at q1 ⊢
        rw [if_neg y] at q2 ⊢
        exact h.sep j k ds es p ne q1 q2
  obj := by
    obtain ⟨fp, hf⟩ := h.obj
    exact ⟨fp, hf.set i (fun _ e => by cases e) _ fun _ _ e => by cases e⟩
theorem Rep.setO {F G H : Hp} {r : En} {σ : L2.St} {p : Addr} {vs : List V} {ds : List PyData} (h : Rep F G r σ H) (i : Nat) (h1 : H p = some (.lst vs)) (h2 : G p = none) (h3 : F p = none) (h4 : DeAll G vs ds)
    (h5 : ∀ (j : Nat) es, r[j]? = some (.own es) → σ[j]? ≠ some (some (.ref p))) (h6 : ∃ fp, Obs F G r σ H fp ∧ ∀ (k : Nat) o, r[k]? = some (.obj o) → p ∉ fp k) : Rep F G (r.set i (.own ds)) (σ.set i (some (.ref p))) H where
  sub := h.sub
  fr := h.fr
  len := by rw [List.length_set, List.length_set, h.len]
  dat := fun j e q => by
    rw [getset] at q
    rw [getset]
    by_cases z : i = j
    · rw [if_pos z] at q
      split at q <;> cases q
    · rw [if_neg z] at q ⊢
      exact h.dat j e q
  own := fun j es q => by
    rw [getset] at q
    rw [getset, ← h.len]
    by_cases z : i = j
    · rw [if_pos z] at q ⊢
      by_cases y : i < r.length
      · rw [if_pos y] at q ⊢
        cases q
        exact ⟨p, vs, rfl, h1, h2, h3, h4⟩
      · rw [if_neg y] at q; cases q
    · rw [if_neg z] at q ⊢
      exact h.own j es q
  sep := fun j k es fs a ne q1 q2 => by
    rw [getset] at q1 q2
    rw [getset, getset, ← h.len]
    by_cases z : i = j
    · by_cases y : i = k
      · exact absurd (z.symm.trans y) ne
      · rw [if_pos z, if_neg y]
        rw [if_neg y] at q2
        intro q3 q4
        split at q3
        · cases q3
          exact h5 k fs q2 q4
        · cases q3
    · rw [if_neg z] at q1 ⊢
      by_cases y : i = k
      · rw [if_pos y]
        intro q3 q4
        split at q4
        · cases q4
          exact h5 j es q1 q3
        · cases q4
      · rw [if_neg y] at q2 ⊢
        exact h.sep j k es fs a ne q1 q2
  obj := by
    obtain ⟨fp, hf, hp⟩ := h6
    exact ⟨fp, hf.set i (fun _ e => by cases e) _ fun _ q _ e => by cases e; exact hp⟩
/-- a list of one's own is changed -/
theorem Rep.mut {F G H : Hp} {r : En} {σ : L2.St} {p : Addr} {vs ws : List V} {ds es : List PyData} (h : Rep F G r σ H) (i : Nat) (hi : r[i]? = some (.own ds)) (hs : σ[i]? = some (some (.ref p))) (h1 : H p = some (.lst vs)) (h2 : G p = none) (h3 : F p = none) (h4 : DeAll G ws es) :
    Rep F G (r.set i (.own es)) σ (upd H p (.lst ws)) where
  sub := fun a o q => by
    rw [upd_ne (ne_of_none q h2)]
    exact h.sub a o q
  fr := fun a o q => by
    rw [upd_ne (ne_of_none q h3)]
    exact h.fr a o q
  len := by rw [List.length_set, h.len]
  dat := fun j e q => by
    rw [getset] at q
    by_cases z : i = j
    · rw [if_pos z] at q
      split at q <;> cases q
    · rw [if_neg z] at q
      exact h.dat j e q
  own := fun j fs q => by
    rw [getset] at q
    by_cases z : i = j
    · rw [if_pos z] at q
      subst z
      split at q
      · cases q
        exact ⟨p, ws, hs, upd_same, h2, h3, h4⟩
      · cases q
    · rw [if_neg z] at q
      obtain ⟨a, us, k1, k2, k3, k4, k5⟩ := h.own j fs q
      refine ⟨a, us, k1, ?_, k3, k4, k5⟩
      have ne : a ≠ p := fun e => h.sep i j ds fs p z hi q hs (by rw [k1, e])
      rw [upd_ne ne]
      exact k2
  sep := fun j k fs gs a ne q1 q2 => by
    rw [getset] at q1 q2
    have own' : ∀ (m : Nat) us, (if i = m then (if i < r.length then some (Sl.own es) else none) else r[m]?) = some (.own us) → ∃ us', r[m]? = some (.own us') := fun m us q => by
      by_cases z : i = m
      · subst z
        exact ⟨ds, hi⟩
      · rw [if_neg z] at q
        exact ⟨us, q⟩
    obtain ⟨a1, e1⟩ := own' j fs q1
    obtain ⟨a2, e2⟩ := own' k gs q2
    exact h.sep j k a1 a2 a ne e1 e2
  obj := by
    obtain ⟨fp, hf⟩ := h.obj
    refine ⟨fp, hf.alter (Same.refl G) (fun j o q => ?_) hf.nG (fun j o q a m u e => ?_) fun j fs q q1 q2 k o q3 => ?_⟩
    · rw [getset] at q
      by_cases z : i = j
      · rw [if_pos z] at q
        split at q <;> cases q
      · rw [if_neg z] at q
        exact ⟨q, rfl⟩
    · rw [upd_ne (show a ≠ p from fun z => hf.own j i o ds p q hi hs (by rw [← z]; exact m))]
      exact e
    · rw [getset] at q1
      by_cases z : i = j
      · subst z
        exact hf.own k i o ds q q3 hi q2
      · rw [if_neg z] at q1
        exact hf.own k j o fs q q3 q1 q2
/-- a list of one's own becomes data -/
def fzE (i : Nat) (r : En) : En := match r[i]? with
  | some (.own ds) => r.set i (.dat (.list ds))
  | _ => r
theorem Rep.fz {F G H : Hp} {r : En} {σ : L2.St} (h : Rep F G r σ H) (i : Nat) : ∃ G', Same G G' ∧ Rep F G' (fzE i r) σ H := by
  unfold fzE
  split
  · rename_i ds e
    obtain ⟨p, vs, h1, h2, h3, h4, h5⟩ := h.own i ds e
    have nw := Same.new (o := .lst vs) h3
    refine ⟨upd G p (.lst vs), nw, ?_, ?_, ?_, ?_, ?_, ?_, ?_⟩
    · intro a o q
      by_cases z : a = p
      · subst z
        rw [upd_same] at q
        rw [h2]; exact q
      · rw [upd_ne z] at q
        exact h.sub a o q
    · intro a o q
      obtain ⟨k1, k2⟩ := h.fr a o q
      refine ⟨k1, ?_⟩
      rw [upd_ne (ne_of_none q h4)]
      exact k2
    · rw [List.length_set, h.len]
    · intro j d q
      rw [getset] at q
      by_cases z : i = j
      · rw [if_pos z] at q
        subst z
        split at q
        · cases q
          exact ⟨_, h1, .lst (.inl upd_same) (dam nw h5)⟩
        · cases q
      · rw [if_neg z] at q
        obtain ⟨v, k1, k2⟩ := h.dat j d q
        exact ⟨v, k1, dm nw k2⟩
    · intro j fs q
      rw [getset] at q
      by_cases z : i = j
      · rw [if_pos z] at q
        split at q <;> cases q
      · rw [if_neg z] at q
        obtain ⟨a, us, k1, k2, k3, k4, k5⟩ := h.own j fs q
        refine ⟨a, us, k1, k2, ?_, k4, dam nw k5⟩
        have ne : a ≠ p := fun y => h.sep i j ds fs p z e q h1 (by rw [k1, y])
        rw [upd_ne ne]
        exact k3
    · intro j k fs gs a ne q1 q2
      rw [getset] at q1 q2
      by_cases z : i = j
      · rw [if_pos z] at q1
        split at q1 <;> cases q1
      · by_cases y : i = k
        · rw [if_pos y] at q2
          split at q2 <;> cases q2
        · rw [if_neg z] at q1
          rw [if_neg y] at q2
          exact h.sep j k fs gs a ne q1 q2
    · obtain ⟨fp, hf⟩ := h.obj
      refine ⟨fp, hf.alter nw (fun j o q => ?_) (fun j o q a m => ?_) (fun _ _ _ _ _ _ e => e) fun j fs q q1 q2 k o q3 => ?_⟩
      · rw [getset] at q
        by_cases z : i = j
        · rw [if_pos z] at q
          split at q <;> cases q
        · rw [if_neg z] at q
          exact ⟨q, rfl⟩
      · rw [upd_ne (show a ≠ p from fun z => hf.own j i o ds p q e h1 (by rw [← z]; exact m))]
        exact hf.nG j o q a m
      · rw [getset] at q1
        by_cases z : i = j
        · rw [if_pos z] at q1
          split at q1 <;> cases q1
        · rw [if_neg z] at q1
          exact hf.own k j o fs q q3 q1 q2
  · exact ⟨G, Same.refl G, h⟩

/-! ### statements -/
def Frm (F G H : Hp) : Prop := ∀ a o, F a = some o → H a = some o ∧ (G a = none ∨ ∃ xs, o = .tup xs)
/-- D takes the end o -/
def Acc (W : WN) (F G : Hp) (D : Ends) : O → Prop
  | .nx r => ∀ σ' G' H', Same G G' → Rep F G' r σ' H' → D.nx σ' H'
  | .rt d => ∀ v G' H', Same G G' → Same G' H' → Frm F G' H' → De G' v d → D.rt v H'
  | .bk r => ∀ σ' G' H', Same G G' → Rep F G' r σ' H' → D.bk σ' H'
  | .ct r => ∀ σ' G' H', Same G G' → Rep F G' r σ' H' → D.ct σ' H'
  | .exc c fs r => ∀ x σ' G' H', Same G G' → Rep F G' r σ' H' → XR G' H' x fs → W c x σ' H'
  | .bad => False
theorem Acc.mono {W : WN} {F G G1 : Hp} {D : Ends} {o : O} (h : Acc W F G D o) (s : Same G G1) : Acc W F G1 D o := by
  cases o with
  | nx r => exact fun σ' G' H' e => h σ' G' H' (s.trans e)
  | rt d => exact fun v G' H' e => h v G' H' (s.trans e)
  | bk r => exact fun σ' G' H' e => h σ' G' H' (s.trans e)
  | ct r => exact fun σ' G' H' e => h σ' G' H' (s.trans e)
  | exc c fs r => exact fun x σ' G' H' e => h x σ' G' H' (s.trans e)
  | bad => exact h
structure VS (X : Cx) (W : WN) (st : Stmt) (t : TS) (f : En → O) : Prop where
  ps : PS X st t
  so : ∀ F G r σ H, Rep F G r σ H → ∀ D, Acc W F G D (f r) → t D σ H
structure VSs (X : Cx) (W : WN) (st : List Stmt) (t : TS) (f : En → O) : Prop where
  ps : PSs X st t
  so : ∀ F G r σ H, Rep F G r σ H → ∀ D, Acc W F G D (f r) → t D σ H
/-- an expression's end in a statement -/
theorem acc_bind {P : Post} {W : WN} {F G H : Hp} {r : En} {σ : L2.St} {D : Ends} {te : TE} {k : V → Hp → Prop} {re : R PyData} {fo : PyData → O} (q : Rep F G r σ H) (h : Sd P W te σ G H re) (a : Acc W F G D (re.toO r fo))
    (hk : ∀ d v G' H', re = .ok d → Ext G H G' H' → P G H G' H' v d → Acc W F G' D (fo d) → k v H') : te σ H k := by
  cases re with
  | ok d => exact h k fun v G' H' e p => hk d v G' H' rfl e p (Acc.mono a e.gg)
  | exc c fs => exact h (fun x G' H' e xr => a x σ G' H' e.gg (q.ext e) xr) k
  | bad => exact (show False from a).elim
theorem acc_bindT {W : WN} {F G H : Hp} {r : En} {σ : L2.St} {D : Ends} {tt : TT} {k : Bool → Hp → Prop} {re : R Bool} {fo : Bool → O} (q : Rep F G r σ H) (h : SdT W tt σ G H re) (a : Acc W F G D (re.toO r fo))
    (hk : ∀ d G' H', re = .ok d → Ext G H G' H' → Acc W F G' D (fo d) → k d H') : tt σ H k := by
  cases re with
  | ok d => exact h k fun G' H' e => hk d G' H' rfl e (Acc.mono a e.gg)
  | exc c fs => exact h (fun x G' H' e xr => a x σ G' H' e.gg (q.ext e) xr) k
  | bad => exact (show False from a).elim
section
variable {X : Cx} {W : WN} {e a b c : Expr} {te ta tb tc : TE} {fe fa fb : En → R PyData} {pos pos' : Pos} {P : Post} {st : Stmt} {sts : List Stmt} {t u : TS} {f g : En → O} {tA : TT} {fA : En → R Bool}
theorem vss_nil : VSs X W [] tNext .nx := ⟨pss_nil, fun F G r σ H q D a => a σ G H (Same.refl G) q⟩
theorem vss_one (h : VS X W st t f) : VSs X W [st] t f := ⟨pss_one h.ps, h.so⟩
theorem vss_cons (h1 : VS X W st t f) (h2 : VSs X W sts u g) : VSs X W (st :: sts) (tSeq t u) (fun r => (f r).seq g) := by
  refine ⟨pss_cons h1.ps h2.ps, fun F G r σ H q D a => ?_⟩
  refine h1.so F G r σ H q { D with nx := u D } ?_
  cases e : f r with
  | nx r' =>
    rw [e] at a
    exact fun σ' G' H' s q' => h2.so F G' r' σ' H' q' D (Acc.mono a s)
  | rt d => rw [e] at a; exact a
  | bk r' => rw [e] at a; exact a
  | ct r' => rw [e] at a; exact a
  | exc c fs r' => rw [e] at a; exact a
  | bad => rw [e] at a; exact (show False from a).elim
theorem vss_bad : VSs X W sts tNever (fun _ => .bad) := ⟨pss_never, fun F G r σ H q D a => (show False from a).elim⟩
theorem vs_bad : VS X W st tNever (fun _ => .bad) := ⟨ps_never, fun F G r σ H q D a => (show False from a).elim⟩
/-- a list of one's own becomes data from here on -/
theorem vss_fz (i : Nat) (h : VSs X W sts u g) : VSs X W sts u (fun r => g (fzE i r)) := ⟨h.ps, fun F G r σ H q D a => by
  obtain ⟨G', s, q'⟩ := q.fz i
  exact h.so F G' _ σ H q' D (Acc.mono a s)⟩
theorem vs_fz (i : Nat) (h : VS X W st u g) : VS X W st u (fun r => g (fzE i r)) := ⟨h.ps, fun F G r σ H q D a => by
  obtain ⟨G', s, q'⟩ := q.fz i
  exact h.so F G' _ σ H q' D (Acc.mono a s)⟩
theorem vs_pass : VS X W (.Pass pos) tNext .nx := ⟨ps_pass, fun F G r σ H q D a => a σ G H (Same.refl G) q⟩
theorem vs_break : VS X W (.Break pos) tBreak .bk := ⟨ps_break, fun F G r σ H q D a => a σ G H (Same.refl G) q⟩
theorem vs_cont : VS X W (.Continue pos) tCont .ct := ⟨ps_continue, fun F G r σ H q D a => a σ G H (Same.refl G) q⟩
theorem vs_expr (h : Vx P X W e te fe) (hs : swapsWith e none pos.line X.env = pure false := by rfl) : VS X W (.Expr e pos) (tDrop te) (fun r => (fe r).toO r fun _ => .nx r) :=
  ⟨ps_expr h.pe hs, fun F G r σ H q D a => acc_bind q (h.so F G r σ H q) a fun d v G' H' _ e _ a' => a' σ G' H' (Same.refl G') (q.ext e)⟩
theorem Rep.frm {F G H : Hp} {r : En} {σ : L2.St} (q : Rep F G r σ H) : Frm F G H := q.fr
theorem vs_ret (h : VE X W e te fe) : VS X W (.Return (some e) pos) (tRet te) (fun r => (fe r).toO r .rt) :=
  ⟨ps_ret h.pe, fun F G r σ H q D a => acc_bind q (h.so F G r σ H q) a fun d v G' H' _ e p a' => a' v G' H' (Same.refl G') e.gh (q.ext e).frm p⟩
theorem vs_retN : VS X W (.Return none pos) tRetN (fun _ => .rt .none) := ⟨ps_retN, fun F G r σ H q D a => a .non G H (Same.refl G) q.sub q.fr .non⟩
theorem vs_set {i : Nat} {x : Str} (hp : ∀ t', PE X e t' → PS X (.Assign [.Name x pos'] e pos) (tAsg t' (gName i))) (h : VE X W e te fe) : VS X W (.Assign [.Name x pos'] e pos) (tAsg te (gName i)) (fun r => (fe r).toO r fun d => .nx (r.set i (.dat d))) :=
  ⟨hp te h.pe, fun F G r σ H q D a => acc_bind (k := fun x H1 => gName i x σ H1 D.nx) q (h.so F G r σ H q) a fun d v G' H' _ e p a' => a' _ G' H' (Same.refl G') ((q.ext e).setD i p)⟩
def ownO (i : Nat) (r : En) : PyData → O
  | .list ds => .nx (r.set i (.own ds))
  | _ => .bad
theorem acc_own {F G H G' H' : Hp} {r : En} {σ : L2.St} {D : Ends} {d : PyData} {v : V} {i : Nat} (q : Rep F G r σ H) (e : Ext G H G' H') (p : pO G H G' H' v d) (a : Acc W F G' D (ownO i r d)) : D.nx (σ.set i (some v)) H' := by
  obtain ⟨p, vs, ds, rfl, rfl, h3, h4, h5, h6⟩ := p
  refine a _ G' H' (Same.refl G') ((q.ext e).setO i h5 h4 ?_ h6 (fun j es q1 q2 => ?_) ?_)
  · cases z : F p with
    | none => rfl
    | some o =>
      have := (q.fr p o z).1
      rw [h3] at this; cases this
  · obtain ⟨a2, us, k1, k2, _⟩ := q.own j es q1
    rw [k1] at q2
    cases q2
    rw [h3] at k2; cases k2
  · obtain ⟨fp, hf⟩ := q.obj
    refine ⟨fp, hf.alter e.gg (fun j o z => ⟨z, rfl⟩) (hf.extG e) (fun j o z a m u y => e.hh a u y) (fun j ds p z1 z2 i o z3 => hf.own i j o ds p z3 z1 z2), fun k o z m => ?_⟩
    obtain ⟨v, _, y⟩ := hf.at_ k o z
    obtain ⟨u, y1, _⟩ := y.part _ m
    rw [h3] at y1; cases y1
theorem vs_setO {i : Nat} {x : Str} (hp : ∀ t', PE X e t' → PS X (.Assign [.Name x pos'] e pos) (tAsg t' (gName i))) (h : VO X W e te fe) : VS X W (.Assign [.Name x pos'] e pos) (tAsg te (gName i)) (fun r => (fe r).toO r (ownO i r)) :=
  ⟨hp te h.pe, fun F G r σ H q D a => acc_bind (k := fun x H1 => gName i x σ H1 D.nx) q (h.so F G r σ H q) a fun d v G' H' _ e p a' => acc_own q e p a'⟩
theorem vs_if (hc : VT X W c tA fA) {bt bf : List Stmt} (h1 : VSs X W bt t f) (h2 : VSs X W bf u g) : VS X W (.If c bt bf pos) (tIfS tA t u) (fun r => (fA r).toO r fun k => if k then f r else g r) := by
  refine ⟨ps_if hc.pt h1.ps h2.ps, fun F G r σ H q D a => ?_⟩
  refine acc_bindT (k := fun b H1 => if b = true then t D σ H1 else u D σ H1) q (hc.so F G r σ H q) a fun d G' H' _ e a' => ?_
  cases d with
  | true => exact h1.so F G' r σ H' (q.ext e) D a'
  | false => exact h2.so F G' r σ H' (q.ext e) D a'
/-! ### targets -/
structure VG (X : Cx) (tg : Expr) (g : TG) (sl : List Nat) (f : PyData → En → Option En) : Prop where
  pg : PG X tg g
  so : ∀ F G r σ H v d r', Rep F G r σ H → De G v d → f d r = some r' → ∀ Q : L2.St → Hp → Prop, (∀ σ', Rep F G r' σ' H → (∀ vs : List Nat, (∀ i ∈ sl, i ∈ vs) → wipe σ' vs = wipe σ vs) → Q σ' H) → g v σ H Q
structure VGs (X : Cx) (tg : List Expr) (g : TGs) (sl : List Nat) (f : List PyData → En → Option En) : Prop where
  pg : PGs X tg g
  so : ∀ F G r σ H v d r', Rep F G r σ H → DeAll G v d → f d r = some r' → ∀ Q : L2.St → Hp → Prop, (∀ σ', Rep F G r' σ' H → (∀ vs : List Nat, (∀ i ∈ sl, i ∈ vs) → wipe σ' vs = wipe σ vs) → Q σ' H) → g v σ H Q
theorem wipe_get (σ : L2.St) (j : Nat) : ∀ vs : List Nat, (wipe σ vs)[j]? = if j ∈ vs then (if j < σ.length then some none else none) else σ[j]?
  | [] => by simp [wipe]
  | v :: vs => by
    unfold wipe
    rw [getset, wipe_length, wipe_get σ j vs]
    by_cases h : v = j
    · subst h
      simp
    · rw [if_neg h]
      have e : (j ∈ v :: vs) = (j ∈ vs) := by simp [show j ≠ v from fun z => h z.symm]
      simp only [e]
theorem wipe_set (σ : L2.St) (i : Nat) (x : Option V) (vs : List Nat) (h : i ∈ vs) : wipe (σ.set i x) vs = wipe σ vs := by
  apply List.ext_getElem?
  intro j
  rw [wipe_get, wipe_get, List.length_set, getset]
  by_cases z : j ∈ vs
  · rw [if_pos z, if_pos z]
  · rw [if_neg z, if_neg z, if_neg (show ¬ i = j from fun e => z (e ▸ h))]
theorem wipe_wipe (σ : L2.St) (vs : List Nat) : wipe (wipe σ vs) vs = wipe σ vs := by
  apply List.ext_getElem?
  intro j
  rw [wipe_get, wipe_get, wipe_length]
  by_cases z : j ∈ vs
  · rw [if_pos z, if_pos z]
  · rw [if_neg z]
def gN (i : Nat) : PyData → En → Option En := fun d r => some (r.set i (.dat d))
theorem vg_name {i : Nat} {x : Str} (hp : PG X (.Name x pos) (gName i)) : VG X (.Name x pos) (gName i) [i] (gN i) :=
  ⟨hp, fun F G r σ H v d r' q h e Q z => by
    cases e
    exact z _ (q.setD i h) fun vs hv => wipe_set σ i _ vs (hv i (by simp))⟩
def gsN : List PyData → En → Option En
  | [], r => some r
  | _, _ => none
def gsC (f : PyData → En → Option En) (fs : List PyData → En → Option En) : List PyData → En → Option En
  | d :: ds, r => (f d r).bind fun r1 => fs ds r1
  | [], _ => none
theorem vgs_nil : VGs X [] gNil [] gsN := ⟨pgs_nil, fun F G r σ H v d r' q h e Q z => by
  cases h with
  | nil =>
    cases e
    exact ⟨rfl, z σ q fun _ _ => rfl⟩
  | cons _ _ => cases e⟩
theorem vgs_cons {tg : Expr} {tgs : List Expr} {g1 : TG} {g2 : TGs} {s1 s2 : List Nat} {f1 : PyData → En → Option En} {f2 : List PyData → En → Option En} (h1 : VG X tg g1 s1 f1) (h2 : VGs X tgs g2 s2 f2)
    (hs : (assignEach (tg :: tgs) X.env).map (·.2) = assign tg X.env :: (assignEach tgs X.env).map (·.2) := by rfl) : VGs X (tg :: tgs) (gCons g1 g2) (s1 ++ s2) (gsC f1 f2) :=
  ⟨pgs_cons h1.pg h2.pg hs, fun F G r σ H v d r' q h e Q z => by
    cases h with
    | nil => cases e
    | cons ha hb =>
      rename_i v vs d ds
      have e' : (f1 d r).bind (fun r1 => f2 ds r1) = some r' := e
      cases e1 : f1 d r with
      | none => rw [e1] at e'; cases e'
      | some r1 =>
        rw [e1] at e'
        refine ⟨v, vs, rfl, h1.so F G r σ H v d r1 q ha e1 _ fun σ1 q1 w1 => ?_⟩
        exact h2.so F G r1 σ1 H vs ds r' q1 hb e' Q fun σ2 q2 w2 => z σ2 q2 fun us hu => (w2 us fun i hi => hu i (List.mem_append_right _ hi)).trans (w1 us fun i hi => hu i (List.mem_append_left _ hi))⟩
def gT (f : List PyData → En → Option En) : PyData → En → Option En
  | .tuple ds, r => f ds r
  | _, _ => none
theorem vg_tup {tgs : List Expr} {k : Nat} {g2 : TGs} {s2 : List Nat} {f2 : List PyData → En → Option En} {n : Nat} (hc : X.calm = true) (h : VGs X tgs g2 s2 f2) (hl : ∀ ds r r', f2 ds r = some r' → ds.length = n) (hn : (assignEach tgs X.env).length = n := by rfl)
    (hst : (assignEach tgs X.env).findIdx? (·.1) = none := by rfl) : VG X (.Tuple tgs k pos) (gTup X.K n g2) s2 (gT f2) :=
  ⟨pg_tup hc h.pg hn hst, fun F G r σ H v d r' q hd e Q z => by
    cases hd with
    | tup h1 h2 => exact ⟨_, _, rfl, slT (rdm q.sub (.inl h1)), (DeAll.len h2).trans (hl _ _ _ e), h.so F G r σ H _ _ r' q h2 e Q z⟩
    | _ => cases e⟩
theorem gsN_len {ds : List PyData} {r r' : En} (h : gsN ds r = some r') : ds.length = 0 := by
  cases ds with
  | nil => rfl
  | cons _ _ => cases h
theorem gsC_len {f : PyData → En → Option En} {fs : List PyData → En → Option En} {n : Nat} (hf : ∀ ds r r', fs ds r = some r' → ds.length = n) {ds : List PyData} {r r' : En} (h : gsC f fs ds r = some r') : ds.length = n + 1 := by
  cases ds with
  | nil => cases h
  | cons d ds =>
    have h' : (f d r).bind (fun r1 => fs ds r1) = some r' := h
    cases e : f d r with
    | none => rw [e] at h'; cases h'
    | some r1 =>
      rw [e] at h'
      show ds.length + 1 = n + 1
      rw [hf ds r1 r' h']
/-- two, three names -/
theorem vg_tup2 {t1 t2 : Expr} {k : Nat} {g1 g2 : TG} {s1 s2 : List Nat} {f1 f2 : PyData → En → Option En} (hc : X.calm = true) (h : VGs X [t1, t2] (gCons g1 (gCons g2 gNil)) (s1 ++ (s2 ++ [])) (gsC f1 (gsC f2 gsN))) (hn : (assignEach [t1, t2] X.env).length = 2 := by rfl)
    (hst : (assignEach [t1, t2] X.env).findIdx? (·.1) = none := by rfl) : VG X (.Tuple [t1, t2] k pos) (gTup X.K 2 (gCons g1 (gCons g2 gNil))) (s1 ++ (s2 ++ [])) (gT (gsC f1 (gsC f2 gsN))) :=
  vg_tup hc h (fun _ _ _ z => gsC_len (fun _ _ _ z => gsC_len (fun _ _ _ z => gsN_len z) z) z) hn hst
def asgO (f : PyData → En → Option En) (r : En) (d : PyData) : O := match f d r with
  | some r' => .nx r'
  | none => .bad
theorem vs_asg {tg : Expr} {g : TG} {sl : List Nat} {f : PyData → En → Option En} (he : VE X W e te fe) (hg : VG X tg g sl f) (hs : swapsWithSole [tg] e pos.line X.env = pure false := by rfl) (hw : swappedStores [tg] e X.env = pure none := by rfl)
    (h1 : (assignEach [tg] X.env).map (·.2) = [assign tg X.env] := by rfl) : VS X W (.Assign [tg] e pos) (tAsg te g) (fun r => (fe r).toO r (asgO f r)) := by
  refine ⟨ps_asg he.pe hg.pg hs hw h1, fun F G r σ H q D a => ?_⟩
  refine acc_bind (k := fun x H1 => g x σ H1 D.nx) q (he.so F G r σ H q) a fun d v G' H' _ e p a' => ?_
  cases z : f d r with
  | none =>
    unfold asgO at a'
    rw [z] at a'
    exact (show False from a').elim
  | some r' =>
    unfold asgO at a'
    rw [z] at a'
    exact hg.so F G' r σ H' v d r' (q.ext e) p z _ fun σ' q' _ => a' σ' G' H' (Same.refl G') q'
/-! ### what is walked -/
structure WalkD (J : It) (G : Hp) (items : List PyData) : Prop where
  small : items.length ≤ sizeLine
  goes : ∀ G2 H2 (i : Nat), Same G G2 → Same G2 H2 → i < items.length → J.go i H2
  stops : ∀ G2 H2, Same G G2 → Same G2 H2 → J.stop items.length H2
  yields : ∀ G2 H2 (i : Nat) x H3, Same G G2 → Same G2 H2 → i < items.length → J.yld i H2 x H3 → ∃ d G3, items[i]? = some d ∧ Ext G2 H2 G3 H3 ∧ De G3 x d
def SdI (W : WN) (wi : TI) (σ : L2.St) (G H : Hp) : R (List PyData) → Prop
  | .ok items => ∀ Q : It → Hp → Prop, (∀ J G' H', Ext G H G' H' → WalkD J G' items → Q J H') → wi σ H Q
  | .exc c fs => (∀ x G' H', Ext G H G' H' → XR G' H' x fs → W c x σ H') → ∀ Q : It → Hp → Prop, wi σ H Q
  | .bad => True
structure VI (X : Cx) (W : WN) (tg iter : Expr) (wi : TI) (f : En → R (List PyData)) : Prop where
  pi : PI X tg iter wi
  so : ∀ F G r σ H, Rep F G r σ H → SdI W wi σ G H (f r)
def forL (ft : PyData → En → Option En) (fb : En → O) : List PyData → En → O
  | [], r => .nx r
  | x :: xs, r => match ft x r with
    | none => .bad
    | some r1 => match fb r1 with
      | .nx r2 => forL ft fb xs r2
      | .ct r2 => forL ft fb xs r2
      | .bk r2 => .nx r2
      | .rt d => .rt d
      | .exc c fs r2 => .exc c fs r2
      | .bad => .bad
theorem drop_at {α : Type} {l : List α} {i : Nat} {x : α} (h : l[i]? = some x) : l.drop i = x :: l.drop (i + 1) := by
  obtain ⟨h1, h2⟩ := List.getElem?_eq_some_iff.mp h
  rw [List.drop_eq_getElem_cons h1, h2]
theorem vs_for {tg iter : Expr} {body : List Stmt} {wi : TI} {g : TG} {sl : List Nat} {tb : TS} {fi : En → R (List PyData)} {ft : PyData → En → Option En} {fb : En → O} (hp : PassesOwn (model X.prog X.w) X.A X.env X.xe) (hc : X.calm = true) (hi : VI X W tg iter wi fi) (hg : VG X tg g sl ft) (hb : VSs X W body tb fb)
    (hs : ∀ x, foldedSetIterable iter X.env x = pure x := by intro _; rfl) : VS X W (.For tg iter body [] pos) (tFor wi g tb) (fun r => (fi r).toO r fun items => forL ft fb items r) := by
  refine ⟨ps_for hp hc hi.pi hg.pg hb.ps hs, fun F G r σ H q D a => ?_⟩
  have h := hi.so F G r σ H q
  cases e0 : fi r with
  | ok items =>
    rw [e0] at h a
    refine h _ fun J G1 H1 e1 wk => ?_
    refine ⟨fun i m σ H => ∃ r G', m = items.length - i ∧ i ≤ items.length ∧ Same G1 G' ∧ Rep F G' r σ H ∧ Acc W F G' D (forL ft fb (items.drop i) r), ⟨items.length, r, G1, by simp, Nat.zero_le _, Same.refl G1, q.ext e1, Acc.mono a e1.gg⟩, ?_⟩
    rintro i m σ2 H2 ⟨r2, G2, rfl, hle, s2, q2, a2⟩
    by_cases hlt : i < items.length
    · refine .inr ⟨wk.goes G2 H2 i s2 q2.sub hlt, fun σ' H' => ∃ r G', Same G1 G' ∧ Rep F G' r σ' H' ∧ Acc W F G' D (forL ft fb (items.drop (i + 1)) r), fun σ' H' ⟨r', G', k1, k2, k3⟩ => ⟨items.length - (i + 1), by omega, r', G', rfl, hlt, k1, k2, k3⟩, fun x H3 y => ?_⟩
      obtain ⟨d, G3, ed, e3, hd⟩ := wk.yields G2 H2 i x H3 s2 q2.sub hlt y
      rw [drop_at ed] at a2
      have q3 := q2.ext e3
      cases z : ft d r2 with
      | none =>
        simp only [forL, z] at a2
        exact (show False from a2).elim
      | some r3 =>
        simp only [forL, z] at a2
        refine hg.so F G3 r2 σ2 H3 x d r3 q3 hd z _ fun σ4 q4 _ => ?_
        refine hb.so F G3 r3 σ4 H3 q4 _ ?_
        cases y2 : fb r3 with
        | nx r5 =>
          simp only [y2] at a2
          exact fun σ5 G5 H5 s5 q5 => ⟨r5, G5, s2.trans (e3.gg.trans s5), q5, Acc.mono a2 (e3.gg.trans s5)⟩
        | ct r5 =>
          simp only [y2] at a2
          exact fun σ5 G5 H5 s5 q5 => ⟨r5, G5, s2.trans (e3.gg.trans s5), q5, Acc.mono a2 (e3.gg.trans s5)⟩
        | bk r5 =>
          simp only [y2] at a2
          exact Acc.mono (o := .nx r5) a2 e3.gg
        | rt d5 =>
          simp only [y2] at a2
          exact Acc.mono (o := .rt d5) a2 e3.gg
        | exc c5 f5 r5 =>
          simp only [y2] at a2
          exact Acc.mono (o := .exc c5 f5 r5) a2 e3.gg
        | bad =>
          simp only [y2] at a2
          exact (show False from a2).elim
    · have e : i = items.length := by omega
      subst e
      rw [List.drop_length] at a2
      exact .inl ⟨wk.stops G2 H2 s2 q2.sub, a2 σ2 G2 H2 (Same.refl G2) q2⟩
  | exc c fs =>
    rw [e0] at h a
    exact h (fun x G' H' e xr => a x σ G' H' e.gg (q.ext e) xr) _
  | bad =>
    rw [e0] at a
    exact (show False from a).elim
def whileL (ft : En → R Bool) (fb : En → O) : Nat → En → O
  | 0, _ => .bad
  | n + 1, r => (ft r).toO r fun k => if k then (match fb r with
      | .nx r2 => whileL ft fb n r2
      | .ct r2 => whileL ft fb n r2
      | .bk r2 => .nx r2
      | .rt d => .rt d
      | .exc c fs r2 => .exc c fs r2
      | .bad => .bad) else .nx r
theorem vs_while (n : Nat) {body : List Stmt} {tb : TS} {fb : En → O} (hp : PassesOwn (model X.prog X.w) X.A X.env X.xe) (hc : VT X W c tA fA) (hb : VSs X W body tb fb) : VS X W (.While c body [] pos) (tWhile tA tb) (whileL fA fb n) := by
  refine ⟨ps_while hp hc.pt hb.ps, fun F G r σ H q D a => ?_⟩
  refine ⟨fun m σ H => ∃ r G', Same G G' ∧ Rep F G' r σ H ∧ Acc W F G' D (whileL fA fb m r), ⟨n, r, G, Same.refl G, q, a⟩, ?_⟩
  rintro m σ2 H2 ⟨r2, G2, s2, q2, a2⟩
  cases m with
  | zero => exact (show False from a2).elim
  | succ m =>
    refine acc_bindT (k := fun b H1 => if b = true then ∃ N : L2.St → Hp → Prop, (∀ σ' H', N σ' H' → ∃ m', m' < m + 1 ∧ ∃ r G', Same G G' ∧ Rep F G' r σ' H' ∧ Acc W F G' D (whileL fA fb m' r)) ∧ tb { D with nx := N, ct := N, bk := D.nx } σ2 H1 else D.nx σ2 H1) q2 (hc.so F G2 r2 σ2 H2 q2) a2 fun d G3 H3 _ e3 a3 => ?_
    cases d with
    | false => exact a3 σ2 G3 H3 (Same.refl G3) (q2.ext e3)
    | true =>
      rw [if_pos rfl]
      rw [if_pos rfl] at a3
      refine ⟨fun σ' H' => ∃ r G', Same G G' ∧ Rep F G' r σ' H' ∧ Acc W F G' D (whileL fA fb m r), fun σ' H' z => ⟨m, Nat.lt_succ_self m, z⟩, ?_⟩
      refine hb.so F G3 r2 σ2 H3 (q2.ext e3) _ ?_
      cases y2 : fb r2 with
      | nx r5 =>
        simp only [y2] at a3
        exact fun σ5 G5 H5 s5 q5 => ⟨r5, G5, s2.trans (e3.gg.trans s5), q5, Acc.mono a3 s5⟩
      | ct r5 =>
        simp only [y2] at a3
        exact fun σ5 G5 H5 s5 q5 => ⟨r5, G5, s2.trans (e3.gg.trans s5), q5, Acc.mono a3 s5⟩
      | bk r5 =>
        simp only [y2] at a3
        exact a3
      | rt d5 =>
        simp only [y2] at a3
        exact a3
      | exc c5 f5 r5 =>
        simp only [y2] at a3
        exact a3
      | bad =>
        simp only [y2] at a3
        exact (show False from a3).elim
end
end DL
namespace DL
open PySem L2

/-! ### sizes -/
def SmallH (H : Hp) : Prop := ∀ a xs, (Rd H a (.lst xs) ∨ Rd H a (.tup xs)) → xs.length ≤ sizeLine
theorem Inv.small {X : Cx} {pins : List (Addr × Obj)} {σ : L2.St} {H : Hp} {s : Shared} (I : L2.Inv X pins σ H s) : SmallH H := fun a xs h => by
  rcases h with h | h
  · exact (h.ok I.hok).1
  · exact (h.ok I.hok).1
theorem pi_small {X : Cx} {tg iter : Expr} {wi : TI} (h : PI X tg iter wi) : PI X tg iter (fun σ H R => wi σ H fun J H1 => SmallH H1 → R J H1) :=
  ⟨fun pins s σ H R I hw => thn (h.run pins s σ H _ I hw) fun v s1 h1 => thn h1 fun itv s2 ⟨it, fp, tn, J, H', e, I2, T, t0, f, q⟩ => ⟨it, fp, tn, J, H', e, I2, T, t0, f, q (Inv.small I2)⟩⟩
theorem pi_or {X : Cx} {tg iter : Expr} {w1 w2 : TI} (h1 : PI X tg iter w1) (h2 : PI X tg iter w2) : PI X tg iter (fun σ H R => w1 σ H R ∨ w2 σ H R) :=
  ⟨fun pins s σ H R I hw => by
    rcases hw with hw | hw
    · exact h1.run pins s σ H R I hw
    · exact h2.run pins s σ H R I hw⟩
section
variable {X : Cx} {W : WN} {tg e a b : Expr} {te ta tb : TE} {fe fa fb : En → R PyData} {pos p : Pos}
/-- a value carried into an iterator -/
theorem sdi_bind {P : Post} {t' : V → Hp → (It → Hp → Prop) → Prop} {σ : L2.St} {G H : Hp} {ra : R PyData} {rk : PyData → R (List PyData)} (ha : Sd P W ta σ G H ra)
    (hk : ∀ d v G1 H1, ra = .ok d → Ext G H G1 H1 → P G H G1 H1 v d → SdI W (fun _ H Q => t' v H Q) σ G1 H1 (rk d)) : SdI W (fun σ H Q => ta σ H fun v H1 => t' v H1 Q) σ G H (ra.bind rk) := by
  cases ra with
  | ok d =>
    show SdI W _ σ G H (rk d)
    have hk := fun v G1 H1 => hk d v G1 H1 rfl
    cases e : rk d with
    | ok z =>
      rw [e] at hk
      intro Q q
      exact ha _ fun v G1 H1 e1 p1 => hk v G1 H1 e1 p1 Q fun J G2 H2 e2 p2 => q J G2 H2 (e1.trans e2) p2
    | exc c fs =>
      rw [e] at hk
      intro w Q
      exact ha _ fun v G1 H1 e1 p1 => hk v G1 H1 e1 p1 (fun x G2 H2 e2 p2 => w x G2 H2 (e1.trans e2) p2) Q
    | bad => trivial
  | exc c fs =>
    intro w Q
    exact ha w _
  | bad => trivial
theorem sdi_bindA {t : TA} {t' : List V → Hp → (It → Hp → Prop) → Prop} {σ : L2.St} {G H : Hp} {ra : R (List PyData)} {rk : List PyData → R (List PyData)} (ha : SdA W t σ G H ra)
    (hk : ∀ ds vs G1 H1, ra = .ok ds → Ext G H G1 H1 → DeAll G1 vs ds → SdI W (fun _ H Q => t' vs H Q) σ G1 H1 (rk ds)) : SdI W (fun σ H Q => t σ H fun vs H1 => t' vs H1 Q) σ G H (ra.bind rk) := by
  cases ra with
  | ok d =>
    show SdI W _ σ G H (rk d)
    have hk := fun v G1 H1 => hk d v G1 H1 rfl
    cases e : rk d with
    | ok z =>
      rw [e] at hk
      intro Q q
      exact ha _ fun v G1 H1 e1 p1 => hk v G1 H1 e1 p1 Q fun J G2 H2 e2 p2 => q J G2 H2 (e1.trans e2) p2
    | exc c fs =>
      rw [e] at hk
      intro w Q
      exact ha _ fun v G1 H1 e1 p1 => hk v G1 H1 e1 p1 (fun x G2 H2 e2 p2 => w x G2 H2 (e1.trans e2) p2) Q
    | bad => trivial
  | exc c fs =>
    intro w Q
    exact ha w _
  | bad => trivial
theorem sdi_eq {w1 w2 : TI} {σ : L2.St} {G H : Hp} {r : R (List PyData)} (h : SdI W w1 σ G H r) (e : ∀ Q, w1 σ H Q → w2 σ H Q) : SdI W w2 σ G H r := by
  cases r with
  | ok d => exact fun Q q => e Q (h Q q)
  | exc c fs => exact fun w Q => e Q (h w Q)
  | bad => trivial
def seqD : PyData → R (List PyData)
  | .list ds => .ok ds
  | .tuple ds => .ok ds
  | _ => .bad
theorem walk_lst {K : PySem.W.Frag} {G : Hp} {a : Addr} {vs : List V} {ds : List PyData} (h : Rd G a (.lst vs)) (hd : DeAll G vs ds) (hz : vs.length ≤ sizeLine) : WalkD (Itl K a) G ds where
  small := by rw [← hd.len]; exact hz
  goes := fun G2 H2 i s1 s2 hi => by
    obtain ⟨v, hv, _⟩ := hd.get (i := i) (List.getElem?_eq_getElem hi)
    exact ⟨vs, v, slL (rdm (s1.trans s2) h), hv⟩
  stops := fun G2 H2 s1 s2 => ⟨vs, slL (rdm (s1.trans s2) h), by rw [hd.len]; exact Nat.le_refl _⟩
  yields := fun G2 H2 i x H3 s1 s2 hi y => by
    obtain ⟨rfl, y⟩ := y
    obtain ⟨d, h1, h2⟩ := hd.getV (y vs (slL (rdm (s1.trans s2) h)))
    exact ⟨d, G2, h1, Ext.refl s2, dm s1 h2⟩
theorem walk_tpl {K : PySem.W.Frag} {G : Hp} {a : Addr} {vs : List V} {ds : List PyData} (h : Rd G a (.tup vs)) (hd : DeAll G vs ds) (hz : vs.length ≤ sizeLine) : WalkD (Itt K a) G ds where
  small := by rw [← hd.len]; exact hz
  goes := fun G2 H2 i s1 s2 hi => by
    obtain ⟨v, hv, _⟩ := hd.get (i := i) (List.getElem?_eq_getElem hi)
    exact ⟨vs, v, slT (rdm (s1.trans s2) h), hv⟩
  stops := fun G2 H2 s1 s2 => ⟨vs, slT (rdm (s1.trans s2) h), by rw [hd.len]; exact Nat.le_refl _⟩
  yields := fun G2 H2 i x H3 s1 s2 hi y => by
    obtain ⟨rfl, y⟩ := y
    obtain ⟨d, h1, h2⟩ := hd.getV (y vs (slT (rdm (s1.trans s2) h)))
    exact ⟨d, G2, h1, Ext.refl s2, dm s1 h2⟩
/-- for x in e, e a list or a tuple that stays -/
theorem vi_seq (h : VE X W e te fe) : VI X W tg e (fun σ H R => (iList X.K te σ H fun J H1 => SmallH H1 → R J H1) ∨ (iTup X.K te σ H fun J H1 => SmallH H1 → R J H1)) (fun r => (fe r).bind seqD) := by
  refine ⟨pi_or (pi_small (pi_list h.pe)) (pi_small (pi_tup h.pe)), fun F G r σ H q => ?_⟩
  have hs := h.so F G r σ H q
  have no : (∀ z, fe r ≠ .ok z) → SdI W (fun σ H R => (iList X.K te σ H fun J H1 => SmallH H1 → R J H1) ∨ (iTup X.K te σ H fun J H1 => SmallH H1 → R J H1)) σ G H ((fe r).bind seqD) := fun no => by
    cases e1 : fe r with
    | ok d => exact absurd e1 (no d)
    | exc c fs =>
      rw [e1] at hs
      exact fun w Q => .inl (hs w _)
    | bad => trivial
  cases e1 : fe r with
  | ok d =>
    rw [e1] at hs
    cases d with
    | list ds =>
      refine sdi_eq (w1 := fun σ H R => iList X.K te σ H fun J H1 => SmallH H1 → R J H1) ?_ fun Q z => .inl z
      intro Q z
      refine hs _ fun v G1 H1 x1 p1 => ?_
      cases p1 with
      | lst k1 k2 => exact ⟨_, rfl, ⟨_, slL (rdm x1.gh k1)⟩, fun sm => z _ G1 H1 x1 (walk_lst k1 k2 (sm _ _ (.inl (rdm x1.gh k1))))⟩
    | tuple ds =>
      refine sdi_eq (w1 := fun σ H R => iTup X.K te σ H fun J H1 => SmallH H1 → R J H1) ?_ fun Q z => .inr z
      intro Q z
      refine hs _ fun v G1 H1 x1 p1 => ?_
      cases p1 with
      | tup k1 k2 => exact ⟨_, rfl, ⟨_, slT (rdm x1.gh (.inl k1))⟩, fun sm => z _ G1 H1 x1 (walk_tpl (.inl k1) k2 (sm _ _ (.inr (rdm x1.gh (.inl k1)))))⟩
    | _ => trivial
  | exc c fs =>
    rw [e1] at hs
    exact fun w Q => .inl (hs w _)
  | bad => trivial
/-! ### range -/
def rangeL (lo : Int) (n : Nat) : List PyData := (List.range n).map fun i => .int (lo + (i : Nat))
theorem rangeL_len (lo : Int) (n : Nat) : (rangeL lo n).length = n := by simp [rangeL]
theorem walk_rng {G : Hp} {lo : Int} {n : Nat} (hn : n ≤ sizeLine) : WalkD (Itr lo n) G (rangeL lo n) where
  small := by rw [rangeL_len]; exact hn
  goes := fun G2 H2 i s1 s2 hi => by rw [rangeL_len] at hi; exact hi
  stops := fun G2 H2 s1 s2 => by rw [rangeL_len]; exact Nat.le_refl n
  yields := fun G2 H2 i x H3 s1 s2 hi y => by
    obtain ⟨rfl, rfl⟩ := y
    rw [rangeL_len] at hi
    exact ⟨.int (lo + (i : Nat)), G2, by simp [rangeL, hi], Ext.refl s2, .int _⟩
def rng1 : List PyData → R (List PyData)
  | [.int n] => if -(2 ^ 62) ≤ n ∧ n < 2 ^ 62 ∧ n.toNat ≤ sizeLine then .ok (rangeL 0 n.toNat) else .bad
  | _ => .bad
def rng2 : List PyData → R (List PyData)
  | [.int i, .int j] => if (-(2 ^ 62) ≤ i ∧ i < 2 ^ 62 ∧ -(2 ^ 62) ≤ j ∧ j < 2 ^ 62) ∧ (j - i).toNat ≤ sizeLine then .ok (rangeL i (j - i).toNat) else .bad
  | _ => .bad
theorem sdi_ok {wi : TI} {σ : L2.St} {G H : Hp} {J : It} {items : List PyData} (s : Same G H) (h : WalkD J G items) (k : ∀ Q : It → Hp → Prop, Q J H → wi σ H Q) : SdI W wi σ G H (.ok items) := fun Q q => k Q (q J G H (Ext.refl s) h)
theorem vi_range1 {t : TA} {f : En → R (List PyData)} (hg : Gl X "range") (hm : X.mg "range" = none) (h : VA X W [a] t f) (hs : starEach [a] X.env = [(false, eval a X.env)] := by rfl) : VI X W tg (.Call (.Name "range" p) [a] [] pos) (iRng1 t) (fun r => (f r).bind rng1) := by
  refine ⟨pi_range1 hg hm h.pa hs, fun F G r σ H q => ?_⟩
  refine sdi_bindA (t' := fun vs H1 R => ∃ j : Int, vs = [.int j] ∧ -(2 ^ 62) ≤ j ∧ j < 2 ^ 62 ∧ R (Itr 0 j.toNat) H1) (h.so F G r σ H q) fun ds vs G1 H1 _ e1 p1 => ?_
  unfold rng1
  split
  · rename_i n hn0
    split
    · rename_i hc
      cases p1 with
      | cons k1 k2 =>
        cases k2
        cases k1
        exact sdi_ok e1.gh (walk_rng hc.2.2) fun Q z => ⟨n, rfl, hc.1, hc.2.1, z⟩
    · trivial
  · trivial
theorem vi_range2 {t : TA} {f : En → R (List PyData)} (hg : Gl X "range") (hm : X.mg "range" = none) (h : VA X W [a, b] t f) (hs : starEach [a, b] X.env = [(false, eval a X.env), (false, eval b X.env)] := by rfl) (hs2 : starEach [b] X.env = [(false, eval b X.env)] := by rfl) :
    VI X W tg (.Call (.Name "range" p) [a, b] [] pos) (iRng2 t) (fun r => (f r).bind rng2) := by
  refine ⟨pi_range2 hg hm h.pa hs hs2, fun F G r σ H q => ?_⟩
  refine sdi_bindA (t' := fun vs H1 R => ∃ i j : Int, vs = [.int i, .int j] ∧ (-(2 ^ 62) ≤ i ∧ i < 2 ^ 62 ∧ -(2 ^ 62) ≤ j ∧ j < 2 ^ 62) ∧ R (Itr i (j - i).toNat) H1) (h.so F G r σ H q) fun ds vs G1 H1 _ e1 p1 => ?_
  unfold rng2
  split
  · rename_i i j hij0
    split
    · rename_i hc
      cases p1 with
      | cons k1 k2 =>
        cases k2 with
        | cons k3 k4 =>
          cases k4
          cases k1
          cases k3
          exact sdi_ok e1.gh (walk_rng hc.2) fun Q z => ⟨i, j, rfl, hc.1, z⟩
    · trivial
  · trivial
/-! ### zip of two lists, of two tuples -/
def zipD (xs ys : List PyData) : List PyData := (xs.zip ys).map fun p => .tuple [p.1, p.2]
theorem zipD_len (xs ys : List PyData) : (zipD xs ys).length = min xs.length ys.length := by simp [zipD]
theorem pairE {G2 H2 : Hp} {T : Addr} {x y : V} {d e : PyData} (s : Same G2 H2) (hT : H2 T = none) (hx : De G2 x d) (hy : De G2 y e) : Ext G2 H2 (upd G2 T (.tup [x, y])) (upd H2 T (.tup [x, y])) ∧ De (upd G2 T (.tup [x, y])) (.ref T) (.tuple [d, e]) :=
  ⟨Ext.laid s hT, .tup upd_same (dam (Same.new (s.free hT)) (.cons hx (.cons hy .nil)))⟩
theorem zipD_at {xs ys : List PyData} {i : Nat} {d e : PyData} (h1 : xs[i]? = some d) (h2 : ys[i]? = some e) : (zipD xs ys)[i]? = some (.tuple [d, e]) := by
  unfold zipD
  rw [List.getElem?_map, List.getElem?_zip_eq_some.mpr (show xs[i]? = some (d, e).1 ∧ ys[i]? = some (d, e).2 from ⟨h1, h2⟩)]
  rfl
theorem walk_zipL {K : PySem.W.Frag} {G : Hp} {a b : Addr} {vs ws : List V} {ds es : List PyData} (h : Rd G a (.lst vs)) (hd : DeAll G vs ds) (h' : Rd G b (.lst ws)) (he : DeAll G ws es) (hz : vs.length ≤ sizeLine) : WalkD (Itz K a b) G (zipD ds es) where
  small := by rw [zipD_len, ← hd.len]; omega
  goes := fun G2 H2 i s1 s2 hi => by
    rw [zipD_len] at hi
    obtain ⟨v, hv, _⟩ := hd.get (i := i) (List.getElem?_eq_getElem (by omega))
    obtain ⟨w, hw, _⟩ := he.get (i := i) (List.getElem?_eq_getElem (by omega))
    exact ⟨vs, ws, v, w, slL (rdm (s1.trans s2) h), slL (rdm (s1.trans s2) h'), hv, hw⟩
  stops := fun G2 H2 s1 s2 => ⟨vs, ws, slL (rdm (s1.trans s2) h), slL (rdm (s1.trans s2) h'), by rw [zipD_len, hd.len, he.len]; omega⟩
  yields := fun G2 H2 i x H3 s1 s2 hi y => by
    obtain ⟨T, x, y, rfl, hT, rfl, y1, y2⟩ := y
    obtain ⟨d, k1, k2⟩ := hd.getV (y1 vs (slL (rdm (s1.trans s2) h)))
    obtain ⟨e, k3, k4⟩ := he.getV (y2 ws (slL (rdm (s1.trans s2) h')))
    obtain ⟨z1, z2⟩ := pairE s2 hT (dm s1 k2) (dm s1 k4)
    exact ⟨_, _, zipD_at k1 k3, z1, z2⟩
theorem walk_zipT {K : PySem.W.Frag} {G : Hp} {a b : Addr} {vs ws : List V} {ds es : List PyData} (h : Rd G a (.tup vs)) (hd : DeAll G vs ds) (h' : Rd G b (.tup ws)) (he : DeAll G ws es) (hz : vs.length ≤ sizeLine) : WalkD (RZ.ItzT K a b) G (zipD ds es) where
  small := by rw [zipD_len, ← hd.len]; omega
  goes := fun G2 H2 i s1 s2 hi => by
    rw [zipD_len] at hi
    obtain ⟨v, hv, _⟩ := hd.get (i := i) (List.getElem?_eq_getElem (by omega))
    obtain ⟨w, hw, _⟩ := he.get (i := i) (List.getElem?_eq_getElem (by omega))
    exact ⟨vs, ws, v, w, slT (rdm (s1.trans s2) h), slT (rdm (s1.trans s2) h'), hv, hw⟩
  stops := fun G2 H2 s1 s2 => ⟨vs, ws, slT (rdm (s1.trans s2) h), slT (rdm (s1.trans s2) h'), by rw [zipD_len, hd.len, he.len]; omega⟩
  yields := fun G2 H2 i x H3 s1 s2 hi y => by
    obtain ⟨T, x, y, rfl, hT, rfl, y1, y2⟩ := y
    obtain ⟨d, k1, k2⟩ := hd.getV (y1 vs (slT (rdm (s1.trans s2) h)))
    obtain ⟨e, k3, k4⟩ := he.getV (y2 ws (slT (rdm (s1.trans s2) h')))
    obtain ⟨z1, z2⟩ := pairE s2 hT (dm s1 k2) (dm s1 k4)
    exact ⟨_, _, zipD_at k1 k3, z1, z2⟩
def zip2 : List PyData → R (List PyData)
  | [.list xs, .list ys] => .ok (zipD xs ys)
  | [.tuple xs, .tuple ys] => .ok (zipD xs ys)
  | _ => .bad
theorem vi_zip {t : TA} {f : En → R (List PyData)} {tpos : Pos} {elts : List Expr} {kk : Nat} (hg : Gl X "zip") (hm : X.mg "zip" = none) (h : VA X W [a, b] t f)
    (hs : starEach [a, b] X.env = (false, eval a X.env) :: starEach [b] X.env := by rfl) (hpl : (backTo pos (starEach [b] X.env)).any (·.1) = false := by rfl) :
    VI X W (.Tuple elts kk tpos) (.Call (.Name "zip" p) [a, b] [] pos) (fun σ H R => RZ.iZipA X.K t σ H fun J H1 => SmallH H1 → R J H1) (fun r => (f r).bind zip2) := by
  refine ⟨pi_small (RZ.pi_zipA hg hm h.pa hs hpl), fun F G r σ H q => ?_⟩
  refine sdi_bindA (t' := fun vs H1 R => ∃ a b xs ys, vs = [.ref a, .ref b] ∧ ((SqL X.K H1 a xs ∧ SqL X.K H1 b ys ∧ (SmallH H1 → R (Itz X.K a b) H1)) ∨ (SqT X.K H1 a xs ∧ SqT X.K H1 b ys ∧ (SmallH H1 → R (RZ.ItzT X.K a b) H1)))) (h.so F G r σ H q) fun ds vs G1 H1 _ e1 p1 => ?_
  unfold zip2
  split
  · rename_i xs ys
    cases p1 with
    | cons k1 k2 =>
      cases k2 with
      | cons k3 k4 =>
        cases k4
        cases k1 with
        | lst a1 a2 =>
          cases k3 with
          | lst b1 b2 => exact fun Q z => ⟨_, _, _, _, rfl, .inl ⟨slL (rdm e1.gh a1), slL (rdm e1.gh b1), fun sm => z _ G1 H1 (Ext.refl e1.gh) (walk_zipL a1 a2 b1 b2 (sm _ _ (.inl (rdm e1.gh a1))))⟩⟩
  · rename_i xs ys
    cases p1 with
    | cons k1 k2 =>
      cases k2 with
      | cons k3 k4 =>
        cases k4
        cases k1 with
        | tup a1 a2 =>
          cases k3 with
          | tup b1 b2 => exact fun Q z => ⟨_, _, _, _, rfl, .inr ⟨slT (rdm e1.gh (.inl a1)), slT (rdm e1.gh (.inl b1)), fun sm => z _ G1 H1 (Ext.refl e1.gh) (walk_zipT (.inl a1) a2 (.inl b1) b2 (sm _ _ (.inr (rdm e1.gh (.inl a1)))))⟩⟩
  · trivial
/-! ### comprehensions -/
def wipeE (vs : List Nat) (r : En) : En := vs.foldr (fun v r => r.set v .un) r
theorem Rep.wipe {F G H : Hp} {r : En} {σ : L2.St} (h : Rep F G r σ H) : ∀ vs : List Nat, Rep F G (wipeE vs r) (L2.wipe σ vs) H
  | [] => h
  | v :: vs => Rep.setU (Rep.wipe h vs) v none
def R.nox {α : Type} : R α → R α
  | .ok a => .ok a
  | _ => .bad
def compL (ft : PyData → En → Option En) (fc : En → R Bool) (fe : En → R PyData) (r0 : En) : List PyData → R (List PyData)
  | [] => .ok []
  | x :: xs => match ft x r0 with
    | none => .bad
    | some r1 => (fc r1).nox.bind fun k => if k then (fe r1).nox.bind fun d => (compL ft fc fe r0 xs).bind fun ds => .ok (d :: ds) else compL ft fc fe r0 xs
abbrev W0 : WN := fun _ _ _ _ => False
theorem compL_noexc {ft : PyData → En → Option En} {fc : En → R Bool} {fe : En → R PyData} {r0 : En} : ∀ (xs : List PyData) (c : Str) (fs : Option (List (Str × PyData))), compL ft fc fe r0 xs ≠ .exc c fs
  | [], c, fs => by intro h; cases h
  | x :: xs, c, fs => by
    intro h
    have ih := compL_noexc (ft := ft) (fc := fc) (fe := fe) (r0 := r0) xs c fs
    unfold compL at h
    cases e1 : ft x r0 with
    | none => simp only [e1] at h; cases h
    | some r1 =>
      simp only [e1] at h
      cases e2 : fc r1 with
      | ok k =>
        rw [e2] at h
        cases k with
        | false => exact ih h
        | true =>
          cases e3 : fe r1 with
          | ok d =>
            rw [e3] at h
            cases e4 : compL ft fc fe r0 xs with
            | ok ds =>
              have h' : ((compL ft fc fe r0 xs).bind fun ds => R.ok (d :: ds)) = .exc c fs := h
              rw [e4] at h'; cases h'
            | exc c' fs' =>
              have h' : ((compL ft fc fe r0 xs).bind fun ds => R.ok (d :: ds)) = .exc c fs := h
              rw [e4] at h'
              cases h'
              exact ih e4
            | bad =>
              have h' : ((compL ft fc fe r0 xs).bind fun ds => R.ok (d :: ds)) = .exc c fs := h
              rw [e4] at h'; cases h'
          | exc c' fs' => rw [e3] at h; cases h
          | bad => rw [e3] at h; cases h
      | exc c' fs' => rw [e2] at h; cases h
      | bad => rw [e2] at h; cases h
/-- the tests of a comprehension -/
structure VTs (X : Cx) (W : WN) (es : List Expr) (t : TT) (f : En → R Bool) : Prop where
  pt : PTs X es t
  so : ∀ F G r σ H, Rep F G r σ H → SdT W t σ G H (f r)
theorem vts_nil : VTs X W [] tYes (fun _ => .ok true) := ⟨pts_nil, fun F G r σ H q => sdt_ok q.sub fun Q z => z⟩
theorem vts_one {t : TT} {f : En → R Bool} (h : VT X W e t f) : VTs X W [e] t f := ⟨pts_one h.pt, h.so⟩
/-- the reading of a comprehension, its end by data -/
theorem lc_so {wi : TI} {g : TG} {sl vs : List Nat} {tt : TT} {te : TE} {fi : En → R (List PyData)} {ft : PyData → En → Option En} {fc : En → R Bool} {fe : En → R PyData}
    (hi : ∀ F G r σ H, Rep F G r σ H → SdI W wi σ G H (fi r)) (hsl : ∀ i ∈ sl, i ∈ vs)
    (hg : ∀ F G r σ H v d r', Rep F G r σ H → De G v d → ft d r = some r' → ∀ Q : L2.St → Hp → Prop, (∀ σ', Rep F G r' σ' H → (∀ vs : List Nat, (∀ i ∈ sl, i ∈ vs) → L2.wipe σ' vs = L2.wipe σ vs) → Q σ' H) → g v σ H Q)
    (ht : ∀ F G r σ H, Rep F G r σ H → SdT W0 tt σ G H (fc r)) (he : ∀ F G r σ H, Rep F G r σ H → Sd pE W0 te σ G H (fe r)) (F G : Hp) (r : En) (σ : L2.St) (H : Hp) (q : Rep F G r σ H) :
    Sd pO W (tLc wi g tt te vs) σ G H ((fi r).bind fun items => (compL ft fc fe (wipeE vs r) items).bind fun ds => .ok (.list ds)) := by
  have h := hi F G r σ H q
  cases e0 : fi r with
  | ok items =>
    rw [e0] at h
    show Sd pO W _ σ G H ((compL ft fc fe (wipeE vs r) items).bind fun ds => .ok (.list ds))
    cases ec : compL ft fc fe (wipeE vs r) items with
    | ok all =>
      intro Q z
      refine h _ fun J G1 H1 e1 wk => ?_
      intro D hD
      refine ⟨fun i m H => m = items.length - i ∧ i ≤ items.length ∧ ∃ G' us ds rest, Ext G1 H1 G' H ∧ G' D = none ∧ H D = some (.lst us) ∧ DeAll G' us ds ∧ us.length ≤ i ∧ compL ft fc fe (wipeE vs r) (items.drop i) = .ok rest ∧ all = ds ++ rest,
        ⟨items.length, by simp, Nat.zero_le _, G1, [], [], all, Ext.fresh e1.gh hD, e1.gh.free hD, upd_same, .nil, Nat.le_refl _, ec, rfl⟩, ?_⟩
      rintro i m H2 ⟨rfl, hle, G2, us, ds, rest, x2, nD, aD, hds, hul, er, eall⟩
      by_cases hlt : i < items.length
      · refine .inr ⟨wk.goes G2 H2 i x2.gg x2.gh hlt, fun H' => ∃ G' us ds rest, Ext G1 H1 G' H' ∧ G' D = none ∧ H' D = some (.lst us) ∧ DeAll G' us ds ∧ us.length ≤ i + 1 ∧ compL ft fc fe (wipeE vs r) (items.drop (i + 1)) = .ok rest ∧ all = ds ++ rest,
          fun H' k => ⟨items.length - (i + 1), by omega, rfl, hlt, k⟩, fun x H3 y => ?_⟩
        obtain ⟨d, G3, ed, x3, hd⟩ := wk.yields G2 H2 i x H3 x2.gg x2.gh hlt y
        rw [drop_at ed] at er
        have x13 := x2.trans x3
        have keepN : ∀ {Ga Ha Gb Hb : Hp}, Ext Ga Ha Gb Hb → Ga D = none → (∃ us : List V, Ha D = some (.lst us)) → Gb D = none := fun {Ga Ha Gb Hb} xx n1 n2 => by
          cases zz : Gb D with
          | none => rfl
          | some o =>
            obtain ⟨us, n2⟩ := n2
            rcases xx.new D o zz with k | k | ⟨ys, k⟩
            · rw [n1] at k; cases k
            · rw [n2] at k; cases k
            · have := xx.gh D o zz
              rw [xx.hh D _ n2, k] at this
              cases this
        have q3 : Rep F G3 (wipeE vs r) (L2.wipe σ vs) H3 := ((q.ext e1).ext x13).wipe vs
        unfold compL at er
        cases e1' : ft d (wipeE vs r) with
        | none => simp only [e1'] at er; cases er
        | some r1 =>
          simp only [e1'] at er
          refine hg F G3 (wipeE vs r) (L2.wipe σ vs) H3 x d r1 q3 hd e1' _ fun σ4 q4 w4 => ⟨(w4 vs hsl).trans (wipe_wipe σ vs), ?_⟩
          have t4 := ht F G3 r1 σ4 H3 q4
          have nD3 : G3 D = none := keepN x3 nD ⟨_, aD⟩
          have aD3 : H3 D = some (.lst us) := x3.hh _ _ aD
          cases e2 : fc r1 with
          | ok k =>
            rw [e2] at er t4
            refine t4 _ fun G5 H5 x5 => ?_
            have nD5 : G5 D = none := keepN x5 nD3 ⟨_, aD3⟩
            have aD5 : H5 D = some (.lst us) := x5.hh _ _ aD3
            have x15 := x13.trans x5
            have hds5 : DeAll G5 us ds := dam (x3.gg.trans x5.gg) hds
            cases k with
            | false =>
              rw [if_neg Bool.false_ne_true]
              exact ⟨G5, us, ds, rest, x15, nD5, aD5, hds5, by omega, er, eall⟩
            | true =>
              rw [if_pos rfl]
              have t5 := he F G5 r1 σ4 H5 (q4.ext x5)
              cases e3 : fe r1 with
              | ok y5 =>
                rw [e3] at er t5
                refine t5 _ fun v6 G6 H6 x6 p6 => ?_
                have nD6 : G6 D = none := keepN x6 nD5 ⟨_, aD5⟩
                have aD6 : H6 D = some (.lst us) := x6.hh _ _ aD5
                have sm := wk.small
                refine ⟨us, aD6, by omega, ?_⟩
                have er' : ((compL ft fc fe (wipeE vs r) (items.drop (i + 1))).bind fun ds => R.ok (y5 :: ds)) = .ok rest := er
                cases e4 : compL ft fc fe (wipeE vs r) (items.drop (i + 1)) with
                | ok rest' =>
                  rw [e4] at er'
                  cases er'
                  have x16 := x15.trans x6
                  refine ⟨G6, us ++ [v6], ds ++ [y5], rest', ⟨?_, x16.gg, ?_, x16.new⟩, nD6, upd_same, DeAll.app (dam x6.gg hds5) (.cons p6 .nil), by rw [List.length_append]; simp; omega, rfl, by rw [eall]; simp⟩
                  · intro a o ha
                    rw [upd_ne (ne_of_none ha hD)]
                    exact x16.hh a o ha
                  · intro a o ha
                    rw [upd_ne (ne_of_none ha nD6)]
                    exact x16.gh a o ha
                | exc c' fs' => rw [e4] at er'; cases er'
                | bad => rw [e4] at er'; cases er'
              | exc c' fs' => rw [e3] at er; cases er
              | bad => rw [e3] at er; cases er
          | exc c' fs' => rw [e2] at er; cases er
          | bad => rw [e2] at er; cases er
      · have e : i = items.length := by omega
        subst e
        rw [List.drop_length] at er
        cases er
        rw [List.append_nil] at eall
        subst eall
        refine .inl ⟨wk.stops G2 H2 x2.gg x2.gh, z _ G2 H2 (e1.trans x2) ⟨D, us, all, rfl, rfl, e1.hh.free hD, nD, aD, hds⟩⟩
    | exc c fs => exact absurd ec (compL_noexc _ _ _)
    | bad => trivial
  | exc c fs =>
    rw [e0] at h
    exact fun w Q => h w _
  | bad => trivial
theorem vo_lc {elt iter : Expr} {ifs : List Expr} {scope : Scope} {own : List (Str × Nat)} {wi : TI} {g : TG} {sl : List Nat} {tt : TT} {te : TE} {fi : En → R (List PyData)} {ft : PyData → En → Option En} {fc : En → R Bool} {fe : En → R PyData} (hc : X.calm = true) (hN : X.N.Nodup) (hi : VI X W tg iter wi fi) (ok : BlkOk X.N X.env.scope scope own)
    (hg : ∀ (s : Shared) (H : Hp) (C : Addr) (cl : List (Str × Addr)) (fp : List Addr), VG (X.blk s H scope (compEnvC scope cl C X.env) fp) tg g sl ft) (ht : ∀ (s : Shared) (H : Hp) (C : Addr) (cl : List (Str × Addr)) (fp : List Addr), VTs (X.blk s H scope (compEnvC scope cl C X.env) fp) W0 ifs tt fc)
    (he : ∀ (s : Shared) (H : Hp) (C : Addr) (cl : List (Str × Addr)) (fp : List Addr), VE (X.blk s H scope (compEnvC scope cl C X.env) fp) W0 elt te fe) (hsl : ∀ i ∈ sl, i ∈ own.map (·.2) := by decide) (hs : ∀ x, foldedSetIterable iter X.env x = pure x := by intro _; rfl) :
    VO X W (.ListComp elt [⟨tg, iter, ifs, 0⟩] scope pos) (tLc wi g tt te (own.map (·.2))) (fun r => (fi r).bind fun items => (compL ft fc fe (wipeE (own.map (·.2)) r) items).bind fun ds => .ok (.list ds)) :=
  ⟨pe_lc hc hN hi.pi ok (fun s H C cl fp => (hg s H C cl fp).pg) (fun s H C cl fp => (ht s H C cl fp).pt) (fun s H C cl fp => (he s H C cl fp).pe) hs,
    fun F G r σ H q => lc_so hi.so hsl (hg X.s_0 X.H_0 0 [] []).so (ht X.s_0 X.H_0 0 [] []).so (he X.s_0 X.H_0 0 [] []).so F G r σ H q⟩
end
end DL
namespace DL
open PySem L2

/-! ### defs -/
def runF (N : List Str) (fb : En → O) (ds : List PyData) : R PyData := match fb (ds.map Sl.dat ++ List.replicate (N.length - ds.length) Sl.un) with
  | .nx _ => .ok .none
  | .rt d => .ok d
  | .exc c fs _ => .exc c fs
  | _ => .bad
theorem getmap_dat {ds : List PyData} {n i : Nat} {d : PyData} (h : (ds.map Sl.dat ++ List.replicate n Sl.un)[i]? = some (.dat d)) : ds[i]? = some d := by
  by_cases hl : i < ds.length
  · rw [List.getElem?_append_left (by simpa using hl), List.getElem?_map] at h
    cases e : ds[i]? with
    | none => rw [e] at h; cases h
    | some x => rw [e] at h; cases h; rfl
  · rw [List.getElem?_append_right (by simpa using hl), List.getElem?_replicate] at h
    split at h <;> cases h
theorem getmap_own {ds : List PyData} {n i : Nat} {d : List PyData} (h : (ds.map Sl.dat ++ List.replicate n Sl.un)[i]? = some (.own d)) : False := by
  by_cases hl : i < ds.length
  · rw [List.getElem?_append_left (by simpa using hl), List.getElem?_map] at h
    cases e : ds[i]? with
    | none => rw [e] at h; cases h
    | some x => rw [e] at h; cases h
  · rw [List.getElem?_append_right (by simpa using hl), List.getElem?_replicate] at h
    split at h <;> cases h
theorem getmap_obj {ds : List PyData} {n i : Nat} {d : OB} (h : (ds.map Sl.dat ++ List.replicate n Sl.un)[i]? = some (.obj d)) : False := by
  by_cases hl : i < ds.length
  · rw [List.getElem?_append_left (by simpa using hl), List.getElem?_map] at h
    cases e : ds[i]? with
    | none => rw [e] at h; cases h
    | some x => rw [e] at h; cases h
  · rw [List.getElem?_append_right (by simpa using hl), List.getElem?_replicate] at h
    split at h <;> cases h
/-- what is not data of the call's: the callers' things -/
def frameOf (G H : Hp) : Hp := fun a => match G a with
  | none => H a
  | some _ => none
theorem frameOf_some {G H : Hp} {a : Addr} {o : HO} (h : frameOf G H a = some o) : H a = some o ∧ G a = none := by
  unfold frameOf at h
  split at h
  · rename_i e
    exact ⟨h, e⟩
  · cases h
theorem frameOf_mk {G H : Hp} {a : Addr} {o : HO} (h : H a = some o) (g : G a = none) : frameOf G H a = some o := by
  unfold frameOf
  rw [g]
  exact h
theorem rep_start {G H : Hp} {vs : List V} {ds : List PyData} (s : Same G H) (h : DeAll G vs ds) (N : List Str) (hl : vs.length ≤ N.length) : Rep (frameOf G H) G (ds.map Sl.dat ++ List.replicate (N.length - ds.length) Sl.un) (L2.start N vs) H where
  sub := s
  fr := fun a o e => ⟨(frameOf_some e).1, .inl (frameOf_some e).2⟩
  len := by
    have := h.len
    simp [L2.start]
    omega
  dat := fun i d q => by
    obtain ⟨v, h1, h2⟩ := h.get (getmap_dat q)
    refine ⟨v, ?_, h2⟩
    have hi : i < vs.length := (List.getElem?_eq_some_iff.mp h1).1
    unfold L2.start
    rw [List.getElem?_append_left (by simpa using hi), List.getElem?_map, h1]
    rfl
  own := fun i ds q => (getmap_own q).elim
  sep := fun i j ds es p _ q => (getmap_own q).elim
  obj := ⟨fun _ => [], fun i o q => (getmap_obj q).elim, fun i o q => (getmap_obj q).elim, fun i o q => (getmap_obj q).elim, fun i j o u _ q => (getmap_obj q).elim, fun i j o ds p q => (getmap_obj q).elim⟩
theorem ext_end {G H G' H' : Hp} (s : Same G H) (gg : Same G G') (gh : Same G' H') (fr : Frm (frameOf G H) G' H') : Ext G H G' H' where
  hh := fun a o e => by
    cases g : G a with
    | none => exact (fr a o (frameOf_mk e g)).1
    | some u =>
      have e2 := s a u g
      rw [e] at e2
      cases e2
      exact gh a _ (gg a _ g)
  gg := gg
  gh := gh
  new := fun a o e => by
    cases h : H a with
    | none => exact .inr (.inl rfl)
    | some u =>
      cases g : G a with
      | none =>
        rcases (fr a u (frameOf_mk h g)).2 with z | ⟨xs, z⟩
        · rw [e] at z; cases z
        · have y := gh a o e
          rw [(fr a u (frameOf_mk h g)).1] at y
          cases y
          exact .inr (.inr ⟨xs, z⟩)
      | some w =>
        have := gg a w g
        rw [e] at this
        cases this
        exact .inl rfl
section
variable {P : Program} {w : World} {K : PySem.W.Frag} {mg : Str → Option Value} {base : Heap}
theorem fv_of {x qual : Str} {params : Arguments} {body : List Stmt} {scope : Scope} {f : Addr} {fd : FuncData} {N ps : List Str} {k : Nat} {fb : En → O} (Fn : FunD K x qual params body scope [] [] f fd) (S : FnScope N ps scope)
    (hbody : ∀ (cdv : Value) (A : Around) (outer : List Env) (s : Shared) (H : Hp) (E : XK), Room k (A.deeper (PyProof.Rows.envOfC qual scope s.heap.objs.size f cdv)) →
      ∃ t, VSs (cxOf (L2.CX P w) P w K mg base N qual scope f cdv A outer s H E) (fun c d _ H => E (.ref (He.ga K c)) d H) body t fb) (n : Nat) (hn : ps.length = n) : FV P w K mg base (k + 1) f fd ps n (runF N fb) := by
  refine Fn.ok S (fun vs H Q E h => h.1.trans hn.symm) fun cdv A outer s H vs Q E hr h => ?_
  obtain ⟨t, hv⟩ := hbody cdv A outer s H E hr
  obtain ⟨hl, ds, G, sg, hd, hq⟩ := h
  refine ⟨t, hv.ps, ?_⟩
  have hN : vs.length ≤ N.length := by
    have e := congrArg List.length S.pre
    rw [List.length_take] at e
    omega
  refine hv.so (frameOf G H) G _ _ H (rep_start sg hd N hN) _ ?_
  unfold runF at hq
  cases e : fb (ds.map Sl.dat ++ List.replicate (N.length - ds.length) Sl.un) with
  | nx r =>
    rw [e] at hq
    exact fun σ' G' H' gg q => hq .non G' H' (ext_end sg gg q.sub q.fr) .non
  | rt d =>
    rw [e] at hq
    exact fun v G' H' gg gh fr hd => hq v G' H' (ext_end sg gg gh fr) hd
  | exc c fs r =>
    rw [e] at hq
    exact fun x σ' G' H' gg q xr => hq x G' H' (ext_end sg gg q.sub q.fr) xr
  | bk r => rw [e] at hq; exact hq.elim
  | ct r => rw [e] at hq; exact hq.elim
  | bad => rw [e] at hq; exact hq.elim
theorem fv_imp {k n : Nat} {f : Addr} {fd : FuncData} {ps : List Str} {F1 F2 : List PyData → R PyData} (h : FV P w K mg base k f fd ps n F1) (e : ∀ ds, ds.length = n → F2 ds = .bad ∨ F1 ds = F2 ds) : FV P w K mg base k f fd ps n F2 := by
  refine FnOk.imp h fun vs H Q E z => ?_
  obtain ⟨hl, ds, G, sg, hd, hq⟩ := z
  refine ⟨hl, ds, G, sg, hd, ?_⟩
  rcases e ds (by rw [← hd.len]; exact hl) with e | e
  · rw [e] at hq; exact hq.elim
  · rw [e]; exact hq
/-- a def that may be called by its name -/
def Cal (P : Program) (w : World) (K : PySem.W.Frag) (mg : Str → Option Value) (base : Heap) (x : Str) (k n : Nat) (Ff : List PyData → R PyData) : Prop :=
  ∃ f fd ps, FV P w K mg base k f fd ps n Ff ∧ mg x = some (.ref f) ∧ PySem.W.keepIn K (.ref f) = true ∧ Binds K fd ps []
theorem Cal.mono {x : Str} {j k n : Nat} {Ff : List PyData → R PyData} (h : Cal P w K mg base x j n Ff) (l : j ≤ k) : Cal P w K mg base x k n Ff := by
  obtain ⟨f, fd, ps, h1, h2, h3, h4⟩ := h
  exact ⟨f, fd, ps, h1.mono l, h2, h3, h4⟩
end
section
variable {X : Cx} {W : WN} {a b c e : Expr} {ta tb tc te : TE} {fa fb fc fe : En → R PyData} {pos p p1 p2 : Pos} {es : List Expr} {t : TA}
theorem ve_callC {k n : Nat} {Ff : List PyData → R PyData} {x : Str} {fs : En → R (List PyData)} (cl : Cal X.prog X.w X.K X.mg X.base x k n Ff) (hr : Room k X.A) (hg : Gl X x) (tk : Takes X (wx X.K W)) (ha : VA X W (e :: es) t fs) (hn : (e :: es).length = n := by rfl)
    (hdb : (x == ("__debug__" : Str)) = false := by decide) (he : starEach (e :: es) X.env = (false, eval e X.env) :: starEach es X.env := by rfl) (hpl : (backTo pos (starEach es X.env)).any (·.1) = false := by rfl) :
    VE X W (.Call (.Name x p) (e :: es) [] pos) (tCallS (spV X.K n Ff) (WE (wx X.K W)) t) (fun r => (fs r).bind Ff) := by
  obtain ⟨f, fd, ps, h1, h2, h3, h4⟩ := cl
  exact ve_call h1 hr hg h2 h3 h4 tk ha hn hdb he hpl
/-! ### built-ins of one argument, of two -/
def Un1 (P : Post) (r : List V → Hp → VK → Prop) (g : PyData → R PyData) : Prop := ∀ (W : WN) (σ : L2.St) (G H : Hp) (x : V) (d : PyData), Same G H → RBv G H x d → Sd P W (fun _ H Q => r [x] H Q) σ G H (g d)
def Un2 (P : Post) (r : List V → Hp → VK → Prop) (g : PyData → PyData → R PyData) : Prop := ∀ (W : WN) (σ : L2.St) (G H : Hp) (x y : V) (d e : PyData), Same G H → RBv G H x d → RBv G H y e → Sd P W (fun _ H Q => r [x, y] H Q) σ G H (g d e)
theorem vx_cb1 {P : Post} {id : String} {x : Str} {r : List V → Hp → VK → Prop} {g : PyData → R PyData} (m : PMono P) (hc : CallR X (.builtin id) r) (hu : Un1 P r g) (hv : bootBuiltins x = some (.builtin id)) (hg : Gl X x) (hm : X.mg x = none) (ha : VB X W a ta fa) (hn : x ≠ "__name__" := by decide)
    (hdb : (x == ("__debug__" : Str)) = false := by decide) (hs : starEach [a] X.env = (false, eval a X.env) :: starEach [] X.env := by rfl) (hpl : (backTo pos (starEach [] X.env)).any (·.1) = false := by rfl) : Vx P X W (.Call (.Name x p) [a] [] pos) (tCB r (tCons ta tNil)) (fun ro => (fa ro).bind g) := by
  refine ⟨pe_callB hc hg hm hv (pa_cons ha.pe pa_nil hs) hn hdb hs hpl, fun F G ro σ H q => ?_⟩
  exact sd_bind (t' := fun v _ H1 Q => r [v] H1 Q) m (ha.so F G ro σ H q) fun d v G1 H1 _ e1 p1 => hu W σ G1 H1 v d e1.gh p1
theorem vx_ct1 {P : Post} {id : String} {x : Str} {r : List V → Hp → VK → Prop} {g : PyData → R PyData} (m : PMono P) (hc : CallR X (.type id) r) (hu : Un1 P r g) (hv : bootBuiltins x = some (.type id)) (hg : Gl X x) (hm : X.mg x = none) (ha : VB X W a ta fa) (hn : x ≠ "__name__" := by decide)
    (hdb : (x == ("__debug__" : Str)) = false := by decide) (hs : starEach [a] X.env = (false, eval a X.env) :: starEach [] X.env := by rfl) (hpl : (backTo pos (starEach [] X.env)).any (·.1) = false := by rfl) : Vx P X W (.Call (.Name x p) [a] [] pos) (tCB r (tCons ta tNil)) (fun ro => (fa ro).bind g) := by
  refine ⟨pe_callTy hc hg hm hv (pa_cons ha.pe pa_nil hs) hn hdb hs hpl, fun F G ro σ H q => ?_⟩
  exact sd_bind (t' := fun v _ H1 Q => r [v] H1 Q) m (ha.so F G ro σ H q) fun d v G1 H1 _ e1 p1 => hu W σ G1 H1 v d e1.gh p1
theorem vx_cb2 {P : Post} {id : String} {x : Str} {r : List V → Hp → VK → Prop} {g : PyData → PyData → R PyData} (m : PMono P) (hc : CallR X (.builtin id) r) (hu : Un2 P r g) (hv : bootBuiltins x = some (.builtin id)) (hg : Gl X x) (hm : X.mg x = none) (ha : VB X W a ta fa) (hb : VB X W b tb fb) (hn : x ≠ "__name__" := by decide)
    (hdb : (x == ("__debug__" : Str)) = false := by decide) (hs : starEach [a, b] X.env = (false, eval a X.env) :: starEach [b] X.env := by rfl) (hs2 : starEach [b] X.env = (false, eval b X.env) :: starEach [] X.env := by rfl) (hpl : (backTo pos (starEach [b] X.env)).any (·.1) = false := by rfl) :
    Vx P X W (.Call (.Name x p) [a, b] [] pos) (tCB r (tCons ta (tCons tb tNil))) (b2 fa fb g) := by
  refine ⟨pe_callB hc hg hm hv (pa_cons ha.pe (pa_cons hb.pe pa_nil hs2) hs) hn hdb hs hpl, fun F G ro σ H q => ?_⟩
  refine sd_bind (t' := fun v σ H1 Q => tb σ H1 fun v2 H2 => r [v, v2] H2 Q) m (ha.so F G ro σ H q) fun d v G1 H1 _ e1 p1 => ?_
  exact sd_bind (t' := fun v2 _ H2 Q => r [v, v2] H2 Q) m (hb.so F G1 ro σ H1 (q.ext e1)) fun d2 v2 G2 H2 _ e2 p2 => hu W σ G2 H2 v v2 d d2 e2.gh (p1.ext e2) p2
/-! ### len, isinstance, list, tuple, int, abs, min, max, sum -/
def lenD : PyData → R PyData
  | .list ds => .ok (.int ds.length)
  | .tuple ds => .ok (.int ds.length)
  | .str x => if x.length ≤ sizeLine then .ok (.int x.length) else .bad
  | _ => .bad
theorem u1_len {K : PySem.W.Frag} : Un1 pE (fun xs H Q => ∃ x n, xs = [x] ∧ LenV K x H n ∧ Q (.int n) H) lenD := by
  intro W σ G H x d s hx
  cases d with
  | list ds =>
    obtain ⟨a, vs, rfl, h1, h2⟩ := hx.lst s
    refine sd_of s (.int _) fun Q z => ⟨_, vs.length, rfl, .inl ⟨vs, slL h1, rfl⟩, ?_⟩
    rw [h2.len]; exact z
  | tuple ds =>
    obtain ⟨a, vs, rfl, h1, h2⟩ := hx.tup
    refine sd_of s (.int _) fun Q z => ⟨_, vs.length, rfl, .inr ⟨vs, slT (rdm s h1), rfl⟩, ?_⟩
    rw [h2.len]; exact z
  | str x =>
    cases hx.str
    show Sd pE W _ σ G H (if _ then _ else _)
    split
    · rename_i hl
      exact sd_of s (.int _) fun Q z => ⟨_, x.length, rfl, ⟨hl, rfl⟩, z⟩
    · trivial
  | _ => trivial
theorem ve_len (hg : Gl X "len") (hm : X.mg "len" = none) (ha : VB X W a ta fa) (hs : starEach [a] X.env = (false, eval a X.env) :: starEach [] X.env := by rfl) (hpl : (backTo pos (starEach [] X.env)).any (·.1) = false := by rfl) :
    VE X W (.Call (.Name "len" p) [a] [] pos) (tCB (fun xs H Q => ∃ x n, xs = [x] ∧ LenV X.K x H n ∧ Q (.int n) H) (tCons ta tNil)) (fun ro => (fa ro).bind lenD) := vx_cb1 mE call_len u1_len PySem.boot_len hg hm ha (by decide) (by decide) hs hpl
/-- list(x) -/
def listD : PyData → R PyData
  | .list ds => .ok (.list ds)
  | .tuple ds => .ok (.list ds)
  | _ => .bad
def tupleD : PyData → R PyData
  | .list ds => .ok (.tuple ds)
  | .tuple ds => .ok (.tuple ds)
  | _ => .bad
def rListA (K : PySem.W.Frag) : List V → Hp → VK → Prop := fun xs H Q => ∃ p ys, xs = [.ref p] ∧ (SqL K H p ys ∨ SqT K H p ys) ∧ ∀ l, H l = none → Q (.ref l) (upd H l (.lst ys))
def rTupleA (K : PySem.W.Frag) : List V → Hp → VK → Prop := fun xs H Q => ∃ p ys, xs = [.ref p] ∧ ((SqL K H p ys ∧ ∀ l, H l = none → Q (.ref l) (upd H l (.tup ys))) ∨ (SqT K H p ys ∧ Q (.ref p) H))
def rInt1 : List V → Hp → VK → Prop := fun xs H Q => (∃ i, xs = [.int i] ∧ Q (.int i) H) ∨ ∃ k, xs = [.bl k] ∧ Q (.int (if k then 1 else 0)) H
def rAbs1 : List V → Hp → VK → Prop := fun xs H Q => ∃ i, xs = [.int i] ∧ Q (.int (if i < 0 then -i else i)) H
def rMaxA : List V → Hp → VK → Prop := fun xs H Q => ∃ i j, xs = [.int i, .int j] ∧ Q (.int (if j > i then j else i)) H
def rMinA : List V → Hp → VK → Prop := fun xs H Q => ∃ i j, xs = [.int i, .int j] ∧ Q (.int (if j < i then j else i)) H
theorem u1_list {K : PySem.W.Frag} : Un1 pO (rListA K) listD := by
  intro W σ G H x d s hx
  cases d with
  | list ds =>
    obtain ⟨a, vs, rfl, h1, h2⟩ := hx.lst s
    exact sd_eq (sd_lst s h2) fun Q z => ⟨a, vs, rfl, .inl (slL h1), z⟩
  | tuple ds =>
    obtain ⟨a, vs, rfl, h1, h2⟩ := hx.tup
    exact sd_eq (sd_lst s h2) fun Q z => ⟨a, vs, rfl, .inr (slT (rdm s h1)), z⟩
  | _ => trivial
theorem u1_tuple {K : PySem.W.Frag} : Un1 pE (rTupleA K) tupleD := by
  intro W σ G H x d s hx
  cases d with
  | list ds =>
    obtain ⟨a, vs, rfl, h1, h2⟩ := hx.lst s
    exact sd_eq (sd_tup s h2) fun Q z => ⟨a, vs, rfl, .inl ⟨slL h1, z⟩⟩
  | tuple ds =>
    obtain ⟨a, vs, rfl, hX, h2⟩ := hx.tupX
    have h1 := Rd.of hX
    exact sd_of s (.tup hX h2) fun Q z => ⟨a, vs, rfl, .inr ⟨slT (rdm s h1), z⟩⟩
  | _ => trivial
theorem vo_list (hg : Gl X "list") (hm : X.mg "list" = none) (ha : VB X W a ta fa) (hs : starEach [a] X.env = (false, eval a X.env) :: starEach [] X.env := by rfl) (hpl : (backTo pos (starEach [] X.env)).any (·.1) = false := by rfl) :
    VO X W (.Call (.Name "list" p) [a] [] pos) (tCB (rListA X.K) (tCons ta tNil)) (fun ro => (fa ro).bind listD) := vx_ct1 mO call_list_of u1_list PyProof.Rows.boot_list hg hm ha (by decide) (by decide) hs hpl
theorem ve_tuple (hg : Gl X "tuple") (hm : X.mg "tuple" = none) (ha : VB X W a ta fa) (hs : starEach [a] X.env = (false, eval a X.env) :: starEach [] X.env := by rfl) (hpl : (backTo pos (starEach [] X.env)).any (·.1) = false := by rfl) :
    VE X W (.Call (.Name "tuple" p) [a] [] pos) (tCB (rTupleA X.K) (tCons ta tNil)) (fun ro => (fa ro).bind tupleD) := vx_ct1 mE call_tuple_of u1_tuple PyProof.Rows.boot_tuple hg hm ha (by decide) (by decide) hs hpl
def intOfD : PyData → R PyData
  | .int i => .ok (.int i)
  | .bool k => .ok (.int (if k then 1 else 0))
  | _ => .bad
theorem u1_int : Un1 pE rInt1 intOfD := by
  intro W σ G H x d s hx
  cases d with
  | int i =>
    cases hx.int
    exact sd_of s (.int _) fun Q z => .inl ⟨i, rfl, z⟩
  | bool k =>
    cases hx.bl
    exact sd_of s (.int _) fun Q z => .inr ⟨k, rfl, z⟩
  | _ => trivial
theorem ve_intOf (hg : Gl X "int") (hm : X.mg "int" = none) (ha : VB X W a ta fa) (hs : starEach [a] X.env = (false, eval a X.env) :: starEach [] X.env := by rfl) (hpl : (backTo pos (starEach [] X.env)).any (·.1) = false := by rfl) :
    VE X W (.Call (.Name "int" p) [a] [] pos) (tCB rInt1 (tCons ta tNil)) (fun ro => (fa ro).bind intOfD) := vx_ct1 mE call_int1 u1_int PyProof.Rows.boot_int hg hm ha (by decide) (by decide) hs hpl
def absD : PyData → R PyData
  | .int i => .ok (.int (if i < 0 then -i else i))
  | _ => .bad
theorem u1_abs : Un1 pE rAbs1 absD := by
  intro W σ G H x d s hx
  cases d with
  | int i =>
    cases hx.int
    exact sd_of s (.int _) fun Q z => ⟨i, rfl, z⟩
  | _ => trivial
def max2D : PyData → PyData → R PyData
  | .int i, .int j => .ok (.int (if j > i then j else i))
  | _, _ => .bad
def min2D : PyData → PyData → R PyData
  | .int i, .int j => .ok (.int (if j < i then j else i))
  | _, _ => .bad
theorem u2_max : Un2 pE rMaxA max2D := by
  intro W σ G H x y d e s hx hy
  cases d with
  | int i =>
    cases e with
    | int j =>
      cases hx.int; cases hy.int
      exact sd_of s (.int _) fun Q z => ⟨i, j, rfl, z⟩
    | _ => trivial
  | _ => trivial
theorem u2_min : Un2 pE rMinA min2D := by
  intro W σ G H x y d e s hx hy
  cases d with
  | int i =>
    cases e with
    | int j =>
      cases hx.int; cases hy.int
      exact sd_of s (.int _) fun Q z => ⟨i, j, rfl, z⟩
    | _ => trivial
  | _ => trivial
theorem ve_max2 (hc : X.calm = true) (hg : Gl X "max") (hm : X.mg "max" = none) (ha : VB X W a ta fa) (hb : VB X W b tb fb) (hs : starEach [a, b] X.env = (false, eval a X.env) :: starEach [b] X.env := by rfl) (hs2 : starEach [b] X.env = (false, eval b X.env) :: starEach [] X.env := by rfl) (hpl : (backTo pos (starEach [b] X.env)).any (·.1) = false := by rfl) :
    VE X W (.Call (.Name "max" p) [a, b] [] pos) (tCB rMaxA (tCons ta (tCons tb tNil))) (b2 fa fb max2D) := vx_cb2 mE (call_max2 hc) u2_max PyProof.Rows.boot_max hg hm ha hb (by decide) (by decide) hs hs2 hpl
theorem ve_min2 (hc : X.calm = true) (hg : Gl X "min") (hm : X.mg "min" = none) (ha : VB X W a ta fa) (hb : VB X W b tb fb) (hs : starEach [a, b] X.env = (false, eval a X.env) :: starEach [b] X.env := by rfl) (hs2 : starEach [b] X.env = (false, eval b X.env) :: starEach [] X.env := by rfl) (hpl : (backTo pos (starEach [b] X.env)).any (·.1) = false := by rfl) :
    VE X W (.Call (.Name "min" p) [a, b] [] pos) (tCB rMinA (tCons ta (tCons tb tNil))) (b2 fa fb min2D) := vx_cb2 mE (call_min2 hc) u2_min PyProof.Rows.boot_min hg hm ha hb (by decide) (by decide) hs hs2 hpl
def sumD : PyData → R PyData
  | .list ds => match intsOf ds with
    | some ns => .ok (.int ns.sum)
    | none => .bad
  | _ => .bad
theorem u1_sum {K : PySem.W.Frag} : Un1 pE (rSum K) sumD := by
  intro W σ G H x d s hx
  cases d with
  | list ds =>
    obtain ⟨a, vs, rfl, h1, h2⟩ := hx.lst s
    show Sd pE W _ σ G H (match intsOf ds with | some ns => .ok (.int ns.sum) | none => .bad)
    split
    · rename_i ns e
      have z1 := DeAll.ints h2 e
      subst z1
      exact sd_of s (.int _) fun Q z => ⟨a, ns, rfl, slL h1, z⟩
    · trivial
  | _ => trivial
theorem ve_sum (hc : X.calm = true) (hg : Gl X "sum") (hm : X.mg "sum" = none) (ha : VB X W a ta fa) (hs : starEach [a] X.env = (false, eval a X.env) :: starEach [] X.env := by rfl) (hpl : (backTo pos (starEach [] X.env)).any (·.1) = false := by rfl) :
    VE X W (.Call (.Name "sum" p) [a] [] pos) (tCB (rSum X.K) (tCons ta tNil)) (fun ro => (fa ro).bind sumD) := vx_cb1 mE (cr_sum hc) u1_sum PyProof.Rows.boot_sum hg hm ha (by decide) (by decide) hs hpl
/-- isinstance(x, T), T a built-in type -/
def tyD : PyData → String
  | .none => "NoneType"
  | .bool _ => "bool"
  | .int _ => "int"
  | .str _ => "str"
  | .list _ => "list"
  | .tuple _ => "tuple"
  | .dict _ => "dict"
def isiD (T : String) (d : PyData) : R PyData := match kitB (tyD d) T with
  | some b => .ok (.bool b)
  | none => .bad
theorem tyX_of {K : PySem.W.Frag} {G H : Hp} {v : V} {d : PyData} (s : Same G H) (h : RBv G H v d) : TyX K H v (.type (tyD d)) := by
  cases d with
  | none => rw [h.non]; exact .base .non
  | bool b => rw [h.bl]; exact .base (.bl b)
  | int b => rw [h.int]; exact .base (.int b)
  | str b => rw [h.str]; exact .base (.str b)
  | list ds =>
    obtain ⟨a, vs, rfl, h1, h2⟩ := h.lst s
    rcases h1 with h1 | ⟨o, h1⟩
    · exact .base (.lst h1)
    · exact .base (.frz h1)
  | tuple ds =>
    obtain ⟨a, vs, rfl, h1, h2⟩ := h.tup
    rcases rdm s h1 with h1 | ⟨o, h1⟩
    · exact .base (.tup h1)
    · exact .fTuple h1
  | dict _ =>
    rcases h with h | ⟨p, vs, ds, _, _, h, _⟩
    · cases h
    · cases h
theorem ve_isi (T : String) {x : Str} (hg : Gl X "isinstance") (hm : X.mg "isinstance" = none) (hgT : Gl X x) (hmT : X.mg x = none) (hvT : bootBuiltins x = some (.type T)) (ha : VB X W a ta fa)
    (hnT : x ≠ "__name__" := by decide) (hdT : (x == ("__debug__" : Str)) = false := by decide) (hs : starEach [a, .Name x p1] X.env = (false, eval a X.env) :: starEach [.Name x p1] X.env := by rfl) (hs2 : starEach [.Name x p1] X.env = (false, eval (.Name x p1) X.env) :: starEach [] X.env := by rfl) (hpl : (backTo pos (starEach [.Name x p1] X.env)).any (·.1) = false := by rfl) :
    VE X W (.Call (.Name "isinstance" p) [a, .Name x p1] [] pos) (tCB (rIsi X.K) (tCons ta (tCons (tC (.ty T)) tNil))) (fun ro => (fa ro).bind (isiD T)) := by
  refine ⟨pe_callB call_isi hg hm PyProof.Rows.boot_isinstance (pa_cons ha.pe (pa_cons (pe_bltn (v := .ty T) hgT hmT hvT rfl hnT hdT) pa_nil hs2) hs) (by decide) (by decide) hs hpl, fun F G ro σ H q => ?_⟩
  refine sd_bind (t' := fun v _ H1 Q => rIsi X.K [v, .ty T] H1 Q) mE (ha.so F G ro σ H q) fun d v G1 H1 _ e1 p1 => ?_
  unfold isiD
  cases e : kitB (tyD d) T with
  | none => trivial
  | some k => exact sd_of e1.gh (.bl k) fun Q z => ⟨v, .ty T, _, .type T, k, rfl, .ty T, tyX_of e1.gh p1, kit_ty e, z⟩
/-! ### a <= b <= c -/
def chainD (fa fb fc : En → R PyData) (g g' : PyData → PyData → R PyData) : En → R PyData := fun r => (fa r).bind fun x => (fb r).bind fun y => (g x y).bind fun z => (boolD z).bind fun k => if k then (fc r).bind fun w => g' y w else .ok (.bool false)
theorem ve_chain {op op' : CmpOp} {r r' : R2} {g g' : PyData → PyData → R PyData} (ho : OpR X (compareOp op) r) (ho' : OpR X (compareOp op') r') (hg : Op2 pE r g) (hg' : Op2 pE r' g') (ha : VB X W a ta fa) (hb : VB X W b tb fb) (hc : VB X W c tc fc)
    (hm : lastMarks [op, op'] [b, c] = false := by with_unfolding_all rfl) : VE X W (.Compare a [op, op'] [b, c] pos) (tChain r r' ta tb tc) (chainD fa fb fc g g') := by
  refine ⟨pe_chain ho ho' ha.pe hb.pe hc.pe hm, fun F G ro σ H q => ?_⟩
  refine sd_bind (t' := fun x σ H1 Q => tb σ H1 fun y H2 => r x y H2 fun z H3 => ∃ k, z = .bl k ∧ (if k = true then tc σ H3 fun w' H4 => r' y w' H4 Q else Q (.bl false) H3)) mE (ha.so F G ro σ H q) fun d v G1 H1 _ e1 p1 => ?_
  refine sd_bind (t' := fun y σ H2 Q => r v y H2 fun z H3 => ∃ k, z = .bl k ∧ (if k = true then tc σ H3 fun w' H4 => r' y w' H4 Q else Q (.bl false) H3)) mE (hb.so F G1 ro σ H1 (q.ext e1)) fun d2 v2 G2 H2 _ e2 p2 => ?_
  refine sd_bind (ta := fun _ H Q => r v v2 H Q) (t' := fun z σ H3 Q => ∃ k, z = .bl k ∧ (if k = true then tc σ H3 fun w' H4 => r' v2 w' H4 Q else Q (.bl false) H3)) mE (hg W σ G2 H2 v v2 d d2 e2.gh (p1.ext e2) p2) fun d3 v3 G3 H3 _ e3 p3 => ?_
  cases d3 with
  | bool k =>
    cases p3
    cases k with
    | false => exact sd_of e3.gh (.bl false) fun Q z => ⟨false, rfl, by rw [if_neg Bool.false_ne_true]; exact z⟩
    | true =>
      refine sd_eq (t := fun σ H3 Q => tc σ H3 fun w' H4 => r' v2 w' H4 Q) ?_ fun Q z => ⟨true, rfl, by rw [if_pos rfl]; exact z⟩
      exact sd_bind (t' := fun w' _ H4 Q => r' v2 w' H4 Q) mE (hc.so F G3 ro σ H3 (q.ext ((e1.trans e2).trans e3))) fun d4 v4 G4 H4 _ e4 p4 => hg' W σ G4 H4 v2 v4 d2 d4 e4.gh (p2.ext (e3.trans e4)) p4
  | _ => trivial
end
end DL
namespace DL
open PySem L2
/-! ### + of anything; slices of lists and tuples -/
def addE (d e : PyData) : R PyData := match d, e with
  | .list xs, .list ys => if xs.length + ys.length ≤ sizeLine then .ok (.list (xs ++ ys)) else .bad
  | d, e => addD d e
def rAddB (K : PySem.W.Frag) : R2 := fun x y H Q => rAddA K x y H Q ∨ rCatL x y H Q
section
variable {X : Cx} {W : WN} {a b c e : Expr} {ta tb tc te : TE} {fa fb fc fe : En → R PyData} {pos pos' p p2 : Pos} {es : List Expr} {t : TA} {c0 : Int}
theorem op_addB : OpR X (binaryOp .Add) (rAddB X.K) := op_addA.or op_catL
theorem o2_addE {K : PySem.W.Frag} : Op2 pE (rAddB K) addE := by
  intro W σ G H x y d e s hx hy
  have base : Sd pE W (fun _ H Q => rAddB K x y H Q) σ G H (addD d e) := sd_eq (o2_add (K := K) W σ G H x y d e s hx hy) fun Q z => .inl z
  have lst : Sd pE W (fun _ H Q => rAddB K x y H Q) σ G H (catD d e) := sd_eq (sd_fz (o2_cat W σ G H x y d e s hx hy)) fun Q z => .inr z
  cases d <;> cases e <;> first | exact lst | exact base
theorem ve_add (ha : VB X W a ta fa) (hb : VB X W b tb fb) : VE X W (.BinOp a .Add b pos) (tOp (rAddB X.K) ta tb) (b2 fa fb addE) := vx_op mE op_addB o2_addE ha hb
theorem vo_cat (ha : VB X W a ta fa) (hb : VB X W b tb fb) : VO X W (.BinOp a .Add b pos) (tOp rCatL ta tb) (b2 fa fb catD) := vx_op mO op_catL o2_cat ha hb
theorem ve_sub (ha : VB X W a ta fa) (hb : VB X W b tb fb) : VE X W (.BinOp a .Sub b pos) (tOp (rI0 fun i j => .int (i - j)) ta tb) (b2 fa fb subD) := vx_op mE op_sub o2_sub ha hb
theorem ve_mul (ha : VB X W a ta fa) (hb : VB X W b tb fb) : VE X W (.BinOp a .Mult b pos) (tOp (rI CMul fun i j => .int (i * j)) ta tb) (b2 fa fb mulD) := vx_op mE op_mul o2_mul ha hb
theorem ve_fdiv (ha : VB X W a ta fa) (hb : VB X W b tb fb) : VE X W (.BinOp a .FloorDiv b pos) (tOp (rI CDiv fun i j => .int (i / j)) ta tb) (b2 fa fb fdivD) := vx_op mE op_fdiv o2_fdiv ha hb
theorem ve_mod (ha : VB X W a ta fa) (hb : VB X W b tb fb) : VE X W (.BinOp a .Mod b pos) (tOp (rI (fun _ j => 0 < j) fun i j => .int (i % j)) ta tb) (b2 fa fb modD) := vx_op mE op_mod o2_mod ha hb
theorem ve_pow (ha : VB X W a ta fa) (hb : VB X W b tb fb) : VE X W (.BinOp a .Pow b pos) (tOp (rI CPow fun i j => .int (i ^ j.toNat)) ta tb) (b2 fa fb powD) := vx_op mE op_pow o2_pow ha hb
def negD : PyData → R PyData
  | .int i => .ok (.int (-i))
  | _ => .bad
def c1 (g : PyData → R PyData) (fa : En → R PyData) : En → R PyData := fun r => (fa r).bind g
theorem ve_neg (ha : VB X W a ta fa) : VE X W (.UnaryOp .USub a pos) (tUn (rU fun i => .int (-i)) ta) (c1 negD fa) := by
  refine ⟨pe_un un_neg ha.pe, fun F G r σ H q => ?_⟩
  refine sd_bind (t' := fun v _ H1 Q => rU (fun i => .int (-i)) v H1 Q) mE (ha.so F G r σ H q) fun d v G1 H1 _ e1 p1 => ?_
  cases d with
  | int i =>
    cases p1.int
    exact sd_of e1.gh (.int _) fun Q z => ⟨i, rfl, z⟩
  | _ => trivial
variable {lo hi : Option Expr} {tl th : TO} {fl fh : En → R (Option Int)}
def slA3 (d : PyData) (lo hi : Option Int) : R PyData := match d with
  | .tuple ds => .ok (.tuple (cutL ds lo hi))
  | .list ds => .ok (.list (cutL ds lo hi))
  | _ => .bad
theorem ve_sl (ha : VB X W a ta fa) (hl : VP X W lo tl fl) (hh : VP X W hi th fh) : VE X W (.Subscript a (.Slice lo hi none p2) pos) (tSl (fun x l h H Q => rSlA X.K x l h H Q ∨ rSlL X.K x l h H Q) ta tl th) (b3 fa fl fh slA3) := by
  refine ⟨pe_slice (sl_tupA.or sl_list) ha.pe hl.po hh.po, fun F G r σ H q => ?_⟩
  refine sd_bind (t' := fun x σ H1 Q => tl σ H1 fun l H2 => th σ H2 fun u H3 => rSlA X.K x l u H3 Q ∨ rSlL X.K x l u H3 Q) mE (ha.so F G r σ H q) fun d v G1 H1 _ e1 p1 => ?_
  refine sd_bindP (t' := fun l σ H2 Q => th σ H2 fun u H3 => rSlA X.K v l u H3 Q ∨ rSlL X.K v l u H3 Q) mE (hl.so F G1 r σ H1 (q.ext e1)) fun l G2 H2 _ e2 => ?_
  refine sd_bindP (t' := fun u _ H3 Q => rSlA X.K v l u H3 Q ∨ rSlL X.K v l u H3 Q) mE (hh.so F G2 r σ H2 (q.ext (e1.trans e2))) fun u G3 H3 _ e3 => ?_
  have p3 := p1.ext (e2.trans e3)
  cases d with
  | tuple ds =>
    obtain ⟨a, vs, rfl, hX, h2⟩ := p3.tupX
    have h1 := Rd.of hX
    intro Q z
    refine .inl ⟨a, vs, rfl, slT (rdm e3.gh h1), fun w => ?_, fun _ p hp => ?_⟩
    · have e : cutL ds l u = ds := by
        unfold cutL
        rw [← h2.len, w.1, w.2, List.drop_zero, Nat.sub_zero, h2.len, List.take_length]
      refine z _ G3 H3 (Ext.refl e3.gh) ?_
      rw [e]
      exact .tup hX h2
    · exact z _ _ _ (Ext.laid e3.gh hp) (.tup upd_same (dam (Same.new (e3.gh.free hp)) (h2.cut l u)))
  | list ds =>
    obtain ⟨a, vs, rfl, h1, h2⟩ := p3.lst e3.gh
    exact sd_eq (sd_fz (sd_lst e3.gh (h2.cut l u))) fun Q z => .inr ⟨a, vs, rfl, slL h1, z⟩
  | _ => trivial
/-! ### y = [.. for ..] -/
variable {st : Stmt} {sts : List Stmt} {ts us : TS} {fs gs : En → O} {tA : TT} {fA : En → R Bool}
def lcF (fi : En → R (List PyData)) (ft : PyData → En → Option En) (fc : En → R Bool) (fe : En → R PyData) (vs : List Nat) : En → R PyData := fun r => (fi r).bind fun items => (compL ft fc fe (wipeE vs r) items).bind fun ds => .ok (.list ds)
theorem vs_setLc {tg : Expr} {i : Nat} {y : Str} {py spos : Pos} {elt iter : Expr} {ifs : List Expr} {scope : Scope} {own : List (Str × Nat)} {wi : TI} {g : TG} {sl : List Nat} {tt : TT} {te : TE} {fi : En → R (List PyData)} {ft : PyData → En → Option En} {fc : En → R Bool} {fe : En → R PyData} (hc : X.calm = true) (hN : X.N.Nodup) (hy : X.N[i]? = some y) (hyl : X.env.scope.names.lookup y = some .local)
    (hsw : swapsWith (.ListComp elt [⟨tg, iter, ifs, 0⟩] scope pos) (some (.Name y py)) spos.line X.env = pure true) (hi : VI X W tg iter wi fi) (ok : BlkOk X.N X.env.scope scope own)
    (hg : ∀ (s : Shared) (H : Hp) (C : Addr) (cl : List (Str × Addr)) (fp : List Addr), VG (X.blk s H scope (compEnvC scope cl C X.env) fp) tg g sl ft) (ht : ∀ (s : Shared) (H : Hp) (C : Addr) (cl : List (Str × Addr)) (fp : List Addr), VTs (X.blk s H scope (compEnvC scope cl C X.env) fp) W0 ifs tt fc)
    (he : ∀ (s : Shared) (H : Hp) (C : Addr) (cl : List (Str × Addr)) (fp : List Addr), VE (X.blk s H scope (compEnvC scope cl C X.env) fp) W0 elt te fe) (hsl : ∀ i ∈ sl, i ∈ own.map (·.2) := by decide) (hs : ∀ x, foldedSetIterable iter X.env x = pure x := by intro _; rfl) :
    VS X W (.Assign [.Name y py] (.ListComp elt [⟨tg, iter, ifs, 0⟩] scope pos) spos) (tAsg (tLc wi g tt te (own.map (·.2))) (gName i)) (fun r => (lcF fi ft fc fe (own.map (·.2)) r).toO r (ownO i r)) :=
  ⟨ps_setLc hc hN hy hyl hsw hi.pi ok (fun s H C cl fp => (hg s H C cl fp).pg) (fun s H C cl fp => (ht s H C cl fp).pt) (fun s H C cl fp => (he s H C cl fp).pe) hs,
    fun F G r σ H q D a => acc_bind (k := fun x H1 => gName i x σ H1 D.nx) q (lc_so hi.so hsl (hg X.s_0 X.H_0 0 [] []).so (ht X.s_0 X.H_0 0 [] []).so (he X.s_0 X.H_0 0 [] []).so F G r σ H q) a fun d v G' H' _ e p a' => acc_own q e p a'⟩
/-! ### lists of one's own changed -/
/-- the place i holds a list of one's own: what is done with it -/
def ownAt (i : Nat) (r : En) (f : List PyData → O) : O := match r[i]? with
  | some (.own ds) => f ds
  | _ => .bad
theorem Rep.ownE {F G H : Hp} {r : En} {σ : L2.St} {D : Ends} {i : Nat} {f : List PyData → O} (q : Rep F G r σ H) (a : Acc W F G D (ownAt i r f)) : ∃ ds p vs, r[i]? = some (.own ds) ∧ σ[i]? = some (some (.ref p)) ∧ H p = some (.lst vs) ∧ G p = none ∧ F p = none ∧ DeAll G vs ds ∧ Acc W F G D (f ds) := by
  unfold ownAt at a
  split at a
  · rename_i ds e
    obtain ⟨p, vs, h1, h2, h3, h4, h5⟩ := q.own i ds e
    exact ⟨ds, p, vs, e, h1, h2, h3, h4, h5, a⟩
  · exact (show False from a).elim
/-- a method that changes the list in slot i -/
def mutO (i : Nat) (fs : En → R (List PyData)) (gm : List PyData → List PyData → Option (List PyData)) : En → O := fun r => ownAt i r fun ds => (fs r).toO r fun es => match gm ds es with
  | some ns => .nx (r.set i (.own ns))
  | none => .bad
theorem acc_bindA {F G H : Hp} {r : En} {σ : L2.St} {D : Ends} {t : TA} {k : List V → Hp → Prop} {re : R (List PyData)} {fo : List PyData → O} (q : Rep F G r σ H) (h : SdA W t σ G H re) (a : Acc W F G D (re.toO r fo))
    (hk : ∀ ds vs G' H', re = .ok ds → Ext G H G' H' → DeAll G' vs ds → Acc W F G' D (fo ds) → k vs H') : t σ H k := by
  cases re with
  | ok d => exact h k fun v G' H' e p => hk d v G' H' rfl e p (Acc.mono a e.gg)
  | exc c fs => exact h (fun x G' H' e xr => a x σ G' H' e.gg (q.ext e) xr) k
  | bad => exact (show False from a).elim
theorem Ext.keepN {G H G' H' : Hp} {p : Addr} {us : List V} (e : Ext G H G' H') (h1 : G p = none) (h2 : H p = some (.lst us)) : G' p = none := by
  cases z : G' p with
  | none => rfl
  | some u =>
    rcases e.new p u z with k | k | ⟨ys, k⟩
    · rw [h1] at k; cases k
    · rw [h2] at k; cases k
    · have := e.gh p u z
      rw [e.hh p _ h2, k] at this
      cases this
def MutR (rm : V → List V → Hp → VK → Prop) (gm : List PyData → List PyData → Option (List PyData)) : Prop :=
  ∀ (G H : Hp) (p : Addr) (vs us : List V) (ds es ns : List PyData), Same G H → H p = some (.lst vs) → G p = none → DeAll G vs ds → DeAll G us es → gm ds es = some ns → ∃ ws, DeAll G ws ns ∧ ∀ Q : VK, Q .non (upd H p (.lst ws)) → rm (.ref p) us H Q
theorem vs_mut {i : Nat} {args : List Expr} {fs : En → R (List PyData)} {rm : V → List V → Hp → VK → Prop} {gm : List PyData → List PyData → Option (List PyData)} (hm : MutR rm gm) (hps : PS X st (tDrop (tBM X.K "list" rm (tVar i) t))) (ha : VA X W args t fs) :
    VS X W st (tDrop (tBM X.K "list" rm (tVar i) t)) (mutO i fs gm) := by
  refine ⟨hps, fun F G r σ H q D a => ?_⟩
  obtain ⟨ds, p, vs, h0, h1, h2, h3, h4, h5, a1⟩ := q.ownE a
  refine ⟨.ref p, h1, .inl ⟨rfl, _, slL (.inl h2)⟩, ?_⟩
  refine acc_bindA (k := fun xs H2 => rm (.ref p) xs H2 fun _ H1 => D.nx σ H1) q (ha.so F G r σ H q) a1 fun es us G' H' _ e he a2 => ?_
  have k1 : H' p = some (.lst vs) := e.hh _ _ h2
  have k2 : G' p = none := e.keepN h3 h2
  cases eg : gm ds es with
  | none => rw [eg] at a2; exact (show False from a2).elim
  | some ns =>
    rw [eg] at a2
    obtain ⟨ws, k3, k4⟩ := hm G' H' p vs us ds es ns e.gh k1 k2 (dam e.gg h5) he eg
    exact k4 _ (a2 σ G' _ (Same.refl G') ((q.ext e).mut i h0 h1 k1 k2 h4 k3))
def gApp : List PyData → List PyData → Option (List PyData)
  | ds, [d] => if ds.length < sizeLine then some (ds ++ [d]) else none
  | _, _ => none
theorem mut_append : MutR rAppend gApp := by
  intro G H p vs us ds es ns s h1 h2 h3 h4 e
  unfold gApp at e
  split at e
  · rename_i ds d
    split at e
    · rename_i hl
      cases e
      cases h4 with
      | cons k1 k2 =>
        cases k2
        rename_i v
        exact ⟨vs ++ [v], h3.app (.cons k1 .nil), fun Q z => ⟨p, vs, v, rfl, rfl, h1, by rw [h3.len]; exact hl, z⟩⟩
    · cases e
  · cases e
def rExtendR : V → List V → Hp → VK → Prop := fun x vs H Q => ∃ l b xs zs, x = .ref l ∧ vs = [.ref b] ∧ H l = some (.lst xs) ∧ Rd H b (.lst zs) ∧ xs.length + zs.length ≤ sizeLine ∧ Q .non (upd H l (.lst (xs ++ zs)))
theorem mt_extendR : MtM X "list.extend" rExtendR := by
  intro pins s σ H x vs v us Q I rx rv h
  obtain ⟨l, b, xs, zs, rfl, rfl, hH, hB, hz, q⟩ := h
  cases rx
  obtain ⟨u, rfl, ru⟩ := rv.one
  cases ru
  obtain ⟨z, its, n, r, hl, e⟩ := I.lstM hH
  obtain ⟨z2, its2, n2, r2, hl2, e2⟩ := Inv.lstR I hB
  have hsz : its.toArray.size + its2.toArray.size ≤ sizeLine := by rw [List.size_toArray, List.size_toArray]; omega
  have hlong : ¬ (!its.toArray.isEmpty && Builtin.List.listTooLong (its.toArray.size + its2.toArray.size)) = true := by
    rw [notLongL hsz, Bool.and_false]
    exact Bool.false_ne_true
  refine call_meets F.slot_list_extend ⟨_, e, rfl⟩ F.entry_list_extend (F.args_list_extend_2 _ _)
    (AutoSeq1.list_extend_list_list_0 l its.toArray n b its2.toArray n2 hlong (by rw [List.size_toArray]; omega) (by omega)) ⟨e, e2, ?_⟩
  refine ⟨.non, _, I.lset (its' := its ++ its2) hH e (by simp) (r.append r2) ?_, rfl, q⟩
  rw [List.length_append]
  omega
def gExt : List PyData → List PyData → Option (List PyData)
  | ds, [.list es] => if ds.length + es.length ≤ sizeLine then some (ds ++ es) else none
  | _, _ => none
theorem mut_extend : MutR rExtendR gExt := by
  intro G H p vs us ds es ns s h1 h2 h3 h4 e
  unfold gExt at e
  split at e
  · rename_i ds zs
    split at e
    · rename_i hl
      cases e
      cases h4 with
      | cons k1 k2 =>
        cases k2
        cases k1 with
        | lst a1 a2 =>
          have l1 := h3.len
          have l2 := DeAll.len a2
          exact ⟨_, h3.app a2, fun Q z => ⟨p, _, vs, _, rfl, rfl, h1, rdm s a1, by omega, z⟩⟩
    · cases e
  · cases e
def rInsR : V → List V → Hp → VK → Prop := fun x vs H Q => ∃ (l : Addr) (xs : List V) (i : Int) (y : V), x = .ref l ∧ vs = [.int i, y] ∧ H l = some (.lst xs) ∧ xs.length < sizeLine ∧ 0 ≤ i ∧ i < 2 ^ 63 ∧ Q .non (upd H l (.lst (xs.take i.toNat ++ [y] ++ xs.drop i.toNat)))
theorem mt_insertR : MtR X "list.insert" rInsR := mt_insert
def gIns0 : List PyData → List PyData → Option (List PyData)
  | ds, [.int k, d] => if k = 0 ∧ ds.length < sizeLine then some (d :: ds) else none
  | _, _ => none
theorem mut_insert : MutR rInsR gIns0 := by
  intro G H p vs us ds es ns s h1 h2 h3 h4 e
  unfold gIns0 at e
  split at e
  · rename_i ds k d
    split at e
    · rename_i hl
      cases e
      obtain ⟨rfl, hl⟩ := hl
      cases h4 with
      | cons k1 k2 =>
        cases k2 with
        | cons k3 k4 =>
          cases k4
          cases k1
          rename_i v
          exact ⟨v :: vs, .cons k3 h3, fun Q z => ⟨p, vs, 0, v, rfl, rfl, h1, by rw [h3.len]; exact hl, by decide, by decide, z⟩⟩
    · cases e
  · cases e
/-- xs[k] = e: what the list becomes -/
def setC (i : Nat) (r : En) (ds : List PyData) (d ix : PyData) : O := match ix with
  | .int k => match ixN ds.length k with
    | some j => .nx (r.set i (.own (ds.set j d)))
    | none => .bad
  | _ => .bad
theorem acc_set {F G H : Hp} {r : En} {σ : L2.St} {D : Ends} {i : Nat} {v vi : V} {d ix : PyData} {ds : List PyData} {p : Addr} {vs : List V} (q : Rep F G r σ H) (h0 : r[i]? = some (.own ds)) (h1 : σ[i]? = some (some (.ref p))) (h2 : H p = some (.lst vs)) (h3 : G p = none) (h4 : F p = none) (h5 : DeAll G vs ds)
    (hv : De G v d) (hi : De G vi ix) (a : Acc W F G D (setC i r ds d ix)) : rSetL (.ref p) vi v H fun H3 => D.nx σ H3 := by
  cases ix with
  | int k =>
    cases hi
    have a1 : Acc W F G D (match ixN ds.length k with | some j => .nx (r.set i (.own (ds.set j d))) | none => .bad) := a
    cases ej : ixN ds.length k with
    | none => rw [ej] at a1; exact (show False from a1).elim
    | some j =>
      rw [ej] at a1
      exact ⟨p, vs, k, j, rfl, rfl, h2, by rw [h5.len]; exact ej, a1 σ G _ (Same.refl G) (q.mut i h0 h1 h2 h3 h4 (h5.set hv j))⟩
  | _ => exact (show False from a).elim
theorem vs_setItem {i : Nat} {ti : TE} {fi : En → R PyData} (hps : ∀ te ti, PE X e te → PE X b ti → PS X st (tAsg te (gSub (tVar i) ti rSetL))) (he : VE X W e te fe) (hi : VE X W b ti fi) :
    VS X W st (tAsg te (gSub (tVar i) ti rSetL)) (fun r => ownAt i r fun ds => (fe r).toO r fun d => (fi r).toO r fun ix => setC i r ds d ix) := by
  refine ⟨hps te ti he.pe hi.pe, fun F G r σ H q D a => ?_⟩
  obtain ⟨ds, p, vs, h0, h1, h2, h3, h4, h5, a0⟩ := q.ownE a
  refine acc_bind (k := fun x H1 => gSub (tVar i) ti rSetL x σ H1 D.nx) q (he.so F G r σ H q) a0 fun d v G1 H1 _ e1 p1 a1 => ?_
  have q1 := q.ext e1
  refine ⟨.ref p, h1, ?_⟩
  refine acc_bind (k := fun vi H2 => rSetL (.ref p) vi v H2 fun H3 => D.nx σ H3) q1 (hi.so F G1 r σ H1 q1) a1 fun ix vi G2 H2 _ e2 p2 a2 => ?_
  have e12 := e1.trans e2
  exact acc_set (q1.ext e2) h0 h1 (e12.hh _ _ h2) (e12.keepN h3 h2) h4 (dam e12.gg h5) (dm e2.gg p1) p2 a2
/-- xs[k] += e -/
def rGetL : V → V → Hp → VK → Prop := fun o i H Q => ∃ p xs k v, o = .ref p ∧ i = .int k ∧ H p = some (.lst xs) ∧ atI xs k = some v ∧ Q v H
theorem get_list : PGet X rGetL := by
  intro pins s σ H o i ov iv Q I ro ri h
  obtain ⟨p, xs, k, v, rfl, rfl, hH, he, q⟩ := h
  cases ro
  obtain ⟨t, rfl⟩ := ri
  obtain ⟨its, r, pl, hz⟩ := I.list (SqL.of hH)
  obtain ⟨j, h1, h2, h3, h4, h5⟩ := atI_get he
  obtain ⟨w, ew, rw'⟩ := r.get h2
  have hl := r.length
  have hn := line63
  have fin : EP X pins σ Q w s := ⟨v, H, I, rw', q⟩
  by_cases h0 : 0 ≤ k
  · have hj : k.toNat = j := by
      rw [PySem.seqIndex_of h0 h5] at h1
      exact Option.some.inj h1
    exact wpAny_getItem_list pl.isList h0 (by omega) (by rw [hj]; simpa using ew) fin
  · have hj : (k + (its.toArray.size : Int)).toNat = j := by
      rw [PySem.seqIndex_neg (by omega) h4] at h1
      rw [List.size_toArray, ← hl]
      exact Option.some.inj h1
    exact wpAny_getItem_list_neg pl.isList (by omega) (by rw [List.size_toArray] <;> omega) (by omega) (by rw [hj]; simpa using ew) fin
def augC (f : Int → Int → Int) (i : Nat) (r : En) (ds : List PyData) (ix d : PyData) : O := match ix, d with
  | .int k, .int y => match ixN ds.length k with
    | some j => match ds[j]? with
      | some (.int x) => .nx (r.set i (.own (ds.set j (.int (f x y)))))
      | _ => .bad
    | none => .bad
  | _, _ => .bad
theorem vs_augItem {f : Int → Int → Int} {i : Nat} {ti : TE} {fi : En → R PyData} (hps : ∀ te ti, PE X e te → PE X b ti → PS X st (tAugS (tVar i) ti te rGetL (ipI f) rSetL)) (he : VE X W e te (kR (.int c0))) (hi : VE X W b ti fi) :
    VS X W st (tAugS (tVar i) ti te rGetL (ipI f) rSetL) (fun r => ownAt i r fun ds => (fi r).toO r fun ix => augC f i r ds ix (.int c0)) := by
  refine ⟨hps te ti he.pe hi.pe, fun F G r σ H q D a => ?_⟩
  obtain ⟨ds, p, vs, h0, h1, h2, h3, h4, h5, a0⟩ := q.ownE a
  refine ⟨.ref p, h1, ?_⟩
  refine acc_bind (k := fun vi H2 => rGetL (.ref p) vi H2 fun x H3 => te σ H3 fun y H4 => ipI f x y H4 fun z H5 => rSetL (.ref p) vi z H5 fun H6 => D.nx σ H6) q (hi.so F G r σ H q) a0 fun ix vi G1 H1 _ e1 p1 a1 => ?_
  have q1 := q.ext e1
  cases ix with
  | int k =>
    cases p1
    have a2 : Acc W F G1 D (match ixN ds.length k with | some j => (match ds[j]? with | some (.int x) => .nx (r.set i (.own (ds.set j (.int (f x c0))))) | _ => .bad) | none => .bad) := a1
    cases ej : ixN ds.length k with
    | none => rw [ej] at a2; exact (show False from a2).elim
    | some j =>
      rw [ej] at a2
      have h5' := dam e1.gg h5
      cases ed : ds[j]? with
      | none => simp only [ed] at a2; exact (show False from a2).elim
      | some dj =>
        cases dj with
        | int x =>
          simp only [ed] at a2
          obtain ⟨vj, k1, k2⟩ := h5'.get ed
          cases k2
          refine ⟨p, vs, k, .int x, rfl, rfl, e1.hh _ _ h2, ?_, ?_⟩
          · unfold atI
            rw [h5.len, ej]
            exact k1
          · refine (he.so F G1 r σ H1 q1) _ fun v2 G2 H2 e2 p2 => ?_
            cases p2
            refine ⟨x, c0, rfl, rfl, ?_⟩
            have e12 := e1.trans e2
            have k5 : DeAll G2 vs ds := dam e12.gg h5
            refine ⟨p, vs, k, j, rfl, rfl, e12.hh _ _ h2, by rw [h5.len]; exact ej, ?_⟩
            exact a2 σ G2 _ e2.gg ((q1.ext e2).mut i h0 h1 (e12.hh _ _ h2) (e12.keepN h3 h2) h4 (k5.set (.int _) j))
        | _ => simp only [ed] at a2; exact (show False from a2).elim
  | _ => exact (show False from a1).elim
/-- x += e, ints -/
def augN (f : Int → Int → Int) (i : Nat) (r : En) (d : PyData) : O := match r[i]?, d with
  | some (.dat (.int x)), .int y => .nx (r.set i (.dat (.int (f x y))))
  | _, _ => .bad
def datI (i : Nat) (r : En) (o : O) : O := match r[i]? with
  | some (.dat (.int _)) => o
  | _ => .bad
theorem vs_aug {f : Int → Int → Int} {i : Nat} (hps : ∀ te, PE X e te → PS X st (tAug i te (ipI f))) (he : VE X W e te fe) : VS X W st (tAug i te (ipI f)) (fun r => datI i r ((fe r).toO r (augN f i r))) := by
  refine ⟨hps te he.pe, fun F G r σ H q D a => ?_⟩
  unfold datI at a
  split at a
  · rename_i x e0
    obtain ⟨v, h1, h2⟩ := q.dat i _ e0
    cases h2
    refine ⟨.int x, h1, ?_⟩
    refine acc_bind (k := fun y H1 => ipI f (.int x) y H1 fun z H2 => D.nx (σ.set i (some z)) H2) q (he.so F G r σ H q) a fun d v G1 H1 _ e1 p1 a1 => ?_
    cases d with
    | int y =>
      cases p1
      unfold augN at a1
      rw [e0] at a1
      exact ⟨x, y, rfl, rfl, a1 _ G1 H1 (Same.refl G1) ((q.ext e1).setD i (.int _))⟩
    | _ =>
      unfold augN at a1
      rw [e0] at a1
      exact (show False from a1).elim
  · exact (show False from a).elim
/-- y = xs.pop(0) -/
def popO (i j : Nat) : En → O := fun r => ownAt i r fun ds => match ds with
  | d :: ds => .nx ((r.set i (.own ds)).set j (.dat d))
  | [] => .bad
theorem vs_pop0 {i j : Nat} (hps : PS X st (tAsg (tBM X.K "list" rPopAt (tVar i) (tCons (tC (.int 0)) tNil)) (gName j))) : VS X W st (tAsg (tBM X.K "list" rPopAt (tVar i) (tCons (tC (.int 0)) tNil)) (gName j)) (popO i j) := by
  refine ⟨hps, fun F G r σ H q D a => ?_⟩
  obtain ⟨ds, p, vs, h0, h1, h2, h3, h4, h5, a1⟩ := q.ownE a
  refine ⟨.ref p, h1, .inl ⟨rfl, _, slL (.inl h2)⟩, ?_⟩
  cases h5 with
  | nil => exact (show False from a1).elim
  | cons k1 k2 =>
    rename_i v vs d ds
    refine ⟨p, v :: vs, 0, 0, v, rfl, rfl, h2, by decide, by decide, ?_, rfl, ?_⟩
    · rw [PySem.seqIndex_of (by decide) (by simp)]; rfl
    · exact a1 _ G _ (Same.refl G) ((q.mut i h0 h1 h2 h3 h4 k2).setD j k1)
end
end DL
/-! sorted of ints, and of tuples whose parts are ints or tuples of ints -/
namespace DL
open PySem L2

/-! ### the order -/
inductive EK where
  | i (n : Int)
  | t (ns : List Int)
  deriving DecidableEq
def ltEK : EK → EK → Bool
  | .i m, .i n => decide (m < n)
  | .t a, .t b => lexLt a b
  | .i _, .t _ => true
  | .t _, .i _ => false
def lexK : List EK → List EK → Bool
  | [], [] => false
  | [], _ :: _ => true
  | _ :: _, [] => false
  | x :: xs, y :: ys => if x = y then lexK xs ys else ltEK x y
theorem lexLt_irr : ∀ a : List Int, lexLt a a = false
  | [] => rfl
  | x :: a => by rw [lexLt, if_pos rfl]; exact lexLt_irr a
theorem lexLt_asym : ∀ a b : List Int, lexLt a b = true → lexLt b a = false
  | [], [], h => by cases h
  | [], _ :: _, _ => rfl
  | _ :: _, [], h => by cases h
  | x :: a, y :: b, h => by
    rw [lexLt] at h ⊢
    by_cases e : x = y
    · rw [if_pos e] at h
      rw [if_pos e.symm]
      exact lexLt_asym a b h
    · rw [if_neg e] at h
      rw [if_neg (fun z => e z.symm)]
      have := of_decide_eq_true h
      exact decide_eq_false (by omega)
theorem lexLt_tri : ∀ a b : List Int, a ≠ b → lexLt a b = false → lexLt b a = true
  | [], [], h, _ => absurd rfl h
  | [], _ :: _, _, h => by cases h
  | _ :: _, [], _, _ => rfl
  | x :: a, y :: b, h, h2 => by
    rw [lexLt] at h2 ⊢
    by_cases e : x = y
    · rw [if_pos e] at h2
      rw [if_pos e.symm]
      exact lexLt_tri a b (fun z => h (by rw [e, z])) h2
    · rw [if_neg e] at h2
      rw [if_neg (fun z => e z.symm)]
      have := of_decide_eq_false h2
      exact decide_eq_true (by omega)
theorem lexLt_trans : ∀ a b c : List Int, lexLt a b = true → lexLt b c = true → lexLt a c = true
  | [], [], _, h, _ => by cases h
  | [], _ :: _, [], _, h => by cases h
  | [], _ :: _, _ :: _, _, _ => rfl
  | _ :: _, [], _, h, _ => by cases h
  | _ :: _, _ :: _, [], _, h => by cases h
  | x :: a, y :: b, z :: c, h1, h2 => by
    rw [lexLt] at h1 h2 ⊢
    by_cases e : x = y
    · rw [if_pos e] at h1
      subst e
      by_cases e2 : x = z
      · rw [if_pos e2] at h2 ⊢
        exact lexLt_trans a b c h1 h2
      · rw [if_neg e2] at h2 ⊢
        exact h2
    · rw [if_neg e] at h1
      by_cases e2 : y = z
      · subst e2
        rw [if_neg e]
        exact h1
      · rw [if_neg e2] at h2
        have a1 := of_decide_eq_true h1
        have a2 := of_decide_eq_true h2
        rw [if_neg (by omega)]
        exact decide_eq_true (by omega)
theorem ltEK_irr (x : EK) : ltEK x x = false := by
  cases x with
  | i n => exact decide_eq_false (Int.lt_irrefl n)
  | t a => exact lexLt_irr a
theorem ltEK_asym (x y : EK) (h : ltEK x y = true) : ltEK y x = false := by
  cases x <;> cases y
  · have := of_decide_eq_true h
    exact decide_eq_false (by omega)
  · rfl
  · cases h
  · exact lexLt_asym _ _ h
theorem ltEK_tri (x y : EK) (h : x ≠ y) (h2 : ltEK x y = false) : ltEK y x = true := by
  cases x with
  | i m =>
    cases y with
    | i n =>
      have := of_decide_eq_false h2
      exact decide_eq_true (by
        have : m ≠ n := fun z => h (by rw [z])
        omega)
    | t b => cases h2
  | t a =>
    cases y with
    | i n => rfl
    | t b => exact lexLt_tri a b (fun z => h (by rw [z])) h2
theorem ltEK_trans (x y z : EK) (h1 : ltEK x y = true) (h2 : ltEK y z = true) : ltEK x z = true := by
  cases x with
  | i m =>
    cases y with
    | i n =>
      cases z with
      | i k =>
        have a1 := of_decide_eq_true h1
        have a2 := of_decide_eq_true h2
        exact decide_eq_true (by omega)
      | t c => rfl
    | t b =>
      cases z with
      | i k => cases h2
      | t c => rfl
  | t a =>
    cases y with
    | i n => cases h1
    | t b =>
      cases z with
      | i k => cases h2
      | t c => exact lexLt_trans a b c h1 h2
theorem lexK_asym : ∀ a b : List EK, lexK a b = true → lexK b a = false
  | [], [], h => by cases h
  | [], _ :: _, _ => rfl
  | _ :: _, [], h => by cases h
  | x :: a, y :: b, h => by
    rw [lexK] at h ⊢
    by_cases e : x = y
    · rw [if_pos e] at h
      rw [if_pos e.symm]
      exact lexK_asym a b h
    · rw [if_neg e] at h
      rw [if_neg (fun z => e z.symm)]
      exact ltEK_asym x y h
theorem lexK_tri : ∀ a b : List EK, a ≠ b → lexK a b = false → lexK b a = true
  | [], [], h, _ => absurd rfl h
  | [], _ :: _, _, h => by cases h
  | _ :: _, [], _, _ => rfl
  | x :: a, y :: b, h, h2 => by
    rw [lexK] at h2 ⊢
    by_cases e : x = y
    · rw [if_pos e] at h2
      rw [if_pos e.symm]
      exact lexK_tri a b (fun z => h (by rw [e, z])) h2
    · rw [if_neg e] at h2
      rw [if_neg (fun z => e z.symm)]
      exact ltEK_tri x y e h2
theorem lexK_trans : ∀ a b c : List EK, lexK a b = true → lexK b c = true → lexK a c = true
  | [], [], _, h, _ => by cases h
  | [], _ :: _, [], _, h => by cases h
  | [], _ :: _, _ :: _, _, _ => rfl
  | _ :: _, [], _, h, _ => by cases h
  | _ :: _, _ :: _, [], _, h => by cases h
  | x :: a, y :: b, z :: c, h1, h2 => by
    rw [lexK] at h1 h2 ⊢
    by_cases e : x = y
    · rw [if_pos e] at h1
      subst e
      by_cases e2 : x = z
      · rw [if_pos e2] at h2 ⊢
        exact lexK_trans a b c h1 h2
      · rw [if_neg e2] at h2 ⊢
        exact h2
    · rw [if_neg e] at h1
      by_cases e2 : y = z
      · subst e2
        rw [if_neg e]
        exact h1
      · rw [if_neg e2] at h2
        have a3 := ltEK_trans x y z h1 h2
        rw [if_neg (fun q => by
          subst q
          rw [ltEK_asym _ _ h1] at h2
          cases h2)]
        exact a3
theorem swo_of {α : Type} (k : α → List EK) : SrtO.Swo (fun x y => lexK (k x) (k y)) where
  asym := fun x y h => lexK_asym _ _ h
  tr := fun x y z h1 h2 => by
    rcases SrtO.bcase (lexK (k z) (k x)) with h | h
    · by_cases e : k x = k y
      · rw [e] at h
        rw [h2] at h; cases h
      · have h3 := lexK_tri _ _ (fun q => e q.symm) h1
        have h4 := lexK_trans _ _ _ h h3
        rw [h2] at h4; cases h4
    · exact h
/-! ### sorting by insertion: the one sorted stable list -/
def insK {α : Type} (lt : α → α → Bool) (x : α) : List α → List α
  | [] => [x]
  | y :: ys => if lt y x = true then y :: insK lt x ys else x :: y :: ys
def isort {α : Type} (lt : α → α → Bool) : List α → List α
  | [] => []
  | x :: xs => insK lt x (isort lt xs)
section
variable {α : Type} {lt : α → α → Bool}
theorem insK_perm (x : α) : ∀ l : List α, (insK lt x l).Perm (x :: l)
  | [] => List.Perm.refl _
  | y :: ys => by
    unfold insK
    split
    · exact ((insK_perm x ys).cons y).trans (List.Perm.swap x y ys)
    · exact List.Perm.refl _
theorem insK_srtd (O : SrtO.Swo lt) (x : α) : ∀ l : List α, SrtO.Srtd lt l → SrtO.Srtd lt (insK lt x l)
  | [], _ => SrtO.srtd_one x
  | y :: ys, h => by
    unfold insK
    split
    · rename_i c
      refine List.pairwise_cons.mpr ⟨fun z hz => ?_, insK_srtd O x ys (List.pairwise_cons.mp h).2⟩
      rcases List.mem_cons.mp ((insK_perm x ys).mem_iff.mp hz) with e | hz
      · rw [e]; exact O.asym y x c
      · exact SrtO.srtd_head h z hz
    · rename_i c
      have c' : lt y x = false := by rcases SrtO.bcase (lt y x) with q | q; exact absurd q c; exact q
      exact List.pairwise_cons.mpr ⟨O.le_all h c', h⟩
theorem insK_cls (O : SrtO.Swo lt) (x z : α) : ∀ l : List α, (insK lt x l).filter (SrtO.eqv lt z) = (x :: l).filter (SrtO.eqv lt z)
  | [] => rfl
  | y :: ys => by
    unfold insK
    split
    · rename_i c
      rw [List.filter_cons, insK_cls O x z ys, List.filter_cons, List.filter_cons, List.filter_cons]
      cases e1 : SrtO.eqv lt z y with
      | false => simp
      | true =>
        cases e2 : SrtO.eqv lt z x with
        | false => simp
        | true =>
          obtain ⟨a1, a2⟩ := SrtO.eqv_iff.mp e1
          obtain ⟨b1, b2⟩ := SrtO.eqv_iff.mp e2
          have := O.tr x z y b1 a2
          rw [c] at this; cases this
    · rfl
theorem isort_perm : ∀ l : List α, (isort lt l).Perm l
  | [] => List.Perm.refl _
  | x :: l => (insK_perm x _).trans ((isort_perm l).cons x)
theorem isort_srtd (O : SrtO.Swo lt) : ∀ l : List α, SrtO.Srtd lt (isort lt l)
  | [] => List.Pairwise.nil
  | x :: l => insK_srtd O x _ (isort_srtd O l)
theorem isort_cls (O : SrtO.Swo lt) (z : α) : ∀ l : List α, (isort lt l).filter (SrtO.eqv lt z) = l.filter (SrtO.eqv lt z)
  | [] => rfl
  | x :: l => by
    show (insK lt x (isort lt l)).filter _ = _
    rw [insK_cls O, List.filter_cons, List.filter_cons, isort_cls O z l]
theorem isort_uniq (O : SrtO.Swo lt) {l m : List α} (h1 : SrtO.Srtd lt m) (h2 : SrtO.Stb lt m l) : m = isort lt l :=
  SrtO.stb_uniq O h1 (isort_srtd O l) ⟨h2.perm.trans (isort_perm l).symm, fun x => (h2.cls x).trans (isort_cls O x l).symm⟩
end
/-! ### the key of a datum -/
def elK : PyData → Option EK
  | .int n => some (.i n)
  | .tuple es => (intsOf es).map .t
  | _ => none
def elsK : List PyData → Option (List EK)
  | [] => some []
  | d :: ds => (elK d).bind fun k => (elsK ds).map (k :: ·)
def keyD : PyData → Option (List EK)
  | .tuple es => elsK es
  | _ => none
def keyT (d : PyData) : List EK := (keyD d).getD []
def sameE : EK → EK → Bool
  | .i _, .i _ => true
  | .t _, .t _ => true
  | _, _ => false
def agreeK : List EK → List EK → Bool
  | x :: xs, y :: ys => sameE x y && agreeK xs ys
  | _, _ => true
def ltT (d e : PyData) : Bool := lexK (keyT d) (keyT e)
def sortableT (ds : List PyData) : Bool := ds.all fun d => (keyD d).isSome && !(keyT d).isEmpty && ds.all fun e => agreeK (keyT d) (keyT e)
/-! ### the machine's side -/
section
open PyProof.Rows
def IsEK (h : Heap) (u : Value) : EK → Prop
  | .i n => ∃ t, u = .int n t
  | .t ns => ∃ a items, u = .ref a ∧ IsTup h a items ∧ IntsAre items.toList ns
def IsTK (h : Heap) (u : Value) (ks : List EK) : Prop := ∃ (a : Addr) (items : List Value), u = .ref a ∧ IsTup h a items.toArray ∧ Paired (IsEK h) items ks
theorem IsTup.keeps' {h h' : Heap} {a : Addr} {items : Array Value} (x : IsTup h a items) (k : ∀ b o, h.get? b = some o → o.cls = .type "tuple" → h'.get? b = some o) : IsTup h' a items := by
  obtain ⟨o, e, c, n, d⟩ := x
  exact ⟨o, k a o e c, c, n, d⟩
theorem IsEK.keeps {h h' : Heap} {u : Value} {k : EK} (x : IsEK h u k) (kk : ∀ b o, h.get? b = some o → o.cls = .type "tuple" → h'.get? b = some o) : IsEK h' u k := by
  cases k with
  | i n => exact x
  | t ns =>
    obtain ⟨a, items, e, t, i⟩ := x
    exact ⟨a, items, e, IsTup.keeps' t kk, i⟩
theorem IsTK.keeps {h h' : Heap} {u : Value} {ks : List EK} (x : IsTK h u ks) (kk : ∀ b o, h.get? b = some o → o.cls = .type "tuple" → h'.get? b = some o) : IsTK h' u ks := by
  obtain ⟨a, items, e, t, i⟩ := x
  exact ⟨a, items, e, IsTup.keeps' t kk, L2.Paired.mapP i fun _ _ z => z.keeps kk⟩
theorem reads_ints {h : Heap} : ∀ {us : List Value} {ns : List Int}, IntsAre us ns → ∃ as, ReadsAll h us (ns.map PyData.int) as
  | _, _, .nil => ⟨_, .nil⟩
  | _, _, .cons n t r => by
    obtain ⟨as, q⟩ := reads_ints (h := h) r
    exact ⟨_, .cons (.int n t) q⟩
theorem canLay_ints : ∀ ns : List Int, PyData.canLayAll0 (ns.map PyData.int) = true
  | [] => by simp [PyData.canLayAll0]
  | n :: ns => by simp [PyData.canLayAll0, PyData.canLay0, canLay_ints ns]
theorem depth_ints : ∀ ns : List Int, PyData.depthAll (ns.map PyData.int) = 0
  | [] => by simp [PyData.depthAll]
  | n :: ns => by simp [PyData.depthAll, PyData.depth, depth_ints ns]
theorem eqv_ints : ∀ ns ms : List Int, PyData.eqvAll (ns.map PyData.int) (ms.map PyData.int) = decide (ns = ms)
  | [], [] => by simp [PyData.eqvAll]
  | [], _ :: _ => by simp [PyData.eqvAll]
  | _ :: _, [] => by simp [PyData.eqvAll]
  | n :: ns, m :: ms => by
    simp only [List.map_cons, PyData.eqvAll, PyData.eqv, eqv_ints ns ms]
    by_cases h : n = m
    · subst h
      by_cases h2 : ns = ms
      · subst h2; simp
      · simp [h2]
    · simp [h]
variable {prog : Program} {w : World} {A : Around} {E : Value → Shared → Prop} {s : Shared}
theorem ek_eq {u v : Value} {x y : EK} (hx : IsEK s.heap u x) (hy : IsEK s.heap v y) (hs : sameE x y = true) (hu : A.units + 2 < cLine) : SeqAt.EqAt A s u v (decide (x = y)) := by
  cases x with
  | i m =>
    cases y with
    | i n =>
      obtain ⟨t, rfl⟩ := hx
      obtain ⟨t', rfl⟩ := hy
      have e : decide (EK.i m = EK.i n) = (m == n) := by
        by_cases q : m = n
        · subst q; simp
        · have q2 : ¬ EK.i m = EK.i n := fun z => q (EK.i.inj z)
          rw [decide_eq_false q2]
          exact (beq_eq_false_iff_ne.mpr q).symm
      rw [e]
      exact SeqAt.EqAt.int_int _ _ _ _
    | t b => cases hs
  | t a =>
    cases y with
    | i n => cases hs
    | t b =>
      obtain ⟨p, its, rfl, ⟨o, h1, h2, n, h3⟩, i1⟩ := hx
      obtain ⟨q, its', rfl, ⟨o', h1', h2', n', h3'⟩, i2⟩ := hy
      obtain ⟨as, r1⟩ := reads_ints (h := s.heap) i1
      obtain ⟨bs, r2⟩ := reads_ints (h := s.heap) i2
      have z := SeqAt.eqAt_reads (.tuple (a.map PyData.int)) (.tuple (b.map PyData.int)) A s _ _ _ _ (.tuple h1 h2 h3 r1) (.tuple h1' h2' h3' r2) (by simp only [PyData.canLay0]; exact canLay_ints a) (by simp only [PyData.canLay0]; exact canLay_ints b) (by
        simp only [PyData.depth, depth_ints]
        omega)
      have e : decide (EK.t a = EK.t b) = PyData.eqv (.tuple (a.map PyData.int)) (.tuple (b.map PyData.int)) := by
        simp only [PyData.eqv, eqv_ints]
        by_cases q : a = b
        · subst q; simp
        · have q2 : ¬ EK.t a = EK.t b := fun z => q (EK.t.inj z)
          rw [decide_eq_false q2, decide_eq_false q]
      rw [e]
      exact z
theorem ek_lt {c : Bool} {u v : Value} {x y : EK} {Q : Bool → Shared → Prop} (hx : IsEK s.heap u x) (hy : IsEK s.heap v y) (hs : sameE x y = true) (hc : c = true → ∃ n, x = .i n) (hu : A.units < cLine) (h : Q (ltEK x y) s) : wpAny (model prog w) A (oneLt' c u v) Q E s := by
  cases x with
  | i m =>
    cases y with
    | i n =>
      obtain ⟨t, rfl⟩ := hx
      obtain ⟨t', rfl⟩ := hy
      exact TS.oneLt_ints c h
    | t b => cases hs
  | t a =>
    cases y with
    | i n => cases hs
    | t b =>
      obtain ⟨p, its, rfl, t1, i1⟩ := hx
      obtain ⟨q, its', rfl, t2, i2⟩ := hy
      cases c with
      | true =>
        obtain ⟨n, z⟩ := hc rfl
        cases z
      | false => exact PySem.W.kat_one _ _ (HT.lt_tupInts t1 t2 i1 i2 hu (show PySem.W.BoolBack Q (.bool (HT.lexLt a b)) s by rw [lexLt_eq]; exact h))
theorem kat_all {b fin : Bool} {Q : Bool → Shared → Prop} (hu : A.units + 2 < cLine) : ∀ (us vs : List Value) (xs ys : List EK) (i : Nat), Paired (IsEK s.heap) us xs → Paired (IsEK s.heap) vs ys → agreeK xs ys = true → (b = true → i = 0 → ∀ x ∈ xs.head?, ∃ n, x = .i n) →
    fin = decide (us.length < vs.length) → Q (lexK xs ys) s → PySem.W.KatLex prog w A b fin Q (us.zip vs) i s
  | [], [], _, _, _, .nil, .nil, _, _, hf, h => by
    rw [hf]
    exact h
  | [], _ :: _, _, _, _, .nil, .cons _ _, _, _, hf, h => by
    rw [hf]
    exact h
  | _ :: _, [], _, _, _, .cons _ _, .nil, _, _, hf, h => by
    rw [hf]
    exact h
  | u :: us, v :: vs, x :: xs, y :: ys, i, .cons a1 a2, .cons b1 b2, hg, hb, hf, h => by
    obtain ⟨g1, g2⟩ := Bool.and_eq_true_iff.mp (show (sameE x y && agreeK xs ys) = true from hg)
    show PySem.W.KatLex prog w A b fin Q ((u, v) :: us.zip vs) i s
    refine PySem.W.kat_cons (ek_eq a1 b1 g1 hu prog w _ _ ?_)
    refine PySem.W.kat_go (fun e1 => ?_) (fun e1 => ?_)
    · have e : x = y := of_decide_eq_true e1
      refine PySem.W.kat_yes (kat_all hu us vs xs ys (i + 1) a2 b2 g2 (fun _ z => by omega) (by rw [hf]; simp) ?_)
      rw [lexK, if_pos e] at h
      exact h
    · have e : x ≠ y := of_decide_eq_false e1
      refine PySem.W.kat_no (ek_lt a1 b1 g1 (fun c => ?_) (by omega) ?_)
      · obtain ⟨c1, c2⟩ := Bool.and_eq_true_iff.mp c
        exact hb c1 (eq_of_beq c2) x (by simp)
      · rw [lexK, if_neg e] at h
        exact h
/-- the first parts -/
theorem firsts_K {h : Heap} : ∀ {vs : List Value} {k : Value → List EK}, (∀ v ∈ vs, IsTK h v (k v) ∧ k v ≠ []) → ∃ fs : List Value, PySem.W.KatTups h vs fs ∧ fs.length = vs.length ∧ ∀ f ∈ fs, ∃ v ∈ vs, ∃ x, (k v).head? = some x ∧ IsEK h f x
  | [], _, _ => ⟨[], PySem.W.KatTups.nil, rfl, fun _ hm => by simp at hm⟩
  | v :: vs, k, hp => by
    obtain ⟨fs, h1, h2, h3⟩ := firsts_K (vs := vs) (k := k) fun v' hm => hp v' (List.mem_cons_of_mem _ hm)
    obtain ⟨⟨a, items, rfl, ⟨o, ho, hc, n, hd⟩, hi⟩, hne⟩ := hp v List.mem_cons_self
    generalize hk : k (.ref a) = ks at hi hne
    cases hi with
    | nil => exact absurd rfl hne
    | cons r t =>
      rename_i f x items ks
      refine ⟨f :: fs, PySem.W.KatTups.cons ho hc hd rfl h1, by rw [List.length_cons, List.length_cons, h2], fun g hm => ?_⟩
      rcases List.mem_cons.mp hm with rfl | hm
      · exact ⟨.ref a, List.mem_cons_self, x, by rw [hk]; rfl, r⟩
      · obtain ⟨v, hv, z⟩ := h3 g hm
        exact ⟨v, List.mem_cons_of_mem _ hv, z⟩
theorem tk_cmp {vs : List Value} {k : Value → List EK} {b : Bool} (hu : A.units + 2 < cLine) (hp : ∀ v ∈ vs, IsTK s.heap v (k v) ∧ k v ≠ []) (hg : ∀ v ∈ vs, ∀ u ∈ vs, agreeK (k v) (k u) = true) (hb : b = true → ∀ v ∈ vs, ∀ x ∈ (k v).head?, ∃ n, x = .i n) :
    SrtO.Cmp prog w A s (PyProof.Rows.tuples' b) (fun p => p.1 ∈ vs) (SrtO.lt2 fun v u => lexK (k v) (k u)) := by
  intro p q hm hm'
  obtain ⟨⟨a, items, e, ⟨o, ho, hc, n, hd⟩, hi⟩, _⟩ := hp _ hm
  obtain ⟨⟨a', items', e', ⟨o', ho', hc', n', hd'⟩, hi'⟩, _⟩ := hp _ hm'
  show wpAny (model prog w) A (PyProof.Rows.keyLt' (PyProof.Rows.tuples' b) p.1 q.1) (fun r s' => s' = s ∧ r = lexK (k p.1) (k q.1)) (fun _ _ => False) s
  have g := hg _ hm _ hm'
  have hb1 := fun c => hb c _ hm
  generalize k p.1 = kp at hi g hb1 ⊢
  generalize k q.1 = kq at hi' g ⊢
  rw [e, e']
  refine PySem.W.kat_lt ho hd ho' hd' ?_
  exact kat_all hu items items' kp kq 0 hi hi' g (fun c _ => hb1 c) (by simp) ⟨rfl, rfl⟩
theorem looks_ek {M : Model} {h : Heap} {f : Value} {x : EK} (hx : IsEK h f x) : PySem.W.Looks M h (typeOf f) (match x with | .i _ => .type "int" | .t _ => .type "tuple") := by
  cases x with
  | i n =>
    obtain ⟨t, rfl⟩ := hx
    exact PySem.W.Looks.now
  | t ns =>
    obtain ⟨a, items, rfl, ⟨o, ho, hc, n, hd⟩, _⟩ := hx
    have z : PySem.W.Looks M h (typeOf (.ref a)) o.cls := (PySem.W.Looks.ld ho).andThen .now
    rw [hc] at z
    exact z
theorem tk_sortable {a : Addr} {vs : List Value} {k : Value → List EK} (h0 : 0 < vs.length) (hu : A.units + 2 < cLine) (hp : ∀ v ∈ vs, IsTK s.heap v (k v) ∧ k v ≠ []) (hg : ∀ v ∈ vs, ∀ u ∈ vs, agreeK (k v) (k u) = true) (ha : ∀ o, s.heap.get? a = some o → o.cls ≠ .type "tuple") :
    SrtO.SortableO prog w A s a vs fun v u => lexK (k v) (k u) := by
  intro h' keep
  have hp' : ∀ v ∈ vs, IsTK h' v (k v) ∧ k v ≠ [] := fun v hm => ⟨(hp v hm).1.keeps fun b o e c => keep b o (fun z => by subst z; exact ha o e c) e, (hp v hm).2⟩
  obtain ⟨fs, h1, h2, h3⟩ := firsts_K hp'
  obtain ⟨v0, hv0⟩ : ∃ v, v ∈ vs := by
    cases vs with
    | nil => exact absurd h0 (by simp)
    | cons v _ => exact ⟨v, List.mem_cons_self⟩
  obtain ⟨x0, hx0⟩ : ∃ x, (k v0).head? = some x := by
    cases e : k v0 with
    | nil => exact absurd e (hp' v0 hv0).2
    | cons x _ => exact ⟨x, rfl⟩
  have same : ∀ v ∈ vs, ∀ x, (k v).head? = some x → sameE x x0 = true := fun v hv x hx => by
    have g := hg v hv v0 hv0
    cases e1 : k v with
    | nil => rw [e1] at hx; cases hx
    | cons y ys =>
      cases e2 : k v0 with
      | nil => rw [e2] at hx0; cases hx0
      | cons z zs =>
        rw [e1, e2] at g
        have g1 := (Bool.and_eq_true_iff.mp (show (sameE y z && agreeK ys zs) = true from g)).1
        have q1 : y = x := by rw [e1] at hx; exact Option.some.inj hx
        have q2 : z = x0 := by rw [e2] at hx0; exact Option.some.inj hx0
        rw [q1, q2] at g1
        exact g1
  cases x0 with
  | i n =>
    refine ⟨PyProof.Rows.tuples' true, fun Q E hq => ?_, tk_cmp hu hp' hg fun _ v hv x hx => ?_⟩
    · refine PySem.W.kat_kind (T := .type "int") h1 (by omega) (fun f hm => ?_) (by rfl) ?_
      · obtain ⟨v, hv, x, hx, hf⟩ := h3 f hm
        have sm := same v hv x hx
        cases x with
        | i m => exact looks_ek hf
        | t _ => cases sm
      · have e : (Value.type "int" != Value.type "tuple") = true := by first | decide +kernel | rfl | decide
        rw [e]
        exact hq
    · have sm := same v hv x (by simpa using hx)
      cases x with
      | i m => exact ⟨m, rfl⟩
      | t _ => cases sm
  | t ns =>
    refine ⟨PyProof.Rows.tuples' false, fun Q E hq => ?_, tk_cmp hu hp' hg fun c => absurd c Bool.false_ne_true⟩
    refine PySem.W.kat_kind (T := .type "tuple") h1 (by omega) (fun f hm => ?_) (by rfl) ?_
    · obtain ⟨v, hv, x, hx, hf⟩ := h3 f hm
      have sm := same v hv x hx
      cases x with
      | i m => cases sm
      | t _ => exact looks_ek hf
    · have e : (Value.type "tuple" != Value.type "tuple") = false := by first | decide +kernel | rfl | decide
      rw [e]
      exact hq
end
/-- the parts of a tuple by the abstract heap -/
def IsEV (H : Hp) (x : V) : EK → Prop
  | .i n => x = .int n
  | .t ns => ∃ a, x = .ref a ∧ Rd H a (.tup (ns.map V.int))
def rSortedT (K : PySem.W.Frag) : List V → Hp → VK → Prop := fun vs H Q => ∃ (a : Addr) (xs : List V) (k : V → List EK), vs = [V.ref a] ∧ SqL K H a xs ∧ (∀ x ∈ xs, (∃ t ys, x = V.ref t ∧ Rd H t (.tup ys) ∧ Paired (IsEV H) ys (k x)) ∧ k x ≠ []) ∧ (∀ x ∈ xs, ∀ y ∈ xs, agreeK (k x) (k y) = true) ∧
  ∀ ys p, SrtO.Srtd (fun x y => lexK (k x) (k y)) ys → SrtO.Stb (fun x y => lexK (k x) (k y)) ys xs → H p = none → Q (.ref p) (upd H p (.lst ys))
section
variable {X : Cx}
theorem ev_ek {pins : List (Addr × Obj)} {σ : L2.St} {H : Hp} {s : Shared} (I : L2.Inv X pins σ H s) {x : V} {u : Value} {k : EK} (h : IsEV H x k) (r : RelV x u) : IsEK s.heap u k := by
  cases k with
  | i n =>
    cases h
    exact r
  | t ns =>
    obtain ⟨a, rfl, h2⟩ := h
    cases r
    obtain ⟨its, rv, tp, _⟩ := I.tuple (slT (K := X.K) h2)
    exact ⟨a, its.toArray, rfl, tp, by simpa using Vals.ints rv⟩
theorem evs_eks {pins : List (Addr × Obj)} {σ : L2.St} {H : Hp} {s : Shared} (I : L2.Inv X pins σ H s) : ∀ {xs : List V} {us : List Value} {ks : List EK}, Paired (IsEV H) xs ks → Vals xs us → Paired (IsEK s.heap) us ks
  | _, _, _, .nil, .nil => .nil
  | _, _, _, .cons h t, .cons r q => .cons (ev_ek I h r) (evs_eks I t q)
theorem cr_sortedT (hu : X.A.units + 64 < cLine) : CallR X (.builtin "sorted") (rSortedT X.K) := by
  intro pins s σ H vs us Q I r h
  obtain ⟨a, xs, k, rfl, hs, hx, hg, q⟩ := h
  obtain ⟨its, rv, hl, hz⟩ := I.list hs
  obtain ⟨u, rfl, ru⟩ := vals1 r
  obtain rfl : u = Value.ref a := ru
  obtain ⟨e1, e2⟩ := refs_back rv fun x m => by
    obtain ⟨⟨t, ys, e, _⟩, _⟩ := hx x m
    exact ⟨t, e⟩
  have memV : ∀ v ∈ its, backV v ∈ xs := fun v hv => by rw [e1]; exact List.mem_map.mpr ⟨v, hv, rfl⟩
  have tk : ∀ v ∈ its, IsTK s.heap v (k (backV v)) ∧ k (backV v) ≠ [] := fun v hv => by
    obtain ⟨t, rfl⟩ := e2 v hv
    obtain ⟨⟨t', ys, e, h1, h2⟩, h3⟩ := hx _ (memV _ hv)
    have e' : t = t' := V.ref.inj e
    subst e'
    obtain ⟨its2, r2, tp, _⟩ := I.tuple (slT (K := X.K) h1)
    exact ⟨⟨t, its2, rfl, tp, evs_eks I h2 r2⟩, h3⟩
  have O : SrtO.Swo (fun v u : Value => lexK (k (backV v)) (k (backV u))) := swo_of fun v => k (backV v)
  have units2 : ∀ {A : Around}, A.in1.in1.units = A.units + 2 := fun {A} => rfl
  refine SrtO.sorted_ord O hl.isList (by rw [← rv.length]; exact hz) (fun h2 h₁ a' ha' kk => ?_) fun out hs1 hb1 => ?_
  · refine tk_sortable (s := { s with heap := h₁ }) (by omega) (by rw [units2]; omega) (fun v hv => ⟨(tk v hv).1.keeps fun b o e _ => (kk b o e).2, (tk v hv).2⟩) (fun v hv u hu => hg _ (memV v hv) _ (memV u hu)) fun o e => ?_
    have e' : some o = some (PyProof.Rows.seqObj "list" its.toArray 0) := e.symm.trans ha'
    cases e'
    intro c
    exact absurd (Value.type.inj c) (by decide)
  · have h3 : ∀ u ∈ out, ∃ a, u = Value.ref a := fun u hu => e2 u (hb1.perm.mem_iff.mp hu)
    obtain ⟨n, hn⟩ := PyProof.Rows.sortedAll_at s.heap its out.toArray
    have O2 : SrtO.Swo (fun x y : V => lexK (k x) (k y)) := swo_of k
    have hb : SrtO.Stb (fun x y : V => lexK (k x) (k y)) (out.map backV) xs := by
      rw [e1]
      exact SrtO.Stb.map O2 backV hb1
    refine ⟨.ref _, upd H _ (.lst (out.map backV)), I.laid (t' := s.toks) (fun b o e => PyProof.Rows.sortedAll_old e) (Nat.le_succ _) ⟨?_, out, n, vals_back h3, hn⟩, rfl, q _ _ (SrtO.srtd_map hs1) hb (I.hok.fresh (Nat.le_succ _))⟩
    rw [hb.len]
    exact hz
end
end DL
namespace DL
open PySem L2
/-! ### sorted, by data -/
def ltI (a b : Int) : Bool := decide (a < b)
theorem swo_ltI : SrtO.Swo ltI := ⟨fun x y h => decide_eq_false (by have := of_decide_eq_true h; omega), fun x y z h1 h2 => decide_eq_false (by
  have a := of_decide_eq_false h1
  have b := of_decide_eq_false h2
  omega)⟩
theorem isortI_le (l : List Int) : (isort ltI l).Pairwise (· ≤ ·) := (isort_srtd swo_ltI l).imp fun {x y} h => by
  have := of_decide_eq_false h
  omega
def sortD : PyData → R PyData
  | .list ds => match intsOf ds with
    | some ns => .ok (.list ((isort ltI ns).map PyData.int))
    | none => if sortableT ds = true then .ok (.list (isort ltT ds)) else .bad
  | _ => .bad
/-- the datum behind a value -/
noncomputable def dataOf (G : Hp) (v : V) : PyData := by
  classical
  exact if h : ∃ d, De G v d then h.choose else .none
theorem rd_inj {G : Hp} {a : Addr} {o u : HO} (h1 : Rd G a o) (h2 : Rd G a u) (n1 : ∀ x y, o ≠ .frz x y) (n2 : ∀ x y, u ≠ .frz x y) : o = u := by
  rcases h1 with h1 | ⟨x, h1⟩ <;> rcases h2 with h2 | ⟨y, h2⟩ <;> rw [h1] at h2 <;> cases h2
  · rfl
  · exact absurd rfl (n1 _ _)
  · exact absurd rfl (n2 _ _)
  · rfl
mutual
theorem De.inj {G : Hp} : ∀ {d e : PyData} {v : V}, De G v d → De G v e → d = e
  | _, _, _, .non, h => by cases h; rfl
  | _, _, _, .bl b, h => by cases h; rfl
  | _, _, _, .int b, h => by cases h; rfl
  | _, _, _, .str b, h => by cases h; rfl
  | _, _, _, .lst h1 h2, h => by
    cases h with
    | lst k1 k2 =>
      have e := rd_inj h1 k1 (fun _ _ z => nomatch z) (fun _ _ z => nomatch z)
      cases e
      rw [DeAll.inj h2 k2]
    | tup k1 k2 =>
      have e := rd_inj h1 (.inl k1) (fun _ _ z => nomatch z) (fun _ _ z => nomatch z)
      cases e
  | _, _, _, .tup h1 h2, h => by
    cases h with
    | tup k1 k2 =>
      have e := rd_inj (.inl h1) (.inl k1) (fun _ _ z => nomatch z) (fun _ _ z => nomatch z)
      cases e
      rw [DeAll.inj h2 k2]
    | lst k1 k2 =>
      have e := rd_inj (.inl h1) k1 (fun _ _ z => nomatch z) (fun _ _ z => nomatch z)
      cases e
theorem DeAll.inj {G : Hp} : ∀ {ds es : List PyData} {vs : List V}, DeAll G vs ds → DeAll G vs es → ds = es
  | _, _, _, .nil, h => by cases h; rfl
  | _, _, _, .cons h1 h2, h => by
    cases h with
    | cons k1 k2 => rw [De.inj h1 k1, DeAll.inj h2 k2]
end
theorem dataOf_eq {G : Hp} {v : V} {d : PyData} (h : De G v d) : dataOf G v = d := by
  unfold dataOf
  have ex : ∃ d, De G v d := ⟨d, h⟩
  rw [dif_pos ex]
  exact De.inj ex.choose_spec h
theorem dataOf_map {G : Hp} : ∀ {vs : List V} {ds : List PyData}, DeAll G vs ds → vs.map (dataOf G) = ds
  | _, _, .nil => rfl
  | _, _, .cons h t => by rw [List.map_cons, dataOf_eq h, dataOf_map t]
theorem deAll_dataOf {G : Hp} : ∀ {vs : List V}, (∀ v ∈ vs, ∃ d, De G v d) → DeAll G vs (vs.map (dataOf G))
  | [], _ => .nil
  | v :: vs, h => by
    obtain ⟨d, hd⟩ := h v List.mem_cons_self
    rw [List.map_cons, dataOf_eq hd]
    exact .cons hd (deAll_dataOf fun u hu => h u (List.mem_cons_of_mem _ hu))
theorem DeAll.mem {G : Hp} : ∀ {vs : List V} {ds : List PyData}, DeAll G vs ds → ∀ v ∈ vs, ∃ d ∈ ds, De G v d
  | _, _, .nil, _, h => by simp at h
  | _, _, .cons a t, v, h => by
    rcases List.mem_cons.mp h with rfl | h
    · exact ⟨_, List.mem_cons_self, a⟩
    · obtain ⟨d, h1, h2⟩ := t.mem v h
      exact ⟨d, List.mem_cons_of_mem _ h1, h2⟩
theorem els_ev {G H : Hp} (s : Same G H) : ∀ {vs : List V} {es : List PyData} {ks : List EK}, DeAll G vs es → elsK es = some ks → Paired (IsEV H) vs ks
  | _, _, _, .nil, e => by cases e; exact .nil
  | _, _, _, .cons h t, e => by
    rename_i v vs d ds
    have e' : (elK d).bind (fun k => (elsK ds).map (k :: ·)) = some _ := e
    cases e1 : elK d with
    | none => rw [e1] at e'; cases e'
    | some k =>
      rw [e1] at e'
      cases e2 : elsK ds with
      | none => rw [e2] at e'; cases e'
      | some ks =>
        rw [e2] at e'
        cases e'
        refine .cons ?_ (els_ev s t e2)
        cases d with
        | int n =>
          cases e1
          cases h
          rfl
        | tuple es =>
          cases h with
          | tup h1 h2 =>
            cases e3 : intsOf es with
            | none => simp [elK, e3] at e1
            | some ns =>
              simp [elK, e3] at e1
              subst e1
              have z := DeAll.ints h2 e3
              subst z
              exact ⟨_, rfl, rdm s (.inl h1)⟩
        | _ => cases e1
def rSortedA (K : PySem.W.Frag) : List V → Hp → VK → Prop := fun vs H Q => rSortedI K vs H Q ∨ rSortedT K vs H Q
theorem u1_sorted {K : PySem.W.Frag} : Un1 pO (rSortedA K) sortD := by
  intro W σ G H x d s hx
  cases d with
  | list ds =>
    obtain ⟨a, vs, rfl, h1, h2⟩ := hx.lst s
    show Sd pO W _ σ G H (match intsOf ds with | some ns => .ok (.list ((isort ltI ns).map PyData.int)) | none => if sortableT ds = true then .ok (.list (isort ltT ds)) else .bad)
    split
    · rename_i ns e
      have z := DeAll.ints h2 e
      subst z
      intro Q q
      refine .inl ⟨a, ns, rfl, slL h1, fun ns' p hp hle hnew => ?_⟩
      have e2 : ns' = isort ltI ns := PySem.W.ksm_same (hp.trans (isort_perm ns).symm) hle (isortI_le ns)
      subst e2
      have dd : ∀ l : List Int, DeAll G (l.map V.int) (l.map PyData.int) := fun l => by
        induction l with
        | nil => exact .nil
        | cons n l ih => exact .cons (.int n) ih
      exact q _ G _ (Ext.fresh s hnew) ⟨p, _, _, rfl, rfl, hnew, s.free hnew, upd_same, dd _⟩
    · split
      · rename_i hs
        have al := List.all_eq_true.mp hs
        have part : ∀ v ∈ vs, ∃ es us, De G v (.tuple es) ∧ (∃ t, v = .ref t ∧ Rd G t (.tup us)) ∧ DeAll G us es ∧ (∃ ks, elsK es = some ks ∧ keyT (.tuple es) = ks) ∧ keyT (.tuple es) ≠ [] ∧ (.tuple es) ∈ ds := fun v hv => by
          obtain ⟨d, hd, hde⟩ := h2.mem v hv
          have z := al d hd
          simp only [Bool.and_eq_true] at z
          obtain ⟨⟨z1, z2⟩, _⟩ := z
          cases d with
          | tuple es =>
            cases hde with
            | tup k1 k2 =>
              rename_i t us
              refine ⟨es, us, .tup k1 k2, ⟨t, rfl, .inl k1⟩, k2, ?_, ?_, hd⟩
              · cases e : elsK es with
                | none => simp [keyD, e] at z1
                | some ks => exact ⟨ks, rfl, by simp [keyT, keyD, e]⟩
              · intro e
                rw [e] at z2
                cases z2
          | _ => simp [keyD] at z1
        intro Q q
        refine .inr ⟨a, vs, fun v => keyT (dataOf G v), rfl, slL h1, fun v hv => ?_, fun v hv u hu => ?_, fun ys p hsr hst hnew => ?_⟩
        · obtain ⟨es, us, k1, ⟨t, k2, k3⟩, k4, ⟨ks, k5, k6⟩, k7, _⟩ := part v hv
          show (∃ t ys, v = V.ref t ∧ Rd H t (.tup ys) ∧ Paired (IsEV H) ys (keyT (dataOf G v))) ∧ keyT (dataOf G v) ≠ []
          rw [dataOf_eq k1]
          exact ⟨⟨t, us, k2, rdm s k3, by rw [k6]; exact els_ev s k4 k5⟩, k7⟩
        · obtain ⟨es, us, k1, _, _, _, _, k8⟩ := part v hv
          obtain ⟨es', us', k1', _, _, _, _, k8'⟩ := part u hu
          show agreeK (keyT (dataOf G v)) (keyT (dataOf G u)) = true
          rw [dataOf_eq k1, dataOf_eq k1']
          have z := al _ k8
          simp only [Bool.and_eq_true] at z
          exact List.all_eq_true.mp z.2 _ k8'
        · have O : SrtO.Swo ltT := swo_of keyT
          have e1 : ys.map (dataOf G) = isort ltT ds := by
            rw [← dataOf_map h2]
            exact isort_uniq O (SrtO.srtd_map hsr) (SrtO.Stb.map O (dataOf G) hst)
          refine q _ G _ (Ext.fresh s hnew) ⟨p, ys, _, rfl, rfl, hnew, s.free hnew, upd_same, ?_⟩
          rw [← e1]
          exact deAll_dataOf fun v hv => by
            obtain ⟨es, us, k1, _⟩ := part v (hst.perm.mem_iff.mp hv)
            exact ⟨_, k1⟩
      · trivial
  | _ => trivial
section
variable {X : Cx} {W : WN} {a : Expr} {ta : TE} {fa : En → R PyData} {pos p : Pos}
theorem cr_sortedA (hu : X.A.units + 64 < cLine) : CallR X (.builtin "sorted") (rSortedA X.K) := cr_sortedI.or (cr_sortedT hu)
theorem vo_sorted (hu : X.A.units + 64 < cLine) (hg : Gl X "sorted") (hm : X.mg "sorted" = none) (ha : VB X W a ta fa) (hs : starEach [a] X.env = (false, eval a X.env) :: starEach [] X.env := by rfl) (hpl : (backTo pos (starEach [] X.env)).any (·.1) = false := by rfl) :
    VO X W (.Call (.Name "sorted" p) [a] [] pos) (tCB (rSortedA X.K) (tCons ta tNil)) (fun ro => (fa ro).bind sortD) := vx_cb1 mO (cr_sortedA hu) u1_sorted PyProof.Rows.boot_sorted hg hm ha (by decide) (by decide) hs hpl
end
end DL
namespace DL
open PySem L2
/-! ### short words for the functions -/
def cA (F : List PyData → R PyData) (fs : En → R (List PyData)) : En → R PyData := fun r => (fs r).bind F
def cNot (f : En → R PyData) : En → R PyData := fun r => notV (f r)
def cAnd (f g : En → R PyData) : En → R PyData := fun r => andV (f r) (g r)
def cOr (f g : En → R PyData) : En → R PyData := fun r => orV (f r) (g r)
def cIf (c : En → R Bool) (f g : En → R PyData) : En → R PyData := fun r => ifV (c r) (f r) (g r)
def cTup (fs : En → R (List PyData)) : En → R PyData := fun r => (fs r).bind tupR
def cLst (fs : En → R (List PyData)) : En → R PyData := fun r => (fs r).bind lstR
def pNone : En → R (Option Int) := fun _ => .ok none
def pSome (f : En → R PyData) : En → R (Option Int) := fun r => (f r).bind intD
def wAnd (f g : En → R Bool) : En → R Bool := fun r => andR (f r) (g r)
def wOr (f g : En → R Bool) : En → R Bool := fun r => orR (f r) (g r)
def wNot (f : En → R Bool) : En → R Bool := fun r => notR (f r)
def wTru (f : En → R PyData) : En → R Bool := fun r => (f r).bind truD
def wCmp (f : En → R PyData) : En → R Bool := fun r => (f r).bind boolD
def wYes : En → R Bool := fun _ => .ok true
def iA (g : List PyData → R (List PyData)) (fs : En → R (List PyData)) : En → R (List PyData) := fun r => (fs r).bind g
def iS (g : PyData → R (List PyData)) (f : En → R PyData) : En → R (List PyData) := fun r => (f r).bind g
def sNil : En → O := .nx
def sBad : En → O := fun _ => .bad
def sSeq (f g : En → O) : En → O := fun r => (f r).seq g
def sRet (f : En → R PyData) : En → O := fun r => (f r).toO r .rt
def sExpr (f : En → R PyData) : En → O := fun r => (f r).toO r fun _ => .nx r
def sSet (i : Nat) (f : En → R PyData) : En → O := fun r => (f r).toO r fun d => .nx (r.set i (.dat d))
def sSetO (i : Nat) (f : En → R PyData) : En → O := fun r => (f r).toO r (ownO i r)
def sIf (c : En → R Bool) (f g : En → O) : En → O := fun r => (c r).toO r fun k => if k then f r else g r
def sFor (fi : En → R (List PyData)) (ft : PyData → En → Option En) (fb : En → O) : En → O := fun r => (fi r).toO r fun items => forL ft fb items r
def sFz (i : Nat) (f : En → O) : En → O := fun r => f (fzE i r)
/-- frozen behind the statement -/
def sFzb (i : Nat) (f : En → O) : En → O := fun r => (f r).seq fun r' => .nx (fzE i r')
def sAsg (f : En → R PyData) (g : PyData → En → Option En) : En → O := fun r => (f r).toO r (asgO g r)
def sSetItem (i : Nat) (fe fi : En → R PyData) : En → O := fun r => ownAt i r fun ds => (fe r).toO r fun d => (fi r).toO r fun ix => setC i r ds d ix
def sAugItem (f : Int → Int → Int) (i : Nat) (fi : En → R PyData) (c : Int) : En → O := fun r => ownAt i r fun ds => (fi r).toO r fun ix => augC f i r ds ix (.int c)
def sAug (f : Int → Int → Int) (i : Nat) (fe : En → R PyData) : En → O := fun r => datI i r ((fe r).toO r (augN f i r))
def sRaise (c : Str) : En → O := fun r => .exc c none r
section
variable {X : Cx} {W : WN} {a b c e : Expr} {ta tb tc te : TE} {fa fb fc fe : En → R PyData} {pos p p2 : Pos} {es : List Expr} {t : TA} {st : Stmt} {sts : List Stmt} {ts us : TS} {fs gs : En → O}
theorem ve_globI {x : Str} {i : Int} {tk : Tok} (hg : Gl X x) (hm : X.mg x = some (.int i tk)) (hd : (x == ("__debug__" : Str)) = false := by decide) : VE X W (.Name x pos) (tC (.int i)) (kR (.int i)) := ve_c (pe_glob hg hm ⟨_, rfl⟩ hd) fun _ => .int i
theorem ve_globS {x z : Str} {tk : Tok} (hg : Gl X x) (hm : X.mg x = some (.str z tk)) (hd : (x == ("__debug__" : Str)) = false := by decide) : VE X W (.Name x pos) (tC (.str z)) (kR (.str z)) := ve_c (pe_glob hg hm ⟨_, rfl⟩ hd) fun _ => .str z
theorem takes_def {E : XK} {E1 : Value → Shared → Prop} (hs : X.stack = X.env :: X.outer) (hf : X.env.frame = some X.env.locals) (hex : X.ex = [])
    (hx : X.xe = fun e s' => wpAny (model X.prog X.w) X.A (leaving X.env e) (fun _ s'' => L2.CX X.prog X.w X.outer X.H_0 X.s_0 E e s'') E1 s') : Takes X (wx X.K fun c d _ H => E (.ref (He.ga X.K c)) d H) := takes_wx (takes_of hs hf hex hx)
theorem takesB : Takes X (wx X.K W0) := fun _ _ ⟨_, _, _, _, _, _, _, _, _, _, _, _, _, _, _, _, z⟩ => by
  obtain ⟨_, _, z⟩ := z
  exact z.elim
theorem vs_fzb (i : Nat) (h : VS X W st us gs) : VS X W st us (sFzb i gs) := ⟨h.ps, fun F G r σ H q D a => by
  refine h.so F G r σ H q D ?_
  unfold sFzb at a
  cases e : gs r with
  | nx r' =>
    rw [e] at a
    intro σ' G' H' s q'
    obtain ⟨G2, s2, q2⟩ := q'.fz i
    exact a σ' G2 H' (s.trans s2) q2
  | rt d => rw [e] at a; exact a
  | bk r' => rw [e] at a; exact a
  | ct r' => rw [e] at a; exact a
  | exc c fs r' => rw [e] at a; exact a
  | bad => rw [e] at a; exact (show False from a).elim⟩
theorem vs_mutA {i : Nat} {args : List Expr} {fs : En → R (List PyData)} {rm : V → List V → Hp → VK → Prop} {gm : List PyData → List PyData → Option (List PyData)} (hm : MutR rm gm) (hps : PA X args t → PS X st (tDrop (tBM X.K "list" rm (tVar i) t))) (ha : VA X W args t fs) :
    VS X W st (tDrop (tBM X.K "list" rm (tVar i) t)) (mutO i fs gm) := vs_mut hm (hps ha.pa) ha
/-! ### raise -/
/-- what is known of an exception class of the program's own -/
structure ExOk (K : PySem.W.Frag) (mg : Str → Option Value) (c : Str) : Prop where
  g : mg c = some (.ref (He.ga K c))
  x : PySem.W.excIn K (He.ga K c) He.veBase "ValueError.__new__" = true
  k : PySem.W.keepIn K (.ref (He.ga K c)) = true
  b : PySem.W.subIn K (.ref (He.ga K c)) (.type "BaseException") = some true
  t : PySem.W.typeIn K (.ref (He.ga K c)) = some (.type "type")
theorem vs_raise {c m : Str} {j : Nat} {p1 p2 p3 : Pos} (hc : X.calm = true) (tk : Takes X (wx X.K W)) (x : ExOk X.K X.mg c) (hg : Gl X c) (hdb : (c == ("__debug__" : Str)) = false := by decide) :
    VS X W (.Raise (some (.Call (.Name c p1) [.Constant (.str m) j p2] [] p3)) none pos) (fun _ σ H => wx X.K W (.ref (He.ga X.K c)) none σ H) (sRaise c) :=
  ⟨ps_raise hc tk (pmk_own PySem.F.excBase_ValueError x.x x.g x.k (raises_own x.b x.t) hg hdb), fun F G r σ H q D a => ⟨c, rfl, a none σ G H (Same.refl G) q rfl⟩⟩
/-! ### the rules once more, over the short words -/
variable {pos' : Pos} {P : Post} {tA tB : TT} {fA fB : En → R Bool} {rest : List Expr} {n : Nat} {tg : Expr} {wi : TI} {fi : En → R (List PyData)} {g : TG} {sl : List Nat} {ft : PyData → En → Option En} {f : En → O}
theorem zs_cons (h1 : VS X W st ts fs) (h2 : VSs X W sts us gs) : VSs X W (st :: sts) (tSeq ts us) (sSeq fs gs) := vss_cons h1 h2
theorem zs_nil : VSs X W [] tNext sNil := vss_nil
theorem zs_bad : VSs X W sts tNever sBad := vss_bad
theorem z_ret (h : VE X W e te fe) : VS X W (.Return (some e) pos) (tRet te) (sRet fe) := vs_ret h
theorem z_expr (h : Vx P X W e te fe) (hs : swapsWith e none pos.line X.env = pure false := by rfl) : VS X W (.Expr e pos) (tDrop te) (sExpr fe) := vs_expr h hs
theorem z_set {i : Nat} {x : Str} (hp : ∀ t', PE X e t' → PS X (.Assign [.Name x pos'] e pos) (tAsg t' (gName i))) (h : VE X W e te fe) : VS X W (.Assign [.Name x pos'] e pos) (tAsg te (gName i)) (sSet i fe) := vs_set hp h
theorem z_setO {i : Nat} {x : Str} (hp : ∀ t', PE X e t' → PS X (.Assign [.Name x pos'] e pos) (tAsg t' (gName i))) (h : VO X W e te fe) : VS X W (.Assign [.Name x pos'] e pos) (tAsg te (gName i)) (sSetO i fe) := vs_setO hp h
theorem z_if {bt bf : List Stmt} (hc : VT X W c tA fA) (h1 : VSs X W bt ts fs) (h2 : VSs X W bf us gs) : VS X W (.If c bt bf pos) (tIfS tA ts us) (sIf fA fs gs) := vs_if hc h1 h2
theorem z_for {iter : Expr} {body : List Stmt} (hp : PassesOwn (model X.prog X.w) X.A X.env X.xe) (hc : X.calm = true) (hi : VI X W tg iter wi fi) (hg : VG X tg g sl ft) (hb : VSs X W body ts fs)
    (hs : ∀ x, foldedSetIterable iter X.env x = pure x := by intro _; rfl) : VS X W (.For tg iter body [] pos) (tFor wi g ts) (sFor fi ft fs) := vs_for hp hc hi hg hb hs
theorem z_fz (i : Nat) (h : VS X W st us gs) : VS X W st us (sFz i gs) := vs_fz i h
theorem z_asg (he : VE X W e te fe) (hg : VG X tg g sl ft) (hs : swapsWithSole [tg] e pos.line X.env = pure false := by rfl) (hw : swappedStores [tg] e X.env = pure none := by rfl)
    (h1 : (assignEach [tg] X.env).map (·.2) = [assign tg X.env] := by rfl) : VS X W (.Assign [tg] e pos) (tAsg te g) (sAsg fe ft) := vs_asg he hg hs hw h1
theorem z_setItem {i : Nat} {ti : TE} {fi : En → R PyData} (hps : ∀ te ti, PE X e te → PE X b ti → PS X st (tAsg te (gSub (tVar i) ti rSetL))) (he : VE X W e te fe) (hi : VE X W b ti fi) : VS X W st (tAsg te (gSub (tVar i) ti rSetL)) (sSetItem i fe fi) := vs_setItem hps he hi
theorem z_augItem {f : Int → Int → Int} {c0 : Int} {i : Nat} {ti : TE} {fi : En → R PyData} (hps : ∀ te ti, PE X e te → PE X b ti → PS X st (tAugS (tVar i) ti te rGetL (ipI f) rSetL)) (he : VE X W e te (kR (.int c0))) (hi : VE X W b ti fi) :
    VS X W st (tAugS (tVar i) ti te rGetL (ipI f) rSetL) (sAugItem f i fi c0) := vs_augItem hps he hi
theorem z_aug {f : Int → Int → Int} {i : Nat} (hps : ∀ te, PE X e te → PS X st (tAug i te (ipI f))) (he : VE X W e te fe) : VS X W st (tAug i te (ipI f)) (sAug f i fe) := vs_aug hps he
theorem z_setLc {i : Nat} {y : Str} {py spos : Pos} {elt iter : Expr} {ifs : List Expr} {scope : Scope} {own : List (Str × Nat)} {tt : TT} {fc : En → R Bool} {vs : List Nat} (hc : X.calm = true) (hN : X.N.Nodup) (hy : X.N[i]? = some y) (hyl : X.env.scope.names.lookup y = some .local)
    (hsw : swapsWith (.ListComp elt [⟨tg, iter, ifs, 0⟩] scope pos) (some (.Name y py)) spos.line X.env = pure true) (hi : VI X W tg iter wi fi) (ok : BlkOk X.N X.env.scope scope own) (hv : own.map (·.2) = vs)
    (hg : ∀ (s : Shared) (H : Hp) (C : Addr) (cl : List (Str × Addr)) (fp : List Addr), VG (X.blk s H scope (compEnvC scope cl C X.env) fp) tg g sl ft) (ht : ∀ (s : Shared) (H : Hp) (C : Addr) (cl : List (Str × Addr)) (fp : List Addr), VTs (X.blk s H scope (compEnvC scope cl C X.env) fp) W0 ifs tt fc)
    (he : ∀ (s : Shared) (H : Hp) (C : Addr) (cl : List (Str × Addr)) (fp : List Addr), VE (X.blk s H scope (compEnvC scope cl C X.env) fp) W0 elt te fe) (hsl : ∀ i ∈ sl, i ∈ vs := by decide) (hs : ∀ x, foldedSetIterable iter X.env x = pure x := by intro _; rfl) :
    VS X W (.Assign [.Name y py] (.ListComp elt [⟨tg, iter, ifs, 0⟩] scope pos) spos) (tAsg (tLc wi g tt te vs) (gName i)) (sSetO i (lcF fi ft fc fe vs)) := by
  subst hv
  exact vs_setLc hc hN hy hyl hsw hi ok hg ht he hsl hs
theorem z_lc {elt iter : Expr} {ifs : List Expr} {scope : Scope} {own : List (Str × Nat)} {tt : TT} {fc : En → R Bool} {vs : List Nat} (hc : X.calm = true) (hN : X.N.Nodup) (hi : VI X W tg iter wi fi) (ok : BlkOk X.N X.env.scope scope own) (hv : own.map (·.2) = vs)
    (hg : ∀ (s : Shared) (H : Hp) (C : Addr) (cl : List (Str × Addr)) (fp : List Addr), VG (X.blk s H scope (compEnvC scope cl C X.env) fp) tg g sl ft) (ht : ∀ (s : Shared) (H : Hp) (C : Addr) (cl : List (Str × Addr)) (fp : List Addr), VTs (X.blk s H scope (compEnvC scope cl C X.env) fp) W0 ifs tt fc)
    (he : ∀ (s : Shared) (H : Hp) (C : Addr) (cl : List (Str × Addr)) (fp : List Addr), VE (X.blk s H scope (compEnvC scope cl C X.env) fp) W0 elt te fe) (hsl : ∀ i ∈ sl, i ∈ vs := by decide) (hs : ∀ x, foldedSetIterable iter X.env x = pure x := by intro _; rfl) :
    VO X W (.ListComp elt [⟨tg, iter, ifs, 0⟩] scope pos) (tLc wi g tt te vs) (lcF fi ft fc fe vs) := by
  subst hv
  exact vo_lc hc hN hi ok hg ht he hsl hs
theorem z_callC {k : Nat} {Ff : List PyData → R PyData} {x : Str} {fs : En → R (List PyData)} (cl : Cal X.prog X.w X.K X.mg X.base x k n Ff) (hr : Room k X.A) (hg : Gl X x) (tk : Takes X (wx X.K W)) (ha : VA X W (e :: es) t fs) (hn : (e :: es).length = n := by rfl)
    (hdb : (x == ("__debug__" : Str)) = false := by decide) (he : starEach (e :: es) X.env = (false, eval e X.env) :: starEach es X.env := by rfl) (hpl : (backTo pos (starEach es X.env)).any (·.1) = false := by rfl) :
    VE X W (.Call (.Name x p) (e :: es) [] pos) (tCallS (spV X.K n Ff) (WE (wx X.K W)) t) (cA Ff fs) := ve_callC cl hr hg tk ha hn hdb he hpl
theorem z_tup {fs : En → R (List PyData)} {x1} (h : VA X W es t fs) : VE X W (.Tuple es x1 pos) (tTup t) (cTup fs) := ve_tup h
theorem z_lst {fs : En → R (List PyData)} (h : VA X W es t fs) : VO X W (.List es pos) (tLst t) (cLst fs) := vo_lst h
theorem z_and (ha : VE X W a ta fa) (hb : VE X W (.BoolOp .And (b :: rest) pos) tb fb) : VE X W (.BoolOp .And (a :: b :: rest) pos) (tAndV ta tb) (cAnd fa fb) := ve_and ha hb
theorem z_or (ha : VE X W a ta fa) (hb : VE X W (.BoolOp .Or (b :: rest) pos) tb fb) : VE X W (.BoolOp .Or (a :: b :: rest) pos) (tOrV ta tb) (cOr fa fb) := ve_or ha hb
theorem z_not (ha : VB X W a ta fa) : VE X W (.UnaryOp .Not a pos) (tNotT X.K ta) (cNot fa) := ve_not ha
theorem z_ifE (m : PMono P) (hc : VT X W c tA fA) (ha : Vx P X W a ta fa) (hb : Vx P X W b tb fb) : Vx P X W (.IfExp c a b pos) (tIf tA ta tb) (cIf fA fa fb) := vx_if m hc ha hb
theorem zw_and (ha : VT X W a tA fA) (hb : VW X W (.BoolOp .And (b :: rest) pos) tB fB) : VW X W (.BoolOp .And (a :: b :: rest) pos) (tAnd tA tB) (wAnd fA fB) := vw_and ha hb
theorem zw_or (ha : VT X W a tA fA) (hb : VW X W (.BoolOp .Or (b :: rest) pos) tB fB) : VW X W (.BoolOp .Or (a :: b :: rest) pos) (tOr tA tB) (wOr fA fB) := vw_or ha hb
theorem zt_not (ha : VT X W a tA fA) : VT X W (.UnaryOp .Not a pos) (tNot tA) (wNot fA) := vt_not ha
theorem zt_truth (ha : VB X W a ta fa) (he : ∀ whole, isTrue a X.env whole = (do let v ← whole; standAt a.pos; holding [v] (truthy v)) := by intro _; rfl) : VT X W a (fun σ H Q => ta σ H fun x H' => ∃ k, TruV X.K x H' k ∧ Q k H') (wTru fa) := vt_truth ha he
theorem zt_cmp {op : CmpOp} {r : R2} {g : PyData → PyData → R PyData} (ho : OpR X (compareOp op) r) (hg : Op2 pE r g) (hm : behindInMarks op b = false) (ha : VB X W a ta fa) (hb : VB X W b tb fb) : VT X W (.Compare a [op] [b] pos) (tTest (tOp r ta tb)) (wCmp (b2 fa fb g)) := vt_cmp ho hg hm ha hb
theorem zts_nil : VTs X W [] tYes wYes := vts_nil
theorem zp_none : VP X W none tNoPart pNone := vp_none
theorem zp_some (ha : VE X W a ta fa) : VP X W (some a) (tPart ta) (pSome fa) := vp_some ha
theorem zi_seq (h : VE X W e te fe) : VI X W tg e (fun σ H R => (iList X.K te σ H fun J H1 => SmallH H1 → R J H1) ∨ (iTup X.K te σ H fun J H1 => SmallH H1 → R J H1)) (iS seqD fe) := vi_seq h
theorem zi_range1 {fs : En → R (List PyData)} (hg : Gl X "range") (hm : X.mg "range" = none) (h : VA X W [a] t fs) (hs : starEach [a] X.env = [(false, eval a X.env)] := by rfl) : VI X W tg (.Call (.Name "range" p) [a] [] pos) (iRng1 t) (iA rng1 fs) := vi_range1 hg hm h hs
theorem zi_range2 {fs : En → R (List PyData)} (hg : Gl X "range") (hm : X.mg "range" = none) (h : VA X W [a, b] t fs) (hs : starEach [a, b] X.env = [(false, eval a X.env), (false, eval b X.env)] := by rfl) (hs2 : starEach [b] X.env = [(false, eval b X.env)] := by rfl) :
    VI X W tg (.Call (.Name "range" p) [a, b] [] pos) (iRng2 t) (iA rng2 fs) := vi_range2 hg hm h hs hs2
theorem zi_zip {fs : En → R (List PyData)} {tpos : Pos} {elts : List Expr} {kk : Nat} (hg : Gl X "zip") (hm : X.mg "zip" = none) (h : VA X W [a, b] t fs)
    (hs : starEach [a, b] X.env = (false, eval a X.env) :: starEach [b] X.env := by rfl) (hpl : (backTo pos (starEach [b] X.env)).any (·.1) = false := by rfl) :
    VI X W (.Tuple elts kk tpos) (.Call (.Name "zip" p) [a, b] [] pos) (fun σ H R => RZ.iZipA X.K t σ H fun J H1 => SmallH H1 → R J H1) (iA zip2 fs) := vi_zip hg hm h hs hpl
theorem z_len (hg : Gl X "len") (hm : X.mg "len" = none) (ha : VB X W a ta fa) (hs : starEach [a] X.env = (false, eval a X.env) :: starEach [] X.env := by rfl) (hpl : (backTo pos (starEach [] X.env)).any (·.1) = false := by rfl) :
    VE X W (.Call (.Name "len" p) [a] [] pos) (tCB (fun xs H Q => ∃ x n, xs = [x] ∧ LenV X.K x H n ∧ Q (.int n) H) (tCons ta tNil)) (c1 lenD fa) := ve_len hg hm ha hs hpl
theorem z_list (hg : Gl X "list") (hm : X.mg "list" = none) (ha : VB X W a ta fa) (hs : starEach [a] X.env = (false, eval a X.env) :: starEach [] X.env := by rfl) (hpl : (backTo pos (starEach [] X.env)).any (·.1) = false := by rfl) :
    VO X W (.Call (.Name "list" p) [a] [] pos) (tCB (rListA X.K) (tCons ta tNil)) (c1 listD fa) := vo_list hg hm ha hs hpl
theorem z_tuple (hg : Gl X "tuple") (hm : X.mg "tuple" = none) (ha : VB X W a ta fa) (hs : starEach [a] X.env = (false, eval a X.env) :: starEach [] X.env := by rfl) (hpl : (backTo pos (starEach [] X.env)).any (·.1) = false := by rfl) :
    VE X W (.Call (.Name "tuple" p) [a] [] pos) (tCB (rTupleA X.K) (tCons ta tNil)) (c1 tupleD fa) := ve_tuple hg hm ha hs hpl
theorem z_intOf (hg : Gl X "int") (hm : X.mg "int" = none) (ha : VB X W a ta fa) (hs : starEach [a] X.env = (false, eval a X.env) :: starEach [] X.env := by rfl) (hpl : (backTo pos (starEach [] X.env)).any (·.1) = false := by rfl) :
    VE X W (.Call (.Name "int" p) [a] [] pos) (tCB rInt1 (tCons ta tNil)) (c1 intOfD fa) := ve_intOf hg hm ha hs hpl
theorem z_sorted (hu : X.A.units + 64 < cLine) (hg : Gl X "sorted") (hm : X.mg "sorted" = none) (ha : VB X W a ta fa) (hs : starEach [a] X.env = (false, eval a X.env) :: starEach [] X.env := by rfl) (hpl : (backTo pos (starEach [] X.env)).any (·.1) = false := by rfl) :
    VO X W (.Call (.Name "sorted" p) [a] [] pos) (tCB (rSortedA X.K) (tCons ta tNil)) (c1 sortD fa) := vo_sorted hu hg hm ha hs hpl
theorem z_isi (T : String) {x : Str} {p1 : Pos} (hg : Gl X "isinstance") (hm : X.mg "isinstance" = none) (hgT : Gl X x) (hmT : X.mg x = none) (hvT : bootBuiltins x = some (.type T)) (ha : VB X W a ta fa)
    (hnT : x ≠ "__name__" := by decide) (hdT : (x == ("__debug__" : Str)) = false := by decide) (hs : starEach [a, .Name x p1] X.env = (false, eval a X.env) :: starEach [.Name x p1] X.env := by rfl) (hs2 : starEach [.Name x p1] X.env = (false, eval (.Name x p1) X.env) :: starEach [] X.env := by rfl) (hpl : (backTo pos (starEach [.Name x p1] X.env)).any (·.1) = false := by rfl) :
    VE X W (.Call (.Name "isinstance" p) [a, .Name x p1] [] pos) (tCB (rIsi X.K) (tCons ta (tCons (tC (.ty T)) tNil))) (c1 (isiD T) fa) := ve_isi T hg hm hgT hmT hvT ha hnT hdT hs hs2 hpl
end
end DL
namespace DL
open PySem L2
/-! ### readings that are told by the function alone -/
def tCan (P : Post) (W : WN) (f : En → R PyData) : TE := fun σ H Q => ∃ F G r, Rep F G r σ H ∧
  match f r with
  | .ok d => ∀ v G' H', Ext G H G' H' → P G H G' H' v d → Q v H'
  | .exc c fs => ∀ x G' H', Ext G H G' H' → XR G' H' x fs → W c x σ H'
  | .bad => False
def tCanT (W : WN) (f : En → R Bool) : TT := fun σ H Q => ∃ F G r, Rep F G r σ H ∧
  match f r with
  | .ok d => ∀ G' H', Ext G H G' H' → Q d H'
  | .exc c fs => ∀ x G' H', Ext G H G' H' → XR G' H' x fs → W c x σ H'
  | .bad => False
def gCan (sl : List Nat) (ft : PyData → En → Option En) : TG := fun v σ H Q => ∃ F G r d r', Rep F G r σ H ∧ De G v d ∧ ft d r = some r' ∧
  ∀ σ', Rep F G r' σ' H → (∀ vs : List Nat, (∀ i ∈ sl, i ∈ vs) → L2.wipe σ' vs = L2.wipe σ vs) → Q σ' H
variable {X : Cx} {W : WN} {e : Expr} {P : Post} {t : TE} {f : En → R PyData}
theorem can_so {F G : Hp} {r : En} {σ : L2.St} {H : Hp} (q : Rep F G r σ H) : Sd P W (tCan P W f) σ G H (f r) := by
  cases e : f r with
  | ok d => exact fun Q k => ⟨F, G, r, q, by rw [e]; exact k⟩
  | exc c fs => exact fun k Q => ⟨F, G, r, q, by rw [e]; exact k⟩
  | bad => exact trivial
theorem canT_so {F G : Hp} {r : En} {σ : L2.St} {H : Hp} {f : En → R Bool} (q : Rep F G r σ H) : SdT W (tCanT W f) σ G H (f r) := by
  cases e : f r with
  | ok d => exact fun Q k => ⟨F, G, r, q, by rw [e]; exact k⟩
  | exc c fs => exact fun k Q => ⟨F, G, r, q, by rw [e]; exact k⟩
  | bad => exact trivial
theorem can_im (so : ∀ F G r σ H, Rep F G r σ H → Sd P W t σ G H (f r)) {σ : L2.St} {H : Hp} {Q : VK} (h : tCan P W f σ H Q) : t σ H Q := by
  obtain ⟨F, G, r, q, h⟩ := h
  have z := so F G r σ H q
  cases e : f r with
  | ok d => rw [e] at h z; exact z Q h
  | exc c fs => rw [e] at h z; exact z h Q
  | bad => rw [e] at h; exact h.elim
theorem canT_im {t : TT} {f : En → R Bool} (so : ∀ F G r σ H, Rep F G r σ H → SdT W t σ G H (f r)) {σ : L2.St} {H : Hp} {Q : Bool → Hp → Prop} (h : tCanT W f σ H Q) : t σ H Q := by
  obtain ⟨F, G, r, q, h⟩ := h
  have z := so F G r σ H q
  cases e : f r with
  | ok d => rw [e] at h z; exact z Q h
  | exc c fs => rw [e] at h z; exact z h Q
  | bad => rw [e] at h; exact h.elim
theorem Vx.can (h : Vx P X W e t f) : Vx P X W e (tCan P W f) f :=
  ⟨⟨fun pins s σ H Q I k => h.pe.run pins s σ H Q I (can_im h.so k)⟩, fun _ _ _ _ _ q => can_so q⟩
theorem VT.can {t : TT} {f : En → R Bool} (h : VT X W e t f) : VT X W e (tCanT W f) f :=
  ⟨⟨fun pins s σ H Q I k => h.pt.run pins s σ H Q I (canT_im h.so k)⟩, fun _ _ _ _ _ q => canT_so q⟩
theorem VTs.can {es : List Expr} {t : TT} {f : En → R Bool} (h : VTs X W es t f) : VTs X W es (tCanT W f) f :=
  ⟨⟨fun pins s σ H Q I k => h.pt.run pins s σ H Q I (canT_im h.so k)⟩, fun _ _ _ _ _ q => canT_so q⟩
theorem VG.can {g : TG} {sl : List Nat} {ft : PyData → En → Option En} (h : VG X e g sl ft) : VG X e (gCan sl ft) sl ft := by
  refine ⟨⟨fun pins s σ H v u Q I rl k => ?_⟩, fun F G r σ H v d r' q D z Q k => ⟨F, G, r, d, r', q, D, z, k⟩⟩
  obtain ⟨F, G, r, d, r', q, D, z, k⟩ := k
  exact h.pg.run pins s σ H v u Q I rl (h.so F G r σ H v d r' q D z Q k)
variable {pos : Pos} {tg : Expr} {wi : TI} {fi : En → R (List PyData)} {sl : List Nat} {ft : PyData → En → Option En}
theorem y_setLc {i : Nat} {y : Str} {py spos : Pos} {elt iter : Expr} {ifs : List Expr} {scope : Scope} {own : List (Str × Nat)} {fe : En → R PyData} {fc : En → R Bool} {vs : List Nat} (hc : X.calm = true) (hN : X.N.Nodup) (hy : X.N[i]? = some y) (hyl : X.env.scope.names.lookup y = some .local)
    (hsw : swapsWith (.ListComp elt [⟨tg, iter, ifs, 0⟩] scope pos) (some (.Name y py)) spos.line X.env = pure true) (hi : VI X W tg iter wi fi) (ok : BlkOk X.N X.env.scope scope own) (hv : own.map (·.2) = vs)
    (hg : ∀ (s : Shared) (H : Hp) (C : Addr) (cl : List (Str × Addr)) (fp : List Addr), ∃ g, VG (X.blk s H scope (compEnvC scope cl C X.env) fp) tg g sl ft) (ht : ∀ (s : Shared) (H : Hp) (C : Addr) (cl : List (Str × Addr)) (fp : List Addr), ∃ t, VTs (X.blk s H scope (compEnvC scope cl C X.env) fp) W0 ifs t fc)
    (he : ∀ (s : Shared) (H : Hp) (C : Addr) (cl : List (Str × Addr)) (fp : List Addr), ∃ t, VE (X.blk s H scope (compEnvC scope cl C X.env) fp) W0 elt t fe) (hsl : ∀ i ∈ sl, i ∈ vs := by decide) (hs : ∀ x, foldedSetIterable iter X.env x = pure x := by intro _; rfl) :
    VS X W (.Assign [.Name y py] (.ListComp elt [⟨tg, iter, ifs, 0⟩] scope pos) spos) (tAsg (tLc wi (gCan sl ft) (tCanT W0 fc) (tCan pE W0 fe) vs) (gName i)) (sSetO i (lcF fi ft fc fe vs)) :=
  z_setLc hc hN hy hyl hsw hi ok hv (fun s H C cl fp => (hg s H C cl fp).elim fun _ h => h.can) (fun s H C cl fp => (ht s H C cl fp).elim fun _ h => h.can) (fun s H C cl fp => (he s H C cl fp).elim fun _ h => h.can) hsl hs
theorem y_lc {elt iter : Expr} {ifs : List Expr} {scope : Scope} {own : List (Str × Nat)} {fe : En → R PyData} {fc : En → R Bool} {vs : List Nat} (hc : X.calm = true) (hN : X.N.Nodup) (hi : VI X W tg iter wi fi) (ok : BlkOk X.N X.env.scope scope own) (hv : own.map (·.2) = vs)
    (hg : ∀ (s : Shared) (H : Hp) (C : Addr) (cl : List (Str × Addr)) (fp : List Addr), ∃ g, VG (X.blk s H scope (compEnvC scope cl C X.env) fp) tg g sl ft) (ht : ∀ (s : Shared) (H : Hp) (C : Addr) (cl : List (Str × Addr)) (fp : List Addr), ∃ t, VTs (X.blk s H scope (compEnvC scope cl C X.env) fp) W0 ifs t fc)
    (he : ∀ (s : Shared) (H : Hp) (C : Addr) (cl : List (Str × Addr)) (fp : List Addr), ∃ t, VE (X.blk s H scope (compEnvC scope cl C X.env) fp) W0 elt t fe) (hsl : ∀ i ∈ sl, i ∈ vs := by decide) (hs : ∀ x, foldedSetIterable iter X.env x = pure x := by intro _; rfl) :
    VO X W (.ListComp elt [⟨tg, iter, ifs, 0⟩] scope pos) (tLc wi (gCan sl ft) (tCanT W0 fc) (tCan pE W0 fe) vs) (lcF fi ft fc fe vs) :=
  z_lc hc hN hi ok hv (fun s H C cl fp => (hg s H C cl fp).elim fun _ h => h.can) (fun s H C cl fp => (ht s H C cl fp).elim fun _ h => h.can) (fun s H C cl fp => (he s H C cl fp).elim fun _ h => h.can) hsl hs
end DL
namespace DL
open PySem L2
/-! ### the head, with one more look at the written part -/
def noL (K : PySem.W.Frag) : Bool := K.all fun p => !decide (p.2.cls = .type "list")
theorem look_mem {a : Addr} {o : Obj} : ∀ {K : PySem.W.Frag}, K.lookup a = some o → ∃ p ∈ K, p.2 = o
  | [], e => nomatch e
  | (b, u) :: r, e => by
    rw [List.lookup_cons] at e
    split at e
    · cases e
      exact ⟨_, List.mem_cons_self, rfl⟩
    · obtain ⟨p, h1, h2⟩ := look_mem e
      exact ⟨p, List.mem_cons_of_mem _ h1, h2⟩
theorem noL_ok {K : PySem.W.Frag} {a : Addr} {o : Obj} (h : noL K = true) (e : K.lookup a = some o) : o.cls ≠ .type "list" := by
  obtain ⟨p, h1, h2⟩ := look_mem e
  have z := List.all_eq_true.mp h p h1
  rw [h2] at z
  simpa using z
abbrev AlL : Type := He.AlD × Bool
def asL (g : Addr → Option Obj) (n : Nat) : List Addr := He.asD g n ++ [cStatics]
def obsL (n : Nat) (fa : List He.Fa) (fn : List He.DefD) (ck : PySem.W.Frag → Bool) (g : Addr → Option Obj) : AlL := (He.obsD fa fn (He.frG g (asL g n)), noL (He.frG g (asL g n)) && ck (He.frG g (asL g n)))
structure SaysL (fa : List He.Fa) (fn : List He.DefD) (ck : PySem.W.Frag → Bool) (K : PySem.W.Frag) : Prop where
  d : He.SaysD fa fn K
  n : noL K = true
  c : ck K = true
def hookL (n : Nat) (fa : List He.Fa) (fn : List He.DefD) (ck : PySem.W.Frag → Bool) : PySem.W.Hook where
  α := AlL
  obs := fun s => obsL n fa fn ck s.heap.get?
  val := fun _ => (He.valD fn, true)
  says := fun _ h => ∃ K : PySem.W.Frag, K.In h ∧ SaysL fa fn ck K
  of := fun _ s e => ⟨_, He.frG_in, congrArg Prod.fst e, (Bool.and_eq_true_iff.mp (congrArg Prod.snd e)).1, (Bool.and_eq_true_iff.mp (congrArg Prod.snd e)).2⟩
  keeps := fun _ _ _ ⟨K, hK, c⟩ k => ⟨K, PySem.W.Frag.In.keeps hK k, c⟩
theorem obsL_eq {n : Nat} {fa : List He.Fa} {fn : List He.DefD} {ck : PySem.W.Frag → Bool} {g : Addr → Option Obj} {s : Shared} (h : ∀ a, g a = s.heap.get? a) : obsL n fa fn ck g = (hookL n fa fn ck).obs s := by
  have e : g = s.heap.get? := funext h
  rw [e] <;> rfl
def obL (n : Nat) (fa : List He.Fa) (fn : List He.DefD) (ck : PySem.W.Frag → Bool) (s : PySem.W.SharedT) : AlL := obsL n fa fn ck (HandSHeadRun.getT s)
theorem obL_eq {n : Nat} {fa : List He.Fa} {fn : List He.DefD} {ck : PySem.W.Frag → Bool} (s : PySem.W.SharedT) : obL n fa fn ck s = (hookL n fa fn ck).obs s.abs := obsL_eq (HandSHeadRun.getT_eq s)
/-! ### the script -/
theorem de_ints {G : Hp} : ∀ ns : List Int, DeAll G (ns.map V.int) (ns.map .int)
  | [] => .nil
  | n :: r => .cons (.int n) (de_ints r)
theorem sp_law {K : PySem.W.Frag} (nl : noL K = true) {Ff : List PyData → R PyData} {n : Nat} (h : ∀ ns : List Int, ns.length ≤ n → Ff [.list (ns.map .int)] = .ok (.bool true)) (H : Hp) (a : Addr) (ns : List Int) (hl : ns.length ≤ n) (hS : SqL K H a (ns.map V.int)) :
    spV K 1 Ff [.ref a] H (fun v _ => v = .bl true) fun _ _ _ => False := by
  rcases hS with hS | ⟨o, its, m, h1, h2, _⟩
  · refine ⟨rfl, [.list (ns.map .int)], H, Same.refl H, .cons (.lst hS (de_ints ns)) .nil, ?_⟩
    rw [h ns hl]
    intro v G' H' _ D
    cases D
    rfl
  · exact (noL_ok nl h1 h2).elim
theorem cx_end {P : Program} {w : World} (H : Hp) (s : Shared) (e : Value) (s' : Shared) (h : L2.CX P w [] H s (fun _ _ _ => False) e s') : False := by
  obtain ⟨_, _, _, _, _, _, _, _, _, _, _, _, z⟩ := h
  exact z.elim
/-- what a law's facts must give -/
def LawF (P : Program) (w : World) (K : PySem.W.Frag) (mg : Str → Option Value) (k n : Nat) (f : Addr) : Prop :=
  ∃ (fd : FuncData) (Ff : List PyData → R PyData), (∀ (s : Shared) (v : Value), BindsTo s fd ⟨[v], []⟩ [("script", v)]) ∧ (∀ ns : List Int, ns.length ≤ n → Ff [.list (ns.map .int)] = .ok (.bool true)) ∧
    ∀ base : Heap, K.In base → base.Ns mainGlobals mg → FV P w K mg base k f fd ["script"] 1 Ff
theorem law_walk {l : PySem.W.OpenLaw} {n k m : Nat} {q : Program} {loose : List Str} {XP : (Str → Option Value) → Heap → Prop} {d : PySem.DefRec} {fa : List He.Fa} {fn : List He.DefD} {ck : PySem.W.Frag → Bool}
    (hn : l.most = some n) (hn2 : n ≤ sizeLine) (hdf : d.params.defaults = []) (hr : Room k callerA)
    (F : ∀ (w : World) (mg : Str → Option Value) (f : Addr) (h : Heap) (K : PySem.W.Frag), K.In h → SaysL fa fn ck K → h.Ns mainGlobals mg → mg d.name = some (.ref f) → LawF l.prog w K mg k n f) :
    PySem.W.WalkO q loose XP (hookL m fa fn ck).says l.row.toRowW d [] (fun f vs => PySem.call f vs) := by
  refine Att.attach_call hn hdf fun w s₀ s₁ mg mb f o pm cd doc a vs ns G Y ho hd hcd hmg hobj hints hlen hg => ?_
  obtain ⟨K, KX, c⟩ := Y
  obtain ⟨fd, Ff, hb, hF, hV⟩ := F w mg f _ K KX c G.T.g hmg
  exact law_call (CX := L2.CX l.prog w) KX G.T.g G.T.b G.T.builtins G.T.nolimit hg hobj hints (Nat.le_trans hlen hn2) hr hV hb (fun H _ hS => sp_law c.n hF H a ns hlen hS) fun H e s' z => cx_end H s₁ e s' z
end DL
namespace DL
open PySem PySem.Spec PyProof.Rows L2
/-! ### several clauses 'except C as n' -/
/-- what a clause does with the exception at a, of class cls, with the fields' dict d -/
abbrev Su := Addr → Value → Option Addr → TS
/-- the ends behind a suite: the name of the clause is gone -/
def Ends.gone (D : Ends) (i : Nat) : Ends := { nx := fun σ' H' => D.nx (σ'.set i none) H', rt := D.rt, bk := fun σ' H' => D.bk (σ'.set i none) H', ct := fun σ' H' => D.ct (σ'.set i none) H' }
def wCl (K : PySem.W.Frag) (Wo : WX) (D : Ends) : List (Value × Nat × Su) → WX
  | [] => Wo
  | (c, i, ts) :: l => fun cls d σ H => ∃ b, PySem.W.exmOne K cls c = some b ∧ (b = true → ∀ a, H a = none → ts a cls d (Ends.gone D i) (σ.set i (some (.ref a))) H) ∧ (b = false → wCl K Wo D l cls d σ H)
inductive ClOk (X : Cx) : List ExceptHandler → List (Value × Nat × Su) → Prop
  | nil : ClOk X [] []
  | cons {x n : Str} {c : Value} {i : Nat} {ts : Su} {st : Stmt} {sts : List Stmt} {np p : Pos} {hds : List ExceptHandler} {l : List (Value × Nat × Su)} (hi : X.N[i]? = some n) (hl : X.env.kindOf n = some .local) (hc : Names X x c)
      (hsu : ∀ (a : Addr) (oe : Obj) (cls : Value) (d : Option Addr) (pn : List (Addr × Obj)), Zc cls d oe → (∃ vs, oe.data = .fields vs) → PSs (X.suite a ((a, oe) :: pn)) (st :: sts) (ts a cls d)) (r : ClOk X hds l) :
      ClOk X (.ExceptHandler (some (.Name x np)) (some n) (st :: sts) p :: hds) ((c, i, ts) :: l)
/-- an exception that has come down here -/
structure Dn (X : Cx) (pins : List (Addr × Obj)) (a : Addr) (cls : Value) (d : Option Addr) (σ : L2.St) (H : Hp) (s : Shared) : Prop where
  get : ∃ (B : Heap) (sI : Shared), Inv X pins σ H sI ∧ (∀ b o, sI.heap.get? b = some o → b ∉ frs X.stack → B.get? b = some o) ∧ sI.heap.UpToSlots s.heap ∧ HandSPX.FlyingZ B (X.env :: X.outer) a (Zc cls d) s.heap ∧ s.os = sI.os ∧ AllBare s.gens
  na : H a = none
section
variable {X : Cx} {pins : List (Addr × Obj)} {a : Addr} {cls : Value} {d : Option Addr} {σ : L2.St} {H : Hp} {s : Shared}
theorem Dn.inv (q : Dn X pins a cls d σ H s) : Inv X pins σ H s := by
  obtain ⟨⟨B, sI, J, nb, up, fl, os, ag⟩, _⟩ := q
  exact J.landed nb fl.1 up os ag
/-- the exception's object there, and the suite's state over it -/
theorem Dn.there (q : Dn X pins a cls d σ H s) (hf : X.env.frame = some X.env.locals) : ∃ oe vs, s.heap.get? a = some oe ∧ Zc cls d oe ∧ oe.data = .fields vs ∧ Inv (X.suite a ((a, oe) :: (X.pn ++ pins))) [] σ H s := by
  have J := q.inv
  obtain ⟨⟨B, sI, _, _, _, fl, _, _⟩, na⟩ := q
  obtain ⟨oe, vs, g, z, dd⟩ := fl.there
  have out : a ∉ frs (X.env :: X.outer) := fun m => by
    obtain ⟨_, o2, g2, nf⟩ := fl.2.2.1.mem m
    rw [g] at g2
    cases g2
    exact nf _ dd
  refine ⟨oe, vs, g, z, dd, J.suite g dd na (fun e => out ?_) fun m => ?_⟩
  · exact List.mem_filterMap.mpr ⟨X.env, List.mem_cons_self, e ▸ hf⟩
  · obtain ⟨e, m1, m2⟩ := List.mem_filterMap.mp m
    exact out (List.mem_filterMap.mpr ⟨e, List.mem_cons_of_mem _ m1, m2⟩)
/-- no clause is left: it flies on -/
theorem Dn.on {Wo : WX} {D : Ends} (q : Dn X pins a cls d σ H s) (hs : X.stack = X.env :: X.outer) (hf : X.env.frame = some X.env.locals) (tk : Takes X Wo) (w : Wo cls d σ H) :
    wpAny (model X.prog X.w) X.A (handleBy (.ref a) X.env []) (SP X pins D) X.xe s := by
  obtain ⟨⟨B, sI, J, nb, up, fl, os, ag⟩, na⟩ := q
  refine wpAny_handleBy_nil ?_
  obtain ⟨_, _, _, oe, vs, T, oT, tt, g, _, dd, g1, _⟩ := id fl
  unfold PySem.passOn
  refine wpAny_bind (wpAny_field g dd g1 ?_)
  rw [if_neg (by simp : ¬ ((Value.ref T == Value.none) = true))]
  have last : wpAny (model X.prog X.w) X.A (setFlight (.ref a) X.env.frame) (fun _ s4 => wpAny (model X.prog X.w) X.A (throw (.ref a) : Sem Flow) (SP X pins D) X.xe s4) X.xe s := by
    rw [hf]
    refine HandSPX.setFlight_upZ fl fun h4 hh u4 => wpAny_throw (tk _ _ ⟨a, B, sI, pins, σ, H, cls, d, rfl, J, nb, up.trans u4, ?_, na, os, ag, w⟩)
    rw [hs]
    exact .inr (.inr hh)
  first
    | exact wpAny_bind (wpAny_pure (wpAny_bind last))
    | exact wpAny_bind last
/-- its flight is told anew -/
theorem Dn.again {Q : Unit → Shared → Prop} {M : Model} {A : Around} {E : Value → Shared → Prop} (q : Dn X pins a cls d σ H s) (k : ∀ h4, Dn X pins a cls d σ H { s with heap := h4 } → Q () { s with heap := h4 }) : wpAny M A (setFlight (.ref a) none) Q E s := by
  obtain ⟨⟨B, sI, J, nb, up, fl, os, ag⟩, na⟩ := q
  exact HandSPX.lands_againZ fl fun h4 f4 u4 => k h4 ⟨⟨B, sI, J, nb, up.trans u4, f4, os, ag⟩, na⟩
theorem Dn.clauses {Wo : WX} {D : Ends} {hds : List ExceptHandler} {l : List (Value × Nat × Su)} (q : Dn X pins a cls d σ H s) (hs : X.stack = X.env :: X.outer) (hf : X.env.frame = some X.env.locals) (hN : X.N.Nodup) (tk : Takes X Wo) (ok : X.Ok) (h : ClOk X hds l) :
    wCl X.K Wo D l cls d σ H → wpAny (model X.prog X.w) X.A (handleBy (.ref a) X.env hds) (SP X pins D) X.xe s := by
  induction h with
  | nil => exact fun w => q.on hs hf tk w
  | @cons x n c i ts st sts np p hds' l' hi hl hc hsu r ih =>
    rintro ⟨b, m, yes, no⟩
    obtain ⟨oe, vs, g, z, dd, S⟩ := q.there hf
    refine wpAny_handleBy_cons (codeAny_handlers_test ?_) (fun e => nomatch e)
    have ty : PySem.W.Looks (model X.prog X.w) s.heap (typeOf (.ref a)) cls := fun A Q E s' k u => wpAny_typeOf_ref (k _ _ g) (by rw [z.1]; exact u)
    have look := PySem.W.exm_one (M := model X.prog X.w) q.inv.kIn ty m
    have name : ∀ {Q E : Value → Shared → Prop}, Q c s → wpAny (model X.prog X.w) (X.A.mark (some (.ref a))) (eval (.Name x np) X.env) Q E s := fun {Q E} u => by
      obtain ⟨g1, g2, e | ⟨e1, e2, e3⟩⟩ := hc
      · exact ld_glob (X := X.suite a ((a, oe) :: (X.pn ++ pins))) S g1 e u g2
      · exact ld_blt (X := X.suite a ((a, oe) :: (X.pn ++ pins))) S g1 e1 e2 u e3 g2
    refine name (look.here ?_)
    cases b with
    | false => exact ih (no rfl)
    | true =>
      refine codeAny_handlers_suite_as (q.again fun h4 q4 => ?_)
      obtain ⟨oe4, vs4, _, z4, dd4, S4⟩ := q4.there hf
      refine store_ok (X := X.suite a ((a, oe4) :: (X.pn ++ pins))) (v := .ref a) S4 hN hi (.inl hl) rfl (fun s5 S5 => ?_) (.inr hl)
      refine wpAny_mono ((hsu a oe4 cls d (X.pn ++ pins) z4 ⟨_, dd4⟩).run [] s5 _ H _ S5 (yes rfl a q.na)) (fun f s6 sp => ?_) (fun _ _ e => e.elim)
      cases f with
      | next =>
        obtain ⟨_, _, S6, u⟩ := sp
        exact gone_ok (S6.unsuite ok) hN hi hl fun s7 J => ⟨_, _, J, u⟩
      | brk =>
        obtain ⟨_, _, S6, u⟩ := sp
        exact gone_ok (S6.unsuite ok) hN hi hl fun s7 J => ⟨_, _, J, u⟩
      | cont =>
        obtain ⟨_, _, S6, u⟩ := sp
        exact gone_ok (S6.unsuite ok) hN hi hl fun s7 J => ⟨_, _, J, u⟩
      | ret v =>
        obtain ⟨_, _, _, S6, r6, u⟩ := sp
        exact gone_ok (S6.unsuite ok) hN hi hl fun s7 J => ⟨_, _, _, J, r6, u⟩
end
/-- try: body, then clauses with names -/
theorem ps_tryN {X : Cx} {body : List Stmt} {hd : ExceptHandler} {hds : List ExceptHandler} {l : List (Value × Nat × Su)} {pos : Pos} {tb : WX → TS} {Wo : WX} (hs : X.stack = X.env :: X.outer) (hf : X.env.frame = some X.env.locals) (hN : X.N.Nodup) (tk : Takes X Wo)
    (hb : ∀ (W : WX) (pn : List (Addr × Obj)) (xe : Value → Shared → Prop), Takes (X.tr pn xe) W → PassesOwn (model X.prog X.w) X.A X.env xe → PSs (X.tr pn xe) body (tb W)) (hh : ClOk X (hd :: hds) l) :
    PS X (.Try body (hd :: hds) [] [] pos) (fun D σ H => tb (wCl X.K Wo D l) D σ H) := by
  refine ⟨fun pins s σ H D I h => wpAny_Try_except ?_⟩
  have ok := I.ok
  have fr : X.A.frames = some (X.env :: X.outer) := hs ▸ ok.frames
  refine wpAny_mono ((hb (wCl X.K Wo D l) (X.pn ++ pins) (fun e s₁ => wpAny (model X.prog X.w) X.A (noteFrame e X.env) (fun _ s₂ => wpAny (model X.prog X.w) X.A (setFlight e none) (fun _ s₃ =>
    wpAny (model X.prog X.w) X.A (handleBy e X.env (hd :: hds)) (SP X pins D) X.xe s₃) X.xe s₂) X.xe s₁) ?_ PassesOwn.looking).run [] s σ H D (I.toTry _) h) ?_ (fun e s1 z => z)
  · rintro u s' ⟨a, B, sI, pins', σ', H', cls, d, rfl, J, nb, up, sky, na, os, ag, w⟩
    show wpAny (model X.prog X.w) X.A (noteFrame (.ref a) X.env) _ _ _
    have sky2 : Sky B (X.env :: X.outer) a (Zc cls d) X.env.locals s'.heap := hs ▸ sky
    refine Sky.land Zc.steady fr hf sky2 fun h3 fl u3 => ?_
    have q : Dn X pins a cls d σ' H' { s' with heap := h3 } := ⟨⟨B, sI, J.ofTry ok, nb, up.trans u3, fl, os, ag⟩, na⟩
    exact q.clauses hs hf hN tk ok hh w
  · intro f s1 sp
    cases f with
    | next =>
      obtain ⟨_, _, J, u⟩ := sp
      exact wpAny_execs_nil ⟨_, _, J.ofTry ok, u⟩
    | brk =>
      obtain ⟨_, _, J, u⟩ := sp
      exact ⟨_, _, J.ofTry ok, u⟩
    | cont =>
      obtain ⟨_, _, J, u⟩ := sp
      exact ⟨_, _, J.ofTry ok, u⟩
    | ret v =>
      obtain ⟨_, _, _, J, r, u⟩ := sp
      exact ⟨_, _, _, J.ofTry ok, r, u⟩
end DL
namespace DL
open PySem L2
/-! ### classes of exceptions, by names -/
/-- what the head tells of the classes cs, asked by the names Cs -/
structure Clt (K : PySem.W.Frag) (cs Cs : List Str) (sub : Str → Str → Bool) : Prop where
  ex : ∀ c ∈ cs, ∀ C ∈ Cs, PySem.W.exmOne K (.ref (He.ga K c)) (.ref (He.ga K C)) = some (sub c C)
  ki : ∀ c ∈ cs, ∀ C ∈ Cs, PySem.W.kitOne K (.ref (He.ga K c)) (.ref (He.ga K C)) = some (sub c C)
  xc : ∀ c ∈ cs, ExcC K (He.ga K c)
def ckX (K : PySem.W.Frag) (D : Addr) : Bool :=
  decide (PySem.W.findIn K (.ref D) "__getattribute__" = some (some (.builtin "BaseException.__getattribute__"))) && (decide (PySem.W.findIn K (.ref D) "__getattr__" = some none) &&
    (decide (PySem.W.subIn K (.ref D) (.type "BaseException") = some true) && (PySem.W.hasDictIn K D && (decide (PySem.W.findIn K (.ref D) "__class__" = some (some (.builtin "object.__class__"))) &&
      (decide (PySem.W.specialIn K (.builtin "object.__class__") "__get__" = some (some (.builtin "getset_descriptor.__get__"))) && (decide (PySem.W.takesIn K (.builtin "object.__class__") = some true) && decide (PySem.W.mroIn K D (.type "object") = some true)))))))
theorem ckX_ok {K : PySem.W.Frag} {D : Addr} (h : ckX K D = true) : ExcC K D := by
  unfold ckX at h
  simp only [Bool.and_eq_true, decide_eq_true_eq] at h
  obtain ⟨h1, h2, h3, h4, h5, h6, h7, h8⟩ := h
  exact ⟨h1, h2, h3, h4, h5, h6, h7, h8⟩
def ckC (cs Cs : List Str) (sub : Str → Str → Bool) (K : PySem.W.Frag) : Bool := cs.all fun c => ckX K (He.ga K c) && Cs.all fun C =>
  decide (PySem.W.exmOne K (.ref (He.ga K c)) (.ref (He.ga K C)) = some (sub c C)) && decide (PySem.W.kitOne K (.ref (He.ga K c)) (.ref (He.ga K C)) = some (sub c C))
theorem ckC_ok {K : PySem.W.Frag} {cs Cs : List Str} {sub : Str → Str → Bool} (h : ckC cs Cs sub K = true) : Clt K cs Cs sub := by
  have a : ∀ c ∈ cs, ckX K (He.ga K c) = true ∧ ∀ C ∈ Cs, PySem.W.exmOne K (.ref (He.ga K c)) (.ref (He.ga K C)) = some (sub c C) ∧ PySem.W.kitOne K (.ref (He.ga K c)) (.ref (He.ga K C)) = some (sub c C) := fun c m => by
    have z := List.all_eq_true.mp h c m
    obtain ⟨z1, z2⟩ := Bool.and_eq_true_iff.mp z
    refine ⟨z1, fun C mC => ?_⟩
    obtain ⟨y1, y2⟩ := Bool.and_eq_true_iff.mp (List.all_eq_true.mp z2 C mC)
    exact ⟨of_decide_eq_true y1, of_decide_eq_true y2⟩
  exact ⟨fun c m C mC => ((a c m).2 C mC).1, fun c m C mC => ((a c m).2 C mC).2, fun c m => ckX_ok (a c m).1⟩
/-- all of them stand right below ChoiceError -/
def subE (c C : Str) : Bool := decide (c = C) || decide (C = "ChoiceError")

/-! ### suites that look at the exception and end with a text -/
def Kn (n : Nat) (C : List (Nat × V)) (σ : L2.St) : Prop := n ≤ σ.length ∧ ∀ p ∈ C, σ[p.1]? = some (some p.2)
def PK (X : Cx) (n : Nat) (C : List (Nat × V)) (e : Expr) (b : Bool) : Prop := PE X e fun σ H Q => Kn n C σ ∧ Q (.bl b) H
def PKT (X : Cx) (n : Nat) (C : List (Nat × V)) (e : Expr) (b : Bool) : Prop := PT X e fun σ H Q => Kn n C σ ∧ Q b H
def PKW (X : Cx) (n : Nat) (C : List (Nat × V)) (e : Expr) (b : Bool) : Prop := PW X e fun σ H Q => Kn n C σ ∧ Q b H
def PKS (X : Cx) (n : Nat) (C : List (Nat × V)) (st : List Stmt) (z : Str) : Prop := PSs X st fun D σ H => Kn n C σ ∧ D.rt (.str z) H
theorem pe_imp {X : Cx} {e : Expr} {t t' : TE} (h : PE X e t) (k : ∀ σ H Q, t' σ H Q → t σ H Q) : PE X e t' := ⟨fun pins s σ H Q I w => h.run pins s σ H Q I (k _ _ _ w)⟩
theorem pt_imp {X : Cx} {e : Expr} {t t' : TT} (h : PT X e t) (k : ∀ σ H Q, t' σ H Q → t σ H Q) : PT X e t' := ⟨fun pins s σ H Q I w => h.run pins s σ H Q I (k _ _ _ w)⟩
theorem pw_imp {X : Cx} {e : Expr} {t t' : TT} (h : PW X e t) (k : ∀ σ H Q, t' σ H Q → t σ H Q) : PW X e t' := ⟨fun wh pins s σ H Q I w => h.run wh pins s σ H Q I (k _ _ _ w)⟩
theorem pss_imp {X : Cx} {e : List Stmt} {t t' : TS} (h : PSs X e t) (k : ∀ D σ H, t' D σ H → t D σ H) : PSs X e t' := ⟨fun pins s σ H Q I w => h.run pins s σ H Q I (k _ _ _ w)⟩
section
variable {X : Cx} {n : Nat} {C : List (Nat × V)} {a b e t : Expr} {rest : List Expr} {b1 b2 : Bool} {pos p p1 p2 p3 : Pos} {sts : List Stmt} {z : Str}
theorem pk_is {X : Cx} {c T x : Str} {cs Cs : List Str} {sub : Str → Str → Bool} {ad : Addr} {oe : Obj} {pn : List (Addr × Obj)} (i : Nat) (q : Clt X.K cs Cs sub) (hz : Zc (.ref (He.ga X.K c)) none oe) (hf : ∃ vs, oe.data = .fields vs) (hc : c ∈ cs) (hx : X.mg "isinstance" = none) (hg : Gl X "isinstance")
    (hT : T ∈ Cs) (gT : Gl X T) (mT : X.mg T = some (.ref (He.ga X.K T))) (pv : PE (X.suite ad ((ad, oe) :: pn)) (.Name x p1) (tVar i)) (hm : (i, V.ref ad) ∈ C) (hdT : (T == ("__debug__" : Str)) = false := by decide)
    (hs : starEach [.Name x p1, .Name T p2] X.env = (false, eval (.Name x p1) X.env) :: starEach [.Name T p2] X.env := by rfl) (hpl : (backTo pos (starEach [.Name T p2] X.env)).any (·.1) = false := by rfl) :
    PK (X.suite ad ((ad, oe) :: pn)) n C (.Call (.Name "isinstance" p) [.Name x p1, .Name T p2] [] pos) (sub c T) := by
  refine pe_imp (pe_callB (X := X.suite ad ((ad, oe) :: pn)) (call_isE (q.xc c hc) hz hf) hg hx PyProof.Rows.boot_isinstance (pa_cons pv (pa_cons (pe_glob (v := .ref (He.ga X.K T)) gT mT rfl hdT) pa_nil)) (by decide) (by decide) hs hpl) fun σ H Q w => ?_
  exact ⟨_, w.1.2 _ hm, _, _, _, rfl, fun _ r => r, q.ki c hc T hT, w.2⟩
theorem pk_var (i : Nat) (pv : PE X e (tVar i)) (hm : (i, V.bl b1) ∈ C) : PK X n C e b1 := pe_imp pv fun σ H Q w => ⟨_, w.1.2 _ hm, w.2⟩
theorem pk_one {op} (h : PK X n C a b1) : PK X n C (.BoolOp op [a] pos) b1 := pe_one h
theorem pk_or (ha : PK X n C a b1) (hb : PK X n C (.BoolOp .Or (b :: rest) pos) b2) : PK X n C (.BoolOp .Or (a :: b :: rest) pos) (b1 || b2) := pe_imp (pe_or ha hb) fun σ H Q w => ⟨w.1, b1, rfl, by
  cases b1 with
  | true => exact w.2
  | false => exact w⟩
theorem pkt_of (h : PK X n C a b1) (he : ∀ whole, isTrue a X.env whole = (do let v ← whole; standAt a.pos; holding [v] (truthy v)) := by intro _; rfl) : PKT X n C a b1 := pt_imp (pt_truth h he) fun σ H Q w => ⟨w.1, b1, rfl, w.2⟩
theorem pkt_not (h : PKT X n C a b1) : PKT X n C (.UnaryOp .Not a pos) (!b1) := pt_imp (pt_not h) fun σ H Q w => w
theorem pkw_and1 (h : PKT X n C a b1) : PKW X n C (.BoolOp .And [a] pos) b1 := pw_and1 h
theorem pkw_and (ha : PKT X n C a b1) (hb : PKW X n C (.BoolOp .And (b :: rest) pos) b2) : PKW X n C (.BoolOp .And (a :: b :: rest) pos) (b1 && b2) := pw_imp (pw_and ha hb) fun σ H Q w => ⟨w.1, by
  cases b1 with
  | true => exact w
  | false => exact w.2⟩
theorem pkw_t (h : PKW X n C a b1) : PKT X n C a b1 := PW.pt h
theorem pks_ret {x y : Str} {j k : Nat} (h : PKT X n C t b1) : PKS X n C [.Return (some (.IfExp t (.Constant (.str x) j p1) (.Constant (.str y) k p2) p)) pos] (bif b1 then x else y) :=
  pss_imp (pss_one (ps_ret (pe_ifExp h pe_str pe_str))) fun D σ H w => ⟨w.1, by
    cases b1 with
    | true => exact w.2
    | false => exact w.2⟩
theorem pks_set {x : Str} (i : Nat) (hN : X.N.Nodup) (hi : X.N[i]? = some x) (hx : Loc X.env.scope x) (h : PK X n C e b1) (hsw : swapsWithSole [.Name x p] e pos.line X.env = pure false) (hw : swappedStores [.Name x p] e X.env = pure none) (h1 : (assignEach [.Name x p] X.env).map (·.2) = [assign (.Name x p) X.env])
    (hr : PKS X n ((i, .bl b1) :: C) sts z) (ln : i < n) (hC : ∀ q ∈ C, q.1 ≠ i) (hf : X.fn x = true ∨ X.env.scope.names.lookup x = some .local) : PKS X n C (.Assign [.Name x p] e pos :: sts) z :=
  pss_imp (pss_cons (ps_asg h (pg_name hN hi hx hf) hsw hw h1) hr) fun D σ H w => ⟨w.1, by
    refine ⟨⟨?_, ?_⟩, w.2⟩
    · rw [List.length_set]
      exact w.1.1
    · intro q m
      rcases List.mem_cons.mp m with e | m
      · subst e
        exact List.getElem?_set_self (Nat.lt_of_lt_of_le ln w.1.1)
      · rw [List.getElem?_set_ne (Ne.symm (hC q m))]
        exact w.1.2 q m⟩
end
/-! ### try -/
/-- an exception of class c meets the clauses -/
def pick (sub : Str → Str → Bool) (c : Str) : List (Str × (Str → Str)) → Option Str
  | [] => none
  | (C, g) :: l => if sub c C then some (g c) else pick sub c l
def sTry (n : Nat) (cs : List Str) (sub : Str → Str → Bool) (cl : List (Str × (Str → Str))) (fb : En → O) : En → O := fun r => match fb r with
  | .exc c none r' => if c ∈ cs ∧ n ≤ r'.length then (match pick sub c cl with
    | some z => .rt (.str z)
    | none => .exc c none r') else .bad
  | .exc _ (some _) _ => .bad
  | o => o
inductive ClV (X : Cx) (n : Nat) (cs : List Str) (sub : Str → Str → Bool) : List ExceptHandler → List (Str × (Str → Str)) → Prop
  | nil : ClV X n cs sub [] []
  | cons {x nm : Str} {i : Nat} {g : Str → Str} {st : Stmt} {sts : List Stmt} {np p : Pos} {hds : List ExceptHandler} {l : List (Str × (Str → Str))} (hi : X.N[i]? = some nm) (hn : i < n) (hl : X.env.kindOf nm = some .local) (hc : Names X x (.ref (He.ga X.K x)))
      (hx : ∀ c ∈ cs, PySem.W.exmOne X.K (.ref (He.ga X.K c)) (.ref (He.ga X.K x)) = some (sub c x))
      (hsu : ∀ c ∈ cs, ∀ (a : Addr) (oe : Obj) (pn : List (Addr × Obj)), Zc (.ref (He.ga X.K c)) none oe → (∃ vs, oe.data = .fields vs) → PKS (X.suite a ((a, oe) :: pn)) n [(i, .ref a)] (st :: sts) (g c)) (r : ClV X n cs sub hds l) :
      ClV X n cs sub (.ExceptHandler (some (.Name x np)) (some nm) (st :: sts) p :: hds) ((x, g) :: l)
def tCanS (W : WN) (f : En → O) : TS := fun D σ H => ∃ F G r, Rep F G r σ H ∧ Acc W F G D (f r)
theorem VSs.can {X : Cx} {W : WN} {sts : List Stmt} {t : TS} {f : En → O} (h : VSs X W sts t f) : PSs X sts (tCanS W f) := pss_imp h.ps fun D σ H ⟨F, G, r, q, a⟩ => h.so F G r σ H q D a
theorem clv_ok {X : Cx} {n : Nat} {cs : List Str} {sub : Str → Str → Bool} {hds : List ExceptHandler} {l : List (Str × (Str → Str))} (h : ClV X n cs sub hds l) : ∃ ls, ClOk X hds ls ∧
    ∀ (Wo : WX) (D : Ends) (c : Str) (σ : L2.St) (H : Hp), c ∈ cs → n ≤ σ.length → (match pick sub c l with
      | some z => D.rt (.str z) H
      | none => Wo (.ref (He.ga X.K c)) none σ H) → wCl X.K Wo D ls (.ref (He.ga X.K c)) none σ H := by
  induction h with
  | nil => exact ⟨[], .nil, fun Wo D c σ H _ _ w => w⟩
  | @cons x nm i g st sts np p hds l hi hn hl hc hx hsu r ih =>
    obtain ⟨ls, h1, h2⟩ := ih
    refine ⟨(.ref (He.ga X.K x), i, fun a cls d D σ H => ∃ c, c ∈ cs ∧ cls = .ref (He.ga X.K c) ∧ d = none ∧ Kn n [(i, .ref a)] σ ∧ D.rt (.str (g c)) H) :: ls, .cons hi hl hc (fun a oe cls d pn hz hf => ?_) h1, fun Wo D c σ H m ln w => ?_⟩
    · refine ⟨fun pins s σ H D I w => ?_⟩
      obtain ⟨c, m, rfl, rfl, k, w⟩ := w
      exact (hsu c m a oe pn hz hf).run pins s σ H D I ⟨k, w⟩
    · refine ⟨sub c x, hx c m, fun e a na => ⟨c, m, rfl, rfl, ⟨?_, ?_⟩, ?_⟩, fun e => h2 Wo D c σ H m ln ?_⟩
      · rw [List.length_set]
        exact ln
      · intro q mq
        cases List.mem_singleton.mp mq
        exact List.getElem?_set_self (Nat.lt_of_lt_of_le hn ln)
      · unfold pick at w
        rw [if_pos e] at w
        exact w
      · unfold pick at w
        rw [if_neg (by rw [e]; exact Bool.false_ne_true)] at w
        exact w
theorem vs_try {X : Cx} {W : WN} {n : Nat} {cs : List Str} {sub : Str → Str → Bool} {body : List Stmt} {hd : ExceptHandler} {hds : List ExceptHandler} {l : List (Str × (Str → Str))} {pos : Pos} {fb : En → O} (hs : X.stack = X.env :: X.outer) (hf : X.env.frame = some X.env.locals) (hN : X.N.Nodup) (tk : Takes X (wx X.K W))
    (hb : ∀ (W' : WN) (pn : List (Addr × Obj)) (xe : Value → Shared → Prop), Takes (X.tr pn xe) (wx X.K W') → PassesOwn (model X.prog X.w) X.A X.env xe → ∃ t, VSs (X.tr pn xe) W' body t fb) (hh : ClV X n cs sub (hd :: hds) l) :
    ∃ t, VS X W (.Try body (hd :: hds) [] [] pos) t (sTry n cs sub l fb) := by
  obtain ⟨ls, h1, h2⟩ := clv_ok hh
  refine ⟨_, ps_tryN (tb := fun Wx => tCanS (fun c d σ H => Wx (.ref (He.ga X.K c)) d σ H) fb) hs hf hN tk (fun Wx pn xe tk' po => ?_) h1, fun F G r σ H q D a => ⟨F, G, r, q, ?_⟩⟩
  · obtain ⟨t, v⟩ := hb (fun c d σ H => Wx (.ref (He.ga X.K c)) d σ H) pn xe (takes_wx tk') po
    exact v.can
  · unfold sTry at a
    cases e : fb r with
    | nx r' => rw [e] at a; exact a
    | rt d => rw [e] at a; exact a
    | bk r' => rw [e] at a; exact a
    | ct r' => rw [e] at a; exact a
    | bad => rw [e] at a; exact a
    | exc c fs r' =>
      rw [e] at a
      cases fs with
      | some fs => exact (show False from a).elim
      | none =>
        intro x σ' G' H' s q' hx
        cases hx
        have a' : Acc W F G D (if c ∈ cs ∧ n ≤ r'.length then (match pick sub c l with
          | some z => .rt (.str z)
          | none => .exc c none r') else .bad) := a
        by_cases k : c ∈ cs ∧ n ≤ r'.length
        · rw [if_pos k] at a'
          refine h2 _ D c σ' H' k.1 (q'.len ▸ k.2) ?_
          cases ep : pick sub c l with
          | some z =>
            rw [ep] at a'
            exact a' _ G' H' s q'.sub q'.fr (.str z)
          | none =>
            rw [ep] at a'
            exact ⟨c, rfl, a' none σ' G' H' s q' rfl⟩
        · rw [if_neg k] at a'
          exact a'.elim
end DL
namespace DL
open PySem L2
/-! ### an instance whose __init__ raises -/
def runI (N : List Str) (fb : En → O) (ds : List PyData) : R PyData := match fb (.un :: (ds.map Sl.dat ++ List.replicate (N.length - 1 - ds.length) .un)) with
  | .exc c fs _ => .exc c fs
  | _ => .bad
def spI (K : PySem.W.Frag) (n : Nat) (Ff : List PyData → R PyData) : Sp := fun vs H Q E => vs.length = n + 1 ∧ ∃ ds G, Same G H ∧ DeAll G (vs.drop 1) ds ∧ match Ff ds with
  | .exc c fs => ∀ x G' H', Ext G H G' H' → XR G' H' x fs → E (.ref (He.ga K c)) x H'
  | _ => False
abbrev FI (P : Program) (w : World) (K : PySem.W.Frag) (mg : Str → Option Value) (base : Heap) (k : Nat) (f : Addr) (fd : FuncData) (ps : List Str) (n : Nat) (Ff : List PyData → R PyData) : Prop := FnOk P w K mg base (L2.CX P w) k f fd ps (spI K n Ff)
theorem rep_startI {G H : Hp} {v : V} {vs : List V} {ds : List PyData} (s : Same G H) (h : DeAll G vs ds) (N : List Str) (hl : vs.length + 1 ≤ N.length) : Rep (frameOf G H) G (.un :: (ds.map Sl.dat ++ List.replicate (N.length - 1 - ds.length) Sl.un)) (L2.start N (v :: vs)) H where
  sub := s
  fr := fun a o e => ⟨(frameOf_some e).1, .inl (frameOf_some e).2⟩
  len := by
    have := h.len
    simp [L2.start]
    omega
  dat := fun i d q => by
    cases i with
    | zero => cases q
    | succ i =>
      obtain ⟨u, h1, h2⟩ := h.get (getmap_dat (by simpa using q))
      refine ⟨u, ?_, h2⟩
      have hi : i < vs.length := (List.getElem?_eq_some_iff.mp h1).1
      unfold L2.start
      rw [List.getElem?_append_left (by simpa using hi), List.getElem?_map, List.getElem?_cons_succ, h1]
      rfl
  own := fun i ds q => by
    cases i with
    | zero => cases q
    | succ i => exact (getmap_own (by simpa using q)).elim
  sep := fun i j ds es p _ q => by
    cases i with
    | zero => cases q
    | succ i => exact (getmap_own (by simpa using q)).elim
  obj := by
    have no : ∀ (i : Nat) (o : OB), (Sl.un :: (ds.map Sl.dat ++ List.replicate (N.length - 1 - ds.length) Sl.un))[i]? = some (.obj o) → False := fun i o q => by
      cases i with
      | zero => cases q
      | succ i => exact getmap_obj (by simpa using q)
    exact ⟨fun _ => [], fun i o q => (no i o q).elim, fun i o q => (no i o q).elim, fun i o q => (no i o q).elim, fun i j o u _ q => (no i o q).elim, fun i j o es p q => (no i o q).elim⟩
section
variable {P : Program} {w : World} {K : PySem.W.Frag} {mg : Str → Option Value} {base : Heap}
theorem fi_of {x qual : Str} {params : Arguments} {body : List Stmt} {scope : Scope} {f : Addr} {fd : FuncData} {N ps : List Str} {k : Nat} {fb : En → O} (Fn : FunD K x qual params body scope [] [] f fd) (S : FnScope N ps scope)
    (hbody : ∀ (cdv : Value) (A : Around) (outer : List Env) (s : Shared) (H : Hp) (E : XK), Room k (A.deeper (PyProof.Rows.envOfC qual scope s.heap.objs.size f cdv)) →
      ∃ t, VSs (cxOf (L2.CX P w) P w K mg base N qual scope f cdv A outer s H E) (fun c d _ H => E (.ref (He.ga K c)) d H) body t fb) (n : Nat) (hn : ps.length = n + 1) : FI P w K mg base (k + 1) f fd ps n (runI N fb) := by
  refine Fn.ok S (fun vs H Q E h => h.1.trans hn.symm) fun cdv A outer s H vs Q E hr h => ?_
  obtain ⟨t, hv⟩ := hbody cdv A outer s H E hr
  obtain ⟨hl, ds, G, sg, hd, hq⟩ := h
  refine ⟨t, hv.ps, ?_⟩
  have hN : vs.length ≤ N.length := by
    have e := congrArg List.length S.pre
    rw [List.length_take] at e
    omega
  obtain ⟨v, vs', rfl⟩ : ∃ v vs', vs = v :: vs' := by
    cases vs with
    | nil => cases hl
    | cons v r => exact ⟨v, r, rfl⟩
  refine hv.so (frameOf G H) G _ _ H (rep_startI sg hd N hN) _ ?_
  unfold runI at hq
  cases e : fb (.un :: (ds.map Sl.dat ++ List.replicate (N.length - 1 - ds.length) Sl.un)) with
  | exc c fs r =>
    rw [e] at hq
    exact fun x σ' G' H' gg q xr => hq x G' H' (ext_end sg gg q.sub q.fr) xr
  | nx r => rw [e] at hq; exact hq.elim
  | rt d => rw [e] at hq; exact hq.elim
  | bk r => rw [e] at hq; exact hq.elim
  | ct r => rw [e] at hq; exact hq.elim
  | bad => rw [e] at hq; exact hq.elim
end
section
variable {X : Cx} {CX : CXT} {k : Nat} {f C : Addr} {fd : FuncData} {ps : List Str} {sp : Sp} {E : XK} {x : Str} {p pos : Pos} {e : Expr} {es : List Expr} {t : TA} {W : WN} {fs : En → R (List PyData)}
/-- C(..), what is raised wished for at the caller's slots -/
theorem call_makeS {pins : List (Addr × Obj)} {σ : L2.St} {H : Hp} {s : Shared} {Q : VK} {us : List Value} {vs : List V} (M : Mk X.K C f) (F : FnOk X.prog X.w X.K X.mg X.base CX k f fd ps sp) (hr : Room (k + 1) X.A) (hb : Binds X.K fd ps [])
    (hx : PassesAt CX X σ E) (I : Inv X pins σ H s) (r : Vals vs us)
    (h : ∀ a da, H a = none → H da = none → da ≠ a → sp (.ref a :: vs) (upd (upd H da (.own a)) a (.ins C da [])) (fun v H2 => v = .non ∧ Q (.ref a) H2) E) :
    wpAny (model X.prog X.w) X.A (call (.ref C) us) (EP X pins σ Q) X.xe s := by
  have z := h (s.heap.objs.size + 1) s.heap.objs.size (I.hok.fresh (Nat.le_succ _)) (I.hok.fresh (Nat.le_refl _)) (Nat.ne_of_lt (Nat.lt_succ_self _))
  have J := Inv.made (C := C) I
  have rr : Vals (V.ref (s.heap.objs.size + 1) :: vs) (Value.ref (s.heap.objs.size + 1) :: us) := .cons rfl r
  have len : (Value.ref (s.heap.objs.size + 1) :: us ++ []).length = ps.length := by
    rw [List.append_nil, ← rr.length, F.len _ _ _ _ z]
  have bt := hb _ (Value.ref (s.heap.objs.size + 1) :: us) J.kIn len
  rw [List.append_nil] at bt
  refine wpAny_call (make_map (f := f) I.kIn M.makes M.init (beq_iff_eq.mp M.fn) (codeAny_mono (F.run _ X.stack _ _ ⟨Value.ref (s.heap.objs.size + 1) :: us, []⟩ _ _ _ E (hr.make C us []) (J.env0.make C us []) bt rr z) fun o s' zo => ?_))
  cases o with
  | error e => exact hx pins _ _ e s' J zo
  | ok fl =>
    cases fl with
    | ret u =>
      obtain ⟨v, H', J3, rv, ev, q3⟩ := J.after zo
      subst ev
      exact ⟨rv, V.ref (s.heap.objs.size + 1), H', J3, rfl, q3⟩
    | next => exact zo.elim
    | brk => exact zo.elim
    | cont => exact zo.elim
def tMakeS (C : Addr) (sp : Sp) (E : L2.St → XK) (t : TA) : TE := fun σ H Q => t σ H fun vs H1 => ∀ a da, H1 a = none → H1 da = none → da ≠ a →
  sp (.ref a :: vs) (upd (upd H1 da (.own a)) a (.ins C da [])) (fun v H2 => v = .non ∧ Q (.ref a) H2) (E σ)
theorem pe_makeS {E : L2.St → XK} (M : Mk X.K C f) (F : FnOk X.prog X.w X.K X.mg X.base CX k f fd ps sp) (hr : Room (k + 1) X.A) (hg : Gl X x) (hm : X.mg x = some (.ref C)) (hb : Binds X.K fd ps []) (hx : ∀ σ, PassesAt CX X σ (E σ))
    (ha : PA X (e :: es) t) (hdb : (x == ("__debug__" : Str)) = false := by decide) (he : starEach (e :: es) X.env = (false, eval e X.env) :: starEach es X.env := by rfl) (hpl : (backTo pos (starEach es X.env)).any (·.1) = false := by rfl) :
    PE X (.Call (.Name x p) (e :: es) [] pos) (tMakeS C sp E t) := by
  refine ⟨fun pins s σ H Q I h => wpAny_Call_Name_kw (ld_glob I hg hm ?_ hdb)⟩
  refine PySem.W.callWith_K (h₀ := X.base) I.ok.mod.kin M.kp (thn (ha.run pos pins s σ H _ I h) ?_) he hpl
  rintro us s1 ⟨vs, H1, J, r, q⟩
  exact ⟨J.kIn, call_makeS M F hr hb (hx σ) J r q⟩
/-- a class whose making always raises, at these data -/
def CalI (P : Program) (w : World) (K : PySem.W.Frag) (mg : Str → Option Value) (base : Heap) (x : Str) (k n : Nat) (Ff : List PyData → R PyData) : Prop :=
  ∃ f fd ps, FI P w K mg base k f fd ps n Ff ∧ mg x = some (.ref (He.ga K x)) ∧ Mk K (He.ga K x) f ∧ Binds K fd ps []
/-- where the class's making raises -/
def excO (r : R PyData) : R PyData := match r with
  | .exc c fs => .exc c fs
  | _ => .bad
theorem two_ext {G H : Hp} {a da : Addr} {o1 o2 : HO} (s : Same G H) (h1 : H a = none) (h2 : H da = none) (ne : da ≠ a) : Ext G H G (upd (upd H da o1) a o2) := by
  have e1 : Ext G H G (upd H da o1) := Ext.fresh s h2
  have e2 : (upd H da o1) a = none := by rw [upd_ne (Ne.symm ne)]; exact h1
  exact e1.trans (Ext.fresh e1.gh e2)
theorem z_make {k n : Nat} {Ff : List PyData → R PyData} (cl : CalI X.prog X.w X.K X.mg X.base x k n Ff) (hr : Room (k + 1) X.A) (hg : Gl X x) (tk : Takes X (wx X.K W)) (ha : VA X W (e :: es) t fs) (hn : (e :: es).length = n := by rfl)
    (hdb : (x == ("__debug__" : Str)) = false := by decide) (he : starEach (e :: es) X.env = (false, eval e X.env) :: starEach es X.env := by rfl) (hpl : (backTo pos (starEach es X.env)).any (·.1) = false := by rfl) :
    VE X W (.Call (.Name x p) (e :: es) [] pos) (tMakeS (He.ga X.K x) (spI X.K n Ff) (WE (wx X.K W)) t) (cA (fun ds => excO (Ff ds)) fs) := by
  obtain ⟨f, fd, ps, Fn, hm, M, hb⟩ := cl
  refine ⟨pe_makeS M Fn hr hg hm hb (fun σ => passAt tk σ) ha.pa hdb he hpl, fun F G r σ H q => ?_⟩
  refine sd_bindA (t' := fun vs σ H1 Q => ∀ a da, H1 a = none → H1 da = none → da ≠ a → spI X.K n Ff (.ref a :: vs) (upd (upd H1 da (.own a)) a (.ins (He.ga X.K x) da [])) (fun v H2 => v = .non ∧ Q (.ref a) H2) (WE (wx X.K W) σ)) mE (ha.so F G r σ H q) fun ds vs G1 H1 e0 e1 p1 => ?_
  have l := p1.len
  have l2 := ha.len r ds e0
  cases ef : Ff ds with
  | ok d => exact trivial
  | bad => exact trivial
  | exc c fs0 =>
    intro k Q a da n1 n2 ne
    refine ⟨?_, ds, G1, (two_ext e1.gh n1 n2 ne).gh, p1, ?_⟩
    · simp only [List.length_cons]
      omega
    · rw [ef]
      intro x' G' H' ex xr
      exact ⟨c, rfl, k x' G' H' ((two_ext e1.gh n1 n2 ne).trans ex) xr⟩
end
end DL
namespace DL
open PySem PySem.Spec PyProof.Rows L2 HT
/-! ### t[::-1] -/
theorem places_rev (n : Nat) : Builtin.Slice.slicePlaces ((n : Int) - 1) (-1) (-1) = n := by
  unfold Builtin.Slice.slicePlaces
  rw [if_neg (by decide)]
  by_cases h : ((n : Int) - 1) > -1
  · rw [if_pos h]
    have e : ((n : Int) - 1 - -1 - 1) / (- -1) + 1 = (n : Int) := by
      rw [show (- -1 : Int) = 1 by decide, Int.ediv_one]
      omega
    rw [e]
    exact Int.toNat_natCast n
  · rw [if_neg h]
    have : n = 0 := by omega
    subst this
    rfl
theorem fm_congr {α β : Type} {f g : α → Option β} : ∀ {l : List α}, (∀ x ∈ l, f x = g x) → l.filterMap f = l.filterMap g
  | [], _ => rfl
  | x :: r, h => by
    rw [List.filterMap_cons, List.filterMap_cons, h x List.mem_cons_self, fm_congr fun y m => h y (List.mem_cons_of_mem _ m)]
theorem pick_rev (xs : Array Value) : ((List.range xs.size).filterMap fun (k : Nat) => xs[((xs.size : Int) - 1 + (k : Int) * -1).toNat]?).toArray = xs.toList.reverse.toArray := by
  have e : ((List.range xs.size).filterMap fun (k : Nat) => xs[((xs.size : Int) - 1 + (k : Int) * -1).toNat]?) = ((List.range xs.size).map fun k => xs.size - 1 - k).filterMap (xs[·]?) := by
    rw [List.filterMap_map]
    refine fm_congr fun k hk => ?_
    have := List.mem_range.mp hk
    show xs[((xs.size : Int) - 1 + (k : Int) * -1).toNat]? = xs[xs.size - 1 - k]?
    rw [show ((xs.size : Int) - 1 + (k : Int) * -1).toNat = xs.size - 1 - k by omega]
  rw [e, PySem.W.krv_range, List.filterMap_reverse, PySem.W.krv_all]
section
variable {prog : Program} {w : World} {A : Around} {E : Value → Shared → Prop} {s : Shared}
theorem sliceApplied_rev {sl : Addr} {vs : Value} {n : Nat} {Q : Int × Int × Nat → Shared → Prop} (hs : s.heap.IsSliceOf sl .none .none vs) (ps : IsPart vs (some (-1)))
    (h : Q ((n : Int) - 1, -1, n) s) : wpAny (model prog w) A (Builtin.Slice.sliceApplied (.ref sl) (pure (n : Int))) Q E s := by
  obtain ⟨os, g, _, dd⟩ := id hs
  unfold Builtin.Slice.sliceApplied Builtin.Slice.sliceFields
  refine wpAny_bind (wpAny_bind (wpAny_field g dd (x := .none) rfl (wpAny_bind (wpAny_field g dd (x := .none) rfl (wpAny_bind (wpAny_field g dd (x := vs) rfl (wpAny_pure ?_)))))))
  refine wpAny_bind (slicePart_ ps ?_)
  show wpAny _ _ (if ((-1 : Int) == 0) = true then _ else _) _ _ s
  rw [if_neg (by decide)]
  refine wpAny_bind (slicePart_ .none (wpAny_bind (slicePart_ .none (wpAny_bind (wpAny_pure ?_)))))
  show wpAny _ _ (pure ((n : Int) - 1, (-1 : Int), Builtin.Slice.slicePlaces ((n : Int) - 1) (-1) (-1))) _ _ s
  rw [places_rev]
  exact wpAny_pure h
theorem getItem_tuple_rev {t sl : Addr} {items : Array Value} {vs : Value} {Q : Value → Shared → Prop} (ht : IsTup s.heap t items) (hs : s.heap.IsSliceOf sl .none .none vs) (ps : IsPart vs (some (-1)))
    (h : Q (.ref s.heap.objs.size) { s with heap := s.heap.push { cls := .type "tuple", data := .seq items.toList.reverse.toArray } }) (hsz : items.size ≤ sizeLine) : wpAny (model prog w) A (getItem (.ref t) (.ref sl)) Q E s := by
  have fits : sizeOk (.seq items.toList.reverse.toArray) := by
    show items.toList.reverse.toArray.size ≤ sizeLine
    rw [List.size_toArray, List.length_reverse, Array.length_toList]
    exact hsz
  obtain ⟨os, g, cs, _⟩ := id hs
  have ty : s.TypeIs (.ref sl) "slice" := ⟨os, g, cs⟩
  unfold getItem
  try with_reducible refine wpAny_holding ?_
  first | refine wpAny_bind (wpAny_pure ?_) | skip
  refine wpAny_bind (wpAny_sequenceKey ht.typeIs (by decide) ?_)
  refine wpAny_bind (wpAny_callSpecial?_slot (name := Str.ofString "__getitem__") ht.typeIs slot_tuple_getitem (wpAny_call_entry slot_tuple_getitem ht.typeIs entry_tuple_getitem ?_ (args_tuple_getitem _ _)))
  show wpAny _ _ (Builtin.Tuple.tupleItemsOf (.ref t) >>= fun _ => _) _ _ s
  refine wpAny_bind (tupleItemsOf_ ht (wpAny_bind (wpAny_typeOf ty ?_)))
  rw [if_pos (by decide)]
  refine wpAny_bind (sliceApplied_rev hs ps ?_)
  have no : ¬ ((((items.size : Int) - 1) == 0 && (-1 : Int) == 1 && items.size == items.size) = true) := by
    intro q
    rw [Bool.and_eq_true, Bool.and_eq_true] at q
    exact absurd q.1.2 (by decide)
  show wpAny _ _ (if (((items.size : Int) - 1) == 0 && (-1 : Int) == 1 && items.size == items.size) = true then _ else _) _ _ s
  rw [if_neg no, pick_rev]
  first
    | exact wpAny_bind (m := Builtin.Tuple.tupleExact _) (wpAny_newObj_type (wpAny_pure ⟨_, rfl, wpAny_pure h⟩) fits)
    | exact wpAny_bind (m := Builtin.Tuple.tupleExact _) (wpAny_newObj_type (wpAny_bind (wpAny_pure (wpAny_pure ⟨_, rfl, wpAny_pure h⟩))) fits)
    | exact wpAny_bind (wpAny_bind (m := Builtin.Tuple.tupleExact _) (wpAny_newObj_type (wpAny_pure (wpAny_pure ⟨_, rfl, wpAny_pure h⟩)) fits))
    | exact wpAny_bind (wpAny_bind (m := Builtin.Tuple.tupleExact _) (wpAny_newObj_type (wpAny_pure ⟨_, rfl, wpAny_pure h⟩) fits))
end
def tRevT (K : PySem.W.Frag) (te : TE) : TE := fun σ H Q => te σ H fun x H1 => ∃ a xs, x = .ref a ∧ SqT K H1 a xs ∧ ∀ p, H1 p = none → Q (.ref p) (upd H1 p (.tup xs.reverse))
theorem pe_revT {X : Cx} {e : Expr} {te : TE} {k : Nat} {p1 p2 p3 pos : Pos} (he : PE X e te) : PE X (.Subscript e (.Slice none none (some (.UnaryOp .USub (.Constant (.int 1) k p1) p2)) p3) pos) (tRevT X.K te) := by
  refine ⟨fun pins s σ H Q I h => Subscript_ (thn (he.run pins s σ H _ I h) ?_)⟩
  rintro v s1 ⟨x, H1, J, r1, a, xs, rfl, hx, q⟩
  cases r1
  have st : PO X (some (.UnaryOp .USub (.Constant (.int 1) k p1) p2)) (tPart (tUn (rU fun i => .int (-i)) (tC (.int 1)))) := po_some (pe_un un_neg pe_int)
  refine wpAny_Slice ?_
  rw [evalPart_none]
  refine wpAny_pure (wpAny_pure ?_)
  refine thn (st.run pins s1 σ H1 (fun o H4 => o = some (-1) ∧ H4 = H1) J ⟨1, rfl, -1, rfl, rfl, rfl⟩) ?_
  rintro vs s4 ⟨o, H4, J4, ps, rfl, rfl⟩
  have J5 : Inv X pins σ H4 { s4 with heap := s4.heap.push { cls := .type "slice", data := .fields #[.none, .none, vs] } } := J4.kept (t' := s4.toks) fun b ob z => Heap.get?_push_of_some _ z
  obtain ⟨its, r, ht, hz⟩ := J5.tuple hx
  have hlen := r.length
  show wpAny (model X.prog X.w) X.A (subscriptTail e (.Slice none none (some (.UnaryOp .USub (.Constant (.int 1) k p1) p2)) p3) (.ref a) (.ref s4.heap.objs.size)) (EP X pins σ Q) X.xe _
  refine tail_any (ops := [.ref a, .ref s4.heap.objs.size]) ht.typeIs slot_tuple_getitem.lookup ?_ (by with_unfolding_all rfl)
  refine getItem_tuple_rev ht (Heap.IsSliceOf.new _ .none .none vs) ps ?_ (by rw [List.size_toArray]; omega)
  refine ⟨.ref _, _, J5.laid (t' := s4.toks) (o := .tup xs.reverse) (fun b ob z => Heap.get?_push_of_some _ z) (Nat.le_refl _) ?_, rfl, q _ (J5.hok.fresh (Nat.le_refl _))⟩
  exact ⟨by rw [List.length_reverse]; exact hz, _, r.reverse, IsTup.new _ _⟩
def revD : PyData → R PyData
  | .tuple ds => .ok (.tuple ds.reverse)
  | _ => .bad
theorem DeAll.append1 {G : Hp} : ∀ {vs us : List V} {ds es : List PyData}, DeAll G vs ds → DeAll G us es → DeAll G (vs ++ us) (ds ++ es)
  | _, _, _, _, .nil, h => h
  | _, _, _, _, .cons a b, h => .cons a (DeAll.append1 b h)
theorem DeAll.rev {G : Hp} : ∀ {vs : List V} {ds : List PyData}, DeAll G vs ds → DeAll G vs.reverse ds.reverse
  | _, _, .nil => .nil
  | _, _, .cons a b => by
    rw [List.reverse_cons, List.reverse_cons]
    exact DeAll.append1 (DeAll.rev b) (.cons a .nil)
theorem ve_rev {X : Cx} {W : WN} {a : Expr} {ta : TE} {fa : En → R PyData} {k : Nat} {p1 p2 p3 pos : Pos} (ha : VB X W a ta fa) : VE X W (.Subscript a (.Slice none none (some (.UnaryOp .USub (.Constant (.int 1) k p1) p2)) p3) pos) (tRevT X.K ta) (c1 revD fa) := by
  refine ⟨pe_revT ha.pe, fun F G r σ H q => ?_⟩
  refine sd_bind (t' := fun x _ H1 Q => ∃ a xs, x = .ref a ∧ SqT X.K H1 a xs ∧ ∀ p, H1 p = none → Q (.ref p) (upd H1 p (.tup xs.reverse))) mE (ha.so F G r σ H q) fun d v G1 H1 _ e1 p1 => ?_
  cases d with
  | tuple ds =>
    obtain ⟨a, vs, rfl, h1, h2⟩ := p1.tup
    exact sd_eq (sd_tup e1.gh h2.rev) fun Q z => ⟨a, vs, rfl, slT (rdm e1.gh h1), z⟩
  | _ => trivial
end DL
namespace DL
open PySem L2
theorem z_try {X : Cx} {W : WN} {n : Nat} {cs : List Str} {sub : Str → Str → Bool} {body : List Stmt} {hd : ExceptHandler} {hds : List ExceptHandler} {l : List (Str × (Str → Str))} {pos : Pos} {fb : En → O} (hs : X.stack = X.env :: X.outer) (hf : X.env.frame = some X.env.locals) (hN : X.N.Nodup) (tk : Takes X (wx X.K W))
    (hb : ∀ (W' : WN) (pn : List (Addr × Obj)) (xe : Value → Shared → Prop), Takes (X.tr pn xe) (wx X.K W') → PassesOwn (model X.prog X.w) X.A X.env xe → ∃ t, VSs (X.tr pn xe) W' body t fb) (hh : ClV X n cs sub (hd :: hds) l) :
    VS X W (.Try body (hd :: hds) [] [] pos) (tCanS W (sTry n cs sub l fb)) (sTry n cs sub l fb) := by
  obtain ⟨t, v⟩ := vs_try (W := W) (pos := pos) hs hf hN tk hb hh
  exact ⟨⟨fun pins s σ H D I w => v.ps.run pins s σ H D I (w.elim fun F w => w.elim fun G w => w.elim fun r w => v.so F G r σ H w.1 D w.2)⟩, fun F G r σ H q D a => ⟨F, G, r, q, a⟩⟩
/-- a class's method, by its place -/
def methS (s : Stmt) (j : Nat) : Stmt := match s with
  | .ClassDef _ _ _ body _ _ _ _ _ _ _ => body.getD j (.Pass ⟨0, 0, 0, 0⟩)
  | _ => .Pass ⟨0, 0, 0, 0⟩
theorem exOk_of {K : PySem.W.Frag} {mg : Str → Option Value} {x : Str} (g : mg x = some (.ref (He.ga K x))) (c : (He.Fa.exc x).ok K = true) : ExOk K mg x := by
  have c2 : (PySem.W.excIn K (He.ga K x) He.veBase "ValueError.__new__" && (PySem.W.keepIn K (.ref (He.ga K x)) && (decide (PySem.W.subIn K (.ref (He.ga K x)) (.type "BaseException") = some true) && decide (PySem.W.typeIn K (.ref (He.ga K x)) = some (.type "type"))))) = true := c
  simp only [Bool.and_eq_true, decide_eq_true_eq] at c2
  obtain ⟨h1, h2, h3, h4⟩ := c2
  exact ⟨g, h1, h2, h3, h4⟩
end DL
namespace DL
open PySem PySem.Spec PyProof.Rows L2
/-! ### sorted(set(t)), t a tuple of whole numbers -/
/-- each once, of a sorted list -/
def onceS : List Int → List Int
  | a :: b :: r => if a = b then onceS (b :: r) else a :: onceS (b :: r)
  | l => l
theorem onceS_mem : ∀ (l : List Int) (k : Int), k ∈ onceS l ↔ k ∈ l
  | [], _ => Iff.rfl
  | [a], _ => Iff.rfl
  | a :: b :: r, k => by
    have ih := onceS_mem (b :: r) k
    unfold onceS
    by_cases h : a = b
    · rw [if_pos h, ih, h]
      simp
    · rw [if_neg h, List.mem_cons, ih, ← List.mem_cons]
theorem onceS_lt : ∀ {l : List Int}, l.Pairwise (· ≤ ·) → (onceS l).Pairwise (· < ·)
  | [], _ => .nil
  | [a], _ => List.pairwise_singleton _ _
  | a :: b :: r, h => by
    cases h with
    | cons h1 h2 =>
      have ih := onceS_lt h2
      unfold onceS
      by_cases e : a = b
      · rw [if_pos e]
        exact ih
      · rw [if_neg e]
        refine .cons (fun k m => ?_) ih
        have m2 := (onceS_mem (b :: r) k).mp m
        have ab := h1 b List.mem_cons_self
        rcases List.mem_cons.mp m2 with rfl | m3
        · omega
        · have bk := List.rel_of_pairwise_cons h2 m3
          omega
theorem lt_ext : ∀ {l m : List Int}, l.Pairwise (· < ·) → m.Pairwise (· < ·) → (∀ k, k ∈ l ↔ k ∈ m) → l = m
  | [], [], _, _, _ => rfl
  | [], b :: m, _, _, h => absurd ((h b).mpr List.mem_cons_self) (by simp)
  | a :: l, [], _, _, h => absurd ((h a).mp List.mem_cons_self) (by simp)
  | a :: l, b :: m, h1, h2, h => by
    cases h1 with
    | cons a1 a2 =>
      cases h2 with
      | cons b1 b2 =>
        have e : a = b := by
          rcases List.mem_cons.mp ((h a).mp List.mem_cons_self) with e | m1
          · exact e
          · rcases List.mem_cons.mp ((h b).mpr List.mem_cons_self) with e | m2
            · exact e.symm
            · have := a1 b m2
              have := b1 a m1
              omega
        subst e
        rw [lt_ext a2 b2 fun k => ?_]
        have z := h k
        simp only [List.mem_cons] at z
        constructor
        · intro m1
          rcases z.mp (.inr m1) with e | m2
          · have := a1 k m1; omega
          · exact m2
        · intro m1
          rcases z.mpr (.inr m1) with e | m2
          · have := b1 k m1; omega
          · exact m2
def setS (ns : List Int) : List Int := onceS (isort ltI ns)
theorem setS_lt (ns : List Int) : (setS ns).Pairwise (· < ·) := onceS_lt (isortI_le ns)
theorem setS_mem (ns : List Int) (k : Int) : k ∈ setS ns ↔ k ∈ ns := (onceS_mem _ k).trans ⟨fun m => (isort_perm ns).subset m, fun m => (isort_perm ns).symm.subset m⟩
def rSetTup (K : PySem.W.Frag) (w : World) : List V → Hp → VK → Prop := fun xs H Q => ∃ (l : Addr) (ns : List Int), xs = [.ref l] ∧ SqT K H l (ns.map V.int) ∧ ns.length + 1 < scanBound ∧
  ∀ p c, H p = none → c ≤ ns.length → Q (.ref p) (upd H p (SetO w p (fun j => decide (j ∈ ns)) c))
theorem cr_setTup {X : Cx} (hc : X.calm = true) : CallR X (.type "set") (rSetTup X.K X.w) := by
  intro pins s σ H xs us Q I r h
  obtain ⟨l, ns, rfl, hq, hb, q⟩ := h
  rw [Vals.ref1 r]
  obtain ⟨its, ri, pl, hz⟩ := I.tuple hq
  refine call_set_tupI ns (I.ok.hd hc) pl (by simpa using intsAre_of ri) hb fun h' tk c R hcl k => ?_
  exact ⟨.ref _, upd H s.heap.objs.size (SetO X.w s.heap.objs.size (fun j => decide (j ∈ ns)) c), I.laid (t' := tk) k (Nat.le_refl _) (setO_new R), rfl, q _ c (I.hok.fresh (Nat.le_refl _)) hcl⟩
def sortedSetD : PyData → R PyData
  | .tuple ds => match intsOf ds with
    | some ns => if ns.length < 60 then .ok (.list ((setS ns).map .int)) else .bad
    | none => .bad
  | _ => .bad
section
variable {X : Cx} {W : WN} {a : Expr} {ta : TE} {fa : En → R PyData} {pos p p1 pos1 : Pos}
theorem vo_sortedSet (hc : X.calm = true) (hg : Gl X "sorted") (hm : X.mg "sorted" = none) (hg2 : Gl X "set") (hm2 : X.mg "set" = none) (ha : VB X W a ta fa)
    (hs : starEach [a] X.env = (false, eval a X.env) :: starEach [] X.env := by rfl) (hpl : (backTo pos1 (starEach [] X.env)).any (·.1) = false := by rfl)
    (hs2 : starEach [.Call (.Name "set" p1) [a] [] pos1] X.env = (false, eval (.Call (.Name "set" p1) [a] [] pos1) X.env) :: starEach [] X.env := by rfl) (hpl2 : (backTo pos (starEach [] X.env)).any (·.1) = false := by rfl) :
    VO X W (.Call (.Name "sorted" p) [.Call (.Name "set" p1) [a] [] pos1] [] pos) (tCB (rSortedSet X.w) (tCons (tCB (rSetTup X.K X.w) (tCons ta tNil)) tNil)) (c1 sortedSetD fa) := by
  refine ⟨pe_callB (cr_sortedSet hc) hg hm boot_sorted (pa_cons (pe_callTy (cr_setTup hc) hg2 hm2 boot_set (pa_cons ha.pe pa_nil hs) (by decide) (by decide) hs hpl) pa_nil hs2) (by decide) (by decide) hs2 hpl2, fun F G r σ H q => ?_⟩
  refine sd_bind (t' := fun x σ H1 Q => tCB (rSortedSet X.w) (tCons (tCB (rSetTup X.K X.w) (tCons (tC x) tNil)) tNil) σ H1 Q) mO (ha.so F G r σ H q) fun d v G1 H1 _ e1 p1 => ?_
  cases d with
  | tuple ds =>
    obtain ⟨a, vs, rfl, h1, h2⟩ := p1.tup
    show Sd pO W _ σ G1 H1 (match intsOf ds with
      | some ns => if ns.length < 60 then .ok (.list ((setS ns).map .int)) else .bad
      | none => .bad)
    cases en : intsOf ds with
    | none => trivial
    | some ns =>
      by_cases hl : ns.length < 60
      · show Sd pO W _ σ G1 H1 (if ns.length < 60 then .ok (.list ((setS ns).map .int)) else .bad)
        rw [if_pos hl]
        intro Q z
        have ev := h2.ints en
        subst ev
        refine ⟨a, ns, rfl, slT (rdm e1.gh h1), by unfold scanBound; omega, fun s c hs hcl => ?_⟩
        refine ⟨s, _, c, rfl, upd_same, by omega, fun ms p h3 h4 h5 hp => ?_⟩
        have em : ms = setS ns := lt_ext h3 (setS_lt ns) fun k => by rw [h4 k, setS_mem]; simp
        subst em
        have x1 : Ext G1 H1 G1 (upd H1 s (SetO X.w s (fun j => decide (j ∈ ns)) c)) := Ext.fresh e1.gh hs
        have x2 := sd_lst (W := W) (σ := σ) (vs := (setS ns).map V.int) x1.gh (de_ints (G := G1) (setS ns))
        exact x2 Q (fun v G' H' e p => z v G' H' (x1.trans e) (mO _ _ _ _ _ _ _ _ x1 p)) p hp
      · show Sd pO W _ σ G1 H1 (if ns.length < 60 then .ok (.list ((setS ns).map .int)) else .bad)
        rw [if_neg hl]
        trivial
  | _ => trivial
end
end DL
namespace DL
open PySem L2
/-! ### reversed -/
def revdD : PyData → R (List PyData)
  | .list ds => .ok ds.reverse
  | .tuple ds => .ok ds.reverse
  | _ => .bad
theorem rev_at {α : Type} {xs : List α} {i : Nat} (h : i < xs.length) : xs.reverse[i]? = xs[xs.length - 1 - i]? := by
  rw [List.getElem?_reverse h]
theorem walk_revL {K : PySem.W.Frag} {G : Hp} {a : Addr} {vs : List V} {ds : List PyData} (h : Rd G a (.lst vs)) (hd : DeAll G vs ds) (hz : vs.length ≤ sizeLine) : WalkD (Itv K a vs.length) G ds.reverse where
  small := by rw [List.length_reverse, ← hd.len]; exact hz
  goes := fun G2 H2 i s1 s2 hi => by
    rw [List.length_reverse] at hi
    have hl := hd.len
    obtain ⟨v, hv, _⟩ := hd.get (i := vs.length - 1 - i) (List.getElem?_eq_getElem (by omega))
    exact ⟨by omega, vs, v, slL (rdm (s1.trans s2) h), hv⟩
  stops := fun G2 H2 s1 s2 => by
    show vs.length ≤ ds.reverse.length
    rw [List.length_reverse, hd.len]
    exact Nat.le_refl _
  yields := fun G2 H2 i x H3 s1 s2 hi y => by
    rw [List.length_reverse] at hi
    obtain ⟨rfl, y⟩ := y
    obtain ⟨d, h1, h2⟩ := hd.getV (y vs (slL (rdm (s1.trans s2) h)))
    exact ⟨d, G2, by rw [rev_at hi, ← hd.len]; exact h1, Ext.refl s2, dm s1 h2⟩
theorem walk_revT {K : PySem.W.Frag} {G : Hp} {a : Addr} {vs : List V} {ds : List PyData} (h : Rd G a (.tup vs)) (hd : DeAll G vs ds) (hz : vs.length ≤ sizeLine) : WalkD (RT.ItvT K a vs.length) G ds.reverse where
  small := by rw [List.length_reverse, ← hd.len]; exact hz
  goes := fun G2 H2 i s1 s2 hi => by
    rw [List.length_reverse] at hi
    have hl := hd.len
    obtain ⟨v, hv, _⟩ := hd.get (i := vs.length - 1 - i) (List.getElem?_eq_getElem (by omega))
    exact ⟨by omega, vs, v, slT (rdm (s1.trans s2) h), hv⟩
  stops := fun G2 H2 s1 s2 => by
    show vs.length ≤ ds.reverse.length
    rw [List.length_reverse, hd.len]
    exact Nat.le_refl _
  yields := fun G2 H2 i x H3 s1 s2 hi y => by
    rw [List.length_reverse] at hi
    obtain ⟨rfl, y⟩ := y
    obtain ⟨d, h1, h2⟩ := hd.getV (y vs (slT (rdm (s1.trans s2) h)))
    exact ⟨d, G2, by rw [rev_at hi, ← hd.len]; exact h1, Ext.refl s2, dm s1 h2⟩
section
variable {X : Cx} {W : WN} {tg e : Expr} {te : TE} {fe : En → R PyData} {p pos : Pos}
theorem vi_rev (hg : Gl X "reversed") (hm : X.mg "reversed" = none) (h : VE X W e te fe) (hs : starEach [e] X.env = (false, eval e X.env) :: starEach [] X.env := by rfl) :
    VI X W tg (.Call (.Name "reversed" p) [e] [] pos) (fun σ H R => RT.iRevA X.K te σ H fun J H1 => SmallH H1 → R J H1) (iS revdD fe) := by
  refine ⟨pi_small (RT.pi_revA hg hm h.pe hs), fun F G r σ H q => ?_⟩
  have k := h.so F G r σ H q
  show SdI W _ σ G H ((fe r).bind revdD)
  cases e1 : fe r with
  | ok d =>
    rw [e1] at k
    cases d with
    | list ds =>
      intro Q z
      refine k _ fun v G1 H1 x1 p1 => ?_
      cases p1 with
      | lst k1 k2 => exact ⟨_, _, rfl, .inl ⟨slL (rdm x1.gh k1), fun sm => z _ G1 H1 x1 (walk_revL k1 k2 (sm _ _ (.inl (rdm x1.gh k1))))⟩⟩
    | tuple ds =>
      intro Q z
      refine k _ fun v G1 H1 x1 p1 => ?_
      cases p1 with
      | tup k1 k2 => exact ⟨_, _, rfl, .inr ⟨slT (rdm x1.gh (.inl k1)), fun sm => z _ G1 H1 x1 (walk_revT (.inl k1) k2 (sm _ _ (.inr (rdm x1.gh (.inl k1)))))⟩⟩
    | _ => trivial
  | exc c fs =>
    rw [e1] at k
    exact fun w Q => k w _
  | bad => trivial
end
end DL
namespace DL
open PySem L2
/-! ### recursion: a def that is worth nothing yet -/
theorem fv_none {P : Program} {w : World} {K : PySem.W.Frag} {mg : Str → Option Value} {base : Heap} {k n : Nat} {f : Addr} {fd : FuncData} {ps : List Str} : FV P w K mg base k f fd ps n (fun _ => .bad) where
  len := fun vs H Q E h => by
    obtain ⟨_, _, _, _, _, z⟩ := h
    exact z.elim
  run := fun A outer s H args us vs Q E hr he hb hv h => by
    obtain ⟨_, _, _, _, _, z⟩ := h
    exact z.elim
/-- so many turns of a def that calls itself -/
def fuelF (step : (List PyData → R PyData) → List PyData → R PyData) : Nat → List PyData → R PyData
  | 0 => fun _ => .bad
  | n + 1 => step (fuelF step n)
theorem cal_fuel {P : Program} {w : World} {K : PySem.W.Frag} {mg : Str → Option Value} {base : Heap} {x : Str} {k n : Nat} {step : (List PyData → R PyData) → List PyData → R PyData}
    (h0 : Cal P w K mg base x k n fun _ => .bad) (hs : ∀ (j : Nat) (g : List PyData → R PyData), k ≤ j → Cal P w K mg base x j n g → Cal P w K mg base x (j + 1) n (step g)) : ∀ m : Nat, Cal P w K mg base x (k + m) n (fuelF step m)
  | 0 => h0
  | m + 1 => hs (k + m) _ (Nat.le_add_right k m) (cal_fuel h0 hs m)
end DL
namespace DL
open PySem L2
/-! ### slots forgotten -/
theorem Rep.un1 {F G H : Hp} {r : En} {σ : L2.St} (h : Rep F G r σ H) (i : Nat) : Rep F G (r.set i .un) σ H where
  sub := h.sub
  fr := h.fr
  len := by rw [List.length_set, h.len]
  dat := fun j e q => by
    rw [getset] at q
    by_cases z : i = j
    · rw [if_pos z] at q
      split at q <;> cases q
    · rw [if_neg z] at q
      exact h.dat j e q
  own := fun j ds q => by
    rw [getset] at q
    by_cases z : i = j
    · rw [if_pos z] at q
      split at q <;> cases q
    · rw [if_neg z] at q
      exact h.own j ds q
  sep := fun j k ds es p ne q1 q2 => by
    rw [getset] at q1 q2
    by_cases z : i = j
    · rw [if_pos z] at q1
      split at q1 <;> cases q1
    · by_cases y : i = k
      · rw [if_pos y] at q2
        split at q2 <;> cases q2
      · rw [if_neg z] at q1
        rw [if_neg y] at q2
        exact h.sep j k ds es p ne q1 q2
  obj := by
    obtain ⟨fp, hf⟩ := h.obj
    exact ⟨fp, hf.un i⟩
theorem Rep.un {F G H : Hp} {r : En} {σ : L2.St} (h : Rep F G r σ H) : ∀ vs : List Nat, Rep F G (wipeE vs r) σ H
  | [] => h
  | v :: vs => (Rep.un h vs).un1 v
def wipeO (vs : List Nat) : O → O
  | .nx r => .nx (wipeE vs r)
  | .bk r => .bk (wipeE vs r)
  | .ct r => .ct (wipeE vs r)
  | o => o
/-- forgotten ahead -/
def sWp (vs : List Nat) (f : En → O) : En → O := fun r => f (wipeE vs r)
/-- forgotten behind -/
def sWq (vs : List Nat) (f : En → O) : En → O := fun r => wipeO vs (f r)
theorem Acc.wipe {W : WN} {F G : Hp} {D : Ends} {o : O} {vs : List Nat} (h : Acc W F G D (wipeO vs o)) : Acc W F G D o := by
  cases o with
  | nx r => exact fun σ' G' H' e q => h σ' G' H' e (q.un vs)
  | rt d => exact h
  | bk r => exact fun σ' G' H' e q => h σ' G' H' e (q.un vs)
  | ct r => exact fun σ' G' H' e q => h σ' G' H' e (q.un vs)
  | exc c fs r => exact h
  | bad => exact h
section
variable {X : Cx} {W : WN} {st : Stmt} {sts : List Stmt} {u : TS} {g : En → O}
theorem z_wp (vs : List Nat) (h : VS X W st u g) : VS X W st u (sWp vs g) := ⟨h.ps, fun F G r σ H q D a => h.so F G _ σ H (q.un vs) D a⟩
theorem zs_wq (vs : List Nat) (h : VSs X W sts u g) : VSs X W sts u (sWq vs g) := ⟨h.ps, fun F G r σ H q D a => h.so F G r σ H q D (Acc.wipe a)⟩
end
end DL
namespace DL
open PySem L2
section
open PySem.W PyProof.Rows
variable {prog : Program} {w : World} {A : Around} {E : Value → Shared → Prop} {s : Shared} {t : Addr} {its : List Value} {ns : List Int} {Q : Value → Shared → Prop}
theorem sum_rawT (hh : A.handled = none) (hl : s.heap.IsTuple t its.toArray) (hi : IntsAre its ns)
    (h : ∀ h' tk t', (∀ b o, s.heap.get? b = some o → h'.get? b = some o) → Q (.int ns.sum t') { s with heap := h', toks := tk }) : wpAny (model prog w) A (call (.builtin "sum") [.ref t]) Q E s := by
  obtain ⟨xs, e⟩ := hi.allInts.items
  have hn : numsOf (intItems xs).toList = ns := by rw [← e]; exact hi.numsOf
  rw [nums_intItems] at hn
  rw [e] at hl
  refine ktm_sumG hh hl fun h' tk t' hk => ?_
  have := h h' tk t' hk
  rw [preSum_eq, List.take_of_length_le (by simp), hn]; exact this
theorem max_rawT (hh : A.handled = none) (hl : s.heap.IsTuple t its.toArray) (hi : IntsAre its ns) (hne : 0 < ns.length)
    (h : ∀ h' tk M t', (∀ b o, s.heap.get? b = some o → h'.get? b = some o) → M ∈ ns → (∀ a, a ∈ ns → a ≤ M) → Q (.int M t') { s with heap := h', toks := tk }) : wpAny (model prog w) A (call (.builtin "max") [.ref t]) Q E s := by
  obtain ⟨xs, e⟩ := hi.allInts.items
  have hn : numsOf (intItems xs).toList = ns := by rw [← e]; exact hi.numsOf
  rw [nums_intItems] at hn
  subst hn
  rw [e] at hl
  have hsz : 0 < xs.size := by simpa using hne
  have hs2 : (intItems xs).size = xs.size := by simp [intItems]
  refine call_max_walkS (iter_tupleW (A := A.in1) hh hl fun s₂ e W st hfp hw hk => ?_)
  refine ⟨_, _, _, _, _, _, _, _, rfl, W, st, hfp, by omega, CmpOf.ints_gt (numAt xs) (fun _ _ => intItems_at), fun v s' hP m => ?_⟩
  obtain ⟨h', tk, rfl, hk'⟩ := moved_old e rfl m
  rw [hs2] at hP
  obtain ⟨t, rfl⟩ := intItems_at hP
  obtain ⟨h1, h2⟩ := argBest_gt (numAt xs) (xs.size - 1)
  refine h h' tk _ t hk' ?_ fun a ha => ?_
  · rw [numAt_eq]; exact PySem.getD_mem (by rw [List.length_map, Array.length_toList]; omega)
  · obtain ⟨j, hj, rfl⟩ := mem_getD ha
    rw [List.length_map, Array.length_toList] at hj
    rw [← numAt_eq]; exact h2 j (by omega)
theorem min_rawT (hh : A.handled = none) (hl : s.heap.IsTuple t its.toArray) (hi : IntsAre its ns) (hne : 0 < ns.length)
    (h : ∀ h' tk M t', (∀ b o, s.heap.get? b = some o → h'.get? b = some o) → M ∈ ns → (∀ a, a ∈ ns → M ≤ a) → Q (.int M t') { s with heap := h', toks := tk }) : wpAny (model prog w) A (call (.builtin "min") [.ref t]) Q E s := by
  obtain ⟨xs, e⟩ := hi.allInts.items
  have hn : numsOf (intItems xs).toList = ns := by rw [← e]; exact hi.numsOf
  rw [nums_intItems] at hn
  subst hn
  rw [e] at hl
  have hsz : 0 < xs.size := by simpa using hne
  have hs2 : (intItems xs).size = xs.size := by simp [intItems]
  refine call_min_walkS (iter_tupleW (A := A.in1) hh hl fun s₂ e W st hfp hw hk => ?_)
  refine ⟨_, _, _, _, _, _, _, _, rfl, W, st, hfp, by omega, CmpOf.ints_lt (numAt xs) (fun _ _ => intItems_at), fun v s' hP m => ?_⟩
  obtain ⟨h', tk, rfl, hk'⟩ := moved_old e rfl m
  rw [hs2] at hP
  obtain ⟨t, rfl⟩ := intItems_at hP
  obtain ⟨h1, h2⟩ := argBest_lt (numAt xs) (xs.size - 1)
  refine h h' tk _ t hk' ?_ fun a ha => ?_
  · rw [numAt_eq]; exact PySem.getD_mem (by rw [List.length_map, Array.length_toList]; omega)
  · obtain ⟨j, hj, rfl⟩ := mem_getD ha
    rw [List.length_map, Array.length_toList] at hj
    rw [← numAt_eq]; exact h2 j (by omega)
end
section
variable {X : Cx}
def rSumT (K : PySem.W.Frag) : List V → Hp → VK → Prop := fun vs H Q => ∃ (a : Addr) (ns : List Int), vs = [V.ref a] ∧ SqT K H a (ns.map V.int) ∧ Q (.int ns.sum) H
def rMaxT (K : PySem.W.Frag) : List V → Hp → VK → Prop := fun vs H Q => ∃ (a : Addr) (ns : List Int), vs = [V.ref a] ∧ SqT K H a (ns.map V.int) ∧ 0 < ns.length ∧ ∀ m, m ∈ ns → (∀ y, y ∈ ns → y ≤ m) → Q (.int m) H
def rMinT (K : PySem.W.Frag) : List V → Hp → VK → Prop := fun vs H Q => ∃ (a : Addr) (ns : List Int), vs = [V.ref a] ∧ SqT K H a (ns.map V.int) ∧ 0 < ns.length ∧ ∀ m, m ∈ ns → (∀ y, y ∈ ns → m ≤ y) → Q (.int m) H
theorem cr_sumT (hc : X.calm = true) : CallR X (.builtin "sum") (rSumT X.K) := by
  intro pins s σ H vs us Q I r h
  obtain ⟨a, ns, rfl, hs, q⟩ := h
  obtain ⟨its, rv, tp, _⟩ := I.tuple hs
  rw [Vals.ref1 r]
  exact sum_rawT (I.ok.hd hc) tp rv.ints fun h' tk t' hk => ⟨.int _, H, I.kept hk, ⟨_, rfl⟩, q⟩
theorem cr_maxT (hc : X.calm = true) : CallR X (.builtin "max") (rMaxT X.K) := by
  intro pins s σ H vs us Q I r h
  obtain ⟨a, ns, rfl, hs, hne, q⟩ := h
  obtain ⟨its, rv, tp, _⟩ := I.tuple hs
  rw [Vals.ref1 r]
  exact max_rawT (I.ok.hd hc) tp rv.ints hne fun h' tk m t' hk h1 h2 => ⟨.int _, H, I.kept hk, ⟨_, rfl⟩, q m h1 h2⟩
theorem cr_minT (hc : X.calm = true) : CallR X (.builtin "min") (rMinT X.K) := by
  intro pins s σ H vs us Q I r h
  obtain ⟨a, ns, rfl, hs, hne, q⟩ := h
  obtain ⟨its, rv, tp, _⟩ := I.tuple hs
  rw [Vals.ref1 r]
  exact min_rawT (I.ok.hd hc) tp rv.ints hne fun h' tk m t' hk h1 h2 => ⟨.int _, H, I.kept hk, ⟨_, rfl⟩, q m h1 h2⟩
end
/-! ### sum, min, max by data -/
def itemsD : PyData → Option (List Int)
  | .list ds => intsOf ds
  | .tuple ds => intsOf ds
  | _ => none
def maxL : List Int → Int
  | [] => 0
  | [x] => x
  | x :: xs => max x (maxL xs)
def minL : List Int → Int
  | [] => 0
  | [x] => x
  | x :: xs => min x (minL xs)
theorem maxL_mem : ∀ {xs : List Int}, 0 < xs.length → maxL xs ∈ xs
  | [x], _ => List.mem_singleton.mpr rfl
  | x :: y :: r, _ => by
    have ih := maxL_mem (xs := y :: r) (by simp)
    show max x (maxL (y :: r)) ∈ _
    rcases Int.le_total x (maxL (y :: r)) with h | h
    · rw [Int.max_eq_right h]; exact List.mem_cons_of_mem _ ih
    · rw [Int.max_eq_left h]; exact List.mem_cons_self
theorem maxL_le : ∀ {xs : List Int}, ∀ y ∈ xs, y ≤ maxL xs
  | [x], y, h => by rw [List.mem_singleton] at h; rw [h]; exact Int.le_refl _
  | x :: z :: r, y, h => by
    show y ≤ max x (maxL (z :: r))
    rcases List.mem_cons.mp h with rfl | h
    · exact Int.le_max_left _ _
    · exact Int.le_trans (maxL_le y h) (Int.le_max_right _ _)
theorem minL_mem : ∀ {xs : List Int}, 0 < xs.length → minL xs ∈ xs
  | [x], _ => List.mem_singleton.mpr rfl
  | x :: y :: r, _ => by
    have ih := minL_mem (xs := y :: r) (by simp)
    show min x (minL (y :: r)) ∈ _
    rcases Int.le_total x (minL (y :: r)) with h | h
    · rw [Int.min_eq_left h]; exact List.mem_cons_self
    · rw [Int.min_eq_right h]; exact List.mem_cons_of_mem _ ih
theorem minL_le : ∀ {xs : List Int}, ∀ y ∈ xs, minL xs ≤ y
  | [x], y, h => by rw [List.mem_singleton] at h; rw [h]; exact Int.le_refl _
  | x :: z :: r, y, h => by
    show min x (minL (z :: r)) ≤ y
    rcases List.mem_cons.mp h with rfl | h
    · exact Int.min_le_left _ _
    · exact Int.le_trans (Int.min_le_right _ _) (minL_le y h)
def sumA (d : PyData) : R PyData := match itemsD d with
  | some ns => .ok (.int ns.sum)
  | none => .bad
def max1D (d : PyData) : R PyData := match itemsD d with
  | some ns => if 0 < ns.length then .ok (.int (maxL ns)) else .bad
  | none => .bad
def min1D (d : PyData) : R PyData := match itemsD d with
  | some ns => if 0 < ns.length then .ok (.int (minL ns)) else .bad
  | none => .bad
theorem items_sq {K : PySem.W.Frag} {G H : Hp} {x : V} {d : PyData} {ns : List Int} (s : Same G H) (hx : RBv G H x d) (e : itemsD d = some ns) : ∃ a, x = .ref a ∧ (SqL K H a (ns.map V.int) ∨ SqT K H a (ns.map V.int)) := by
  cases d with
  | list ds =>
    obtain ⟨a, vs, rfl, h1, h2⟩ := hx.lst s
    have z := DeAll.ints h2 e
    subst z
    exact ⟨a, rfl, .inl (slL h1)⟩
  | tuple ds =>
    obtain ⟨a, vs, rfl, h1, h2⟩ := hx.tup
    have z := DeAll.ints h2 e
    subst z
    exact ⟨a, rfl, .inr (slT (rdm s h1))⟩
  | _ => cases e
def rOr (r r' : List V → Hp → VK → Prop) : List V → Hp → VK → Prop := fun vs H Q => r vs H Q ∨ r' vs H Q
theorem u1_sumA {K : PySem.W.Frag} : Un1 pE (rOr (rSum K) (rSumT K)) sumA := by
  intro W σ G H x d s hx
  unfold sumA
  cases e : itemsD d with
  | none => trivial
  | some ns =>
    obtain ⟨a, rfl, h | h⟩ := items_sq (K := K) s hx e
    · exact sd_of s (.int _) fun Q z => .inl ⟨a, ns, rfl, h, z⟩
    · exact sd_of s (.int _) fun Q z => .inr ⟨a, ns, rfl, h, z⟩
theorem u1_max1 {K : PySem.W.Frag} : Un1 pE (rOr (rMax K) (rMaxT K)) max1D := by
  intro W σ G H x d s hx
  unfold max1D
  cases e : itemsD d with
  | none => trivial
  | some ns =>
    by_cases hn : 0 < ns.length
    · show Sd pE W _ σ G H (if 0 < ns.length then .ok (.int (maxL ns)) else .bad)
      rw [if_pos hn]
      have uq : ∀ m, m ∈ ns → (∀ y, y ∈ ns → y ≤ m) → m = maxL ns := fun m h1 h2 => by
        have := h2 _ (maxL_mem hn)
        have := maxL_le m h1
        omega
      obtain ⟨a, rfl, h | h⟩ := items_sq (K := K) s hx e
      · exact sd_of s (.int _) fun Q z => .inl ⟨a, ns, rfl, h, hn, fun m h1 h2 => by rw [uq m h1 h2]; exact z⟩
      · exact sd_of s (.int _) fun Q z => .inr ⟨a, ns, rfl, h, hn, fun m h1 h2 => by rw [uq m h1 h2]; exact z⟩
    · show Sd pE W _ σ G H (if 0 < ns.length then .ok (.int (maxL ns)) else .bad)
      rw [if_neg hn]
      trivial
theorem u1_min1 {K : PySem.W.Frag} : Un1 pE (rOr (rMin K) (rMinT K)) min1D := by
  intro W σ G H x d s hx
  unfold min1D
  cases e : itemsD d with
  | none => trivial
  | some ns =>
    by_cases hn : 0 < ns.length
    · show Sd pE W _ σ G H (if 0 < ns.length then .ok (.int (minL ns)) else .bad)
      rw [if_pos hn]
      have uq : ∀ m, m ∈ ns → (∀ y, y ∈ ns → m ≤ y) → m = minL ns := fun m h1 h2 => by
        have := h2 _ (minL_mem hn)
        have := minL_le m h1
        omega
      obtain ⟨a, rfl, h | h⟩ := items_sq (K := K) s hx e
      · exact sd_of s (.int _) fun Q z => .inl ⟨a, ns, rfl, h, hn, fun m h1 h2 => by rw [uq m h1 h2]; exact z⟩
      · exact sd_of s (.int _) fun Q z => .inr ⟨a, ns, rfl, h, hn, fun m h1 h2 => by rw [uq m h1 h2]; exact z⟩
    · show Sd pE W _ σ G H (if 0 < ns.length then .ok (.int (minL ns)) else .bad)
      rw [if_neg hn]
      trivial
section
variable {X : Cx} {W : WN} {a : Expr} {ta : TE} {fa : En → R PyData} {pos p p1 pos1 : Pos}
theorem ve_sumA (hc : X.calm = true) (hg : Gl X "sum") (hm : X.mg "sum" = none) (ha : VB X W a ta fa) (hs : starEach [a] X.env = (false, eval a X.env) :: starEach [] X.env := by rfl) (hpl : (backTo pos (starEach [] X.env)).any (·.1) = false := by rfl) :
    VE X W (.Call (.Name "sum" p) [a] [] pos) (tCB (rOr (rSum X.K) (rSumT X.K)) (tCons ta tNil)) (c1 sumA fa) := vx_cb1 mE ((cr_sum hc).or (cr_sumT hc)) u1_sumA PyProof.Rows.boot_sum hg hm ha (by decide) (by decide) hs hpl
theorem ve_max1 (hc : X.calm = true) (hg : Gl X "max") (hm : X.mg "max" = none) (ha : VB X W a ta fa) (hs : starEach [a] X.env = (false, eval a X.env) :: starEach [] X.env := by rfl) (hpl : (backTo pos (starEach [] X.env)).any (·.1) = false := by rfl) :
    VE X W (.Call (.Name "max" p) [a] [] pos) (tCB (rOr (rMax X.K) (rMaxT X.K)) (tCons ta tNil)) (c1 max1D fa) := vx_cb1 mE ((cr_max hc).or (cr_maxT hc)) u1_max1 PyProof.Rows.boot_max hg hm ha (by decide) (by decide) hs hpl
theorem ve_min1 (hc : X.calm = true) (hg : Gl X "min") (hm : X.mg "min" = none) (ha : VB X W a ta fa) (hs : starEach [a] X.env = (false, eval a X.env) :: starEach [] X.env := by rfl) (hpl : (backTo pos (starEach [] X.env)).any (·.1) = false := by rfl) :
    VE X W (.Call (.Name "min" p) [a] [] pos) (tCB (rOr (rMin X.K) (rMinT X.K)) (tCons ta tNil)) (c1 min1D fa) := vx_cb1 mE ((cr_min hc).or (cr_minT hc)) u1_min1 PyProof.Rows.boot_min hg hm ha (by decide) (by decide) hs hpl
theorem ve_abs (hg : Gl X "abs") (hm : X.mg "abs" = none) (ha : VB X W a ta fa) (hs : starEach [a] X.env = (false, eval a X.env) :: starEach [] X.env := by rfl) (hpl : (backTo pos (starEach [] X.env)).any (·.1) = false := by rfl) :
    VE X W (.Call (.Name "abs" p) [a] [] pos) (tCB rAbs1 (tCons ta tNil)) (c1 absD fa) := vx_cb1 mE call_abs u1_abs PyProof.Rows.boot_abs hg hm ha (by decide) (by decide) hs hpl
instance {a b : Int} : Decidable (RgOk a b) := by unfold RgOk; infer_instance
/-- list(range(e)) -/
def listRgD : PyData → R PyData
  | .int n => if RgOk 0 n then .ok (.list (rangeL 0 n.toNat)) else .bad
  | _ => .bad
theorem de_rg {G : Hp} (lo : Int) (n : Nat) : DeAll G ((List.range n).map fun i => V.int (lo + (i : Nat))) (rangeL lo n) := by
  unfold rangeL
  generalize List.range n = l
  induction l with
  | nil => exact .nil
  | cons a l ih => exact .cons (.int _) ih
theorem vo_listRg (hc : X.calm = true) (hg : Gl X "list") (hm : X.mg "list" = none) (hg2 : Gl X "range") (hm2 : X.mg "range" = none) (ha : VE X W a ta fa)
    (hs : starEach [a] X.env = (false, eval a X.env) :: starEach [] X.env := by rfl)
    (hs2 : starEach [.Call (.Name "range" p1) [a] [] pos1] X.env = (false, eval (.Call (.Name "range" p1) [a] [] pos1) X.env) :: starEach [] X.env := by rfl) :
    VO X W (.Call (.Name "list" p) [.Call (.Name "range" p1) [a] [] pos1] [] pos) (tLstRg (tRg1 ta)) (c1 listRgD fa) := by
  refine ⟨pe_listRg hc hg hm (prg_1 hg2 hm2 ha.pe hs) hs2, fun F G r σ H q => ?_⟩
  refine sd_bind (t' := fun x σ H1 Q => ∃ n, x = .int n ∧ (RgOk 0 n ∧ ∀ q, H1 q = none → Q (.ref q) (upd H1 q (.lst (rgV 0 n))))) mO (ha.so F G r σ H q) fun d v G1 H1 _ e1 p1 => ?_
  cases d with
  | int n =>
    cases p1
    unfold listRgD
    by_cases hr : RgOk 0 n
    · show Sd pO W _ σ G1 H1 (if RgOk 0 n then .ok (.list (rangeL 0 n.toNat)) else .bad)
      rw [if_pos hr]
      have e : rgV 0 n = (List.range n.toNat).map fun i => V.int (0 + (i : Nat)) := by unfold rgV; rw [Int.sub_zero]
      refine sd_eq (sd_lst e1.gh (de_rg (G := G1) 0 n.toNat)) fun Q z => ⟨n, rfl, hr, ?_⟩
      rw [e]
      exact z
    · show Sd pO W _ σ G1 H1 (if RgOk 0 n then .ok (.list (rangeL 0 n.toNat)) else .bad)
      rw [if_neg hr]
      trivial
  | _ => trivial
end
end DL
namespace DL
open PySem L2
/-! ### sorted of at most one thing -/
def rSorted1 (K : PySem.W.Frag) : List V → Hp → VK → Prop := fun vs H Q => ∃ (a : Addr) (xs : List V), vs = [V.ref a] ∧ SqL K H a xs ∧ xs.length ≤ 1 ∧ ∀ p, H p = none → Q (.ref p) (upd H p (.lst xs))
theorem swo_no {α : Type} : SrtO.Swo (fun _ _ : α => false) := ⟨fun _ _ _ => rfl, fun _ _ _ _ _ => rfl⟩
theorem cr_sorted1 {X : Cx} : CallR X (.builtin "sorted") (rSorted1 X.K) := by
  intro pins s σ H vs us Q I r h
  obtain ⟨a, xs, rfl, hs, hx, q⟩ := h
  obtain ⟨its, rv, hl, hz⟩ := I.list hs
  obtain ⟨u, rfl, ru⟩ := vals1 r
  obtain rfl : u = Value.ref a := ru
  have hl1 : its.length ≤ 1 := by rw [← rv.length]; exact hx
  refine SrtO.sorted_ord (ltv := fun _ _ => false) swo_no hl.isList (by rw [← rv.length]; exact hz) (fun h2 => absurd h2 (by omega)) fun out hs1 hb1 => ?_
  have eo : out = its := by
    have pm := hb1.perm
    have ll := pm.length_eq
    cases its with
    | nil => exact pm.eq_nil
    | cons x t =>
      cases t with
      | nil => exact pm.eq_singleton
      | cons y t => simp at hl1
  subst eo
  obtain ⟨n, hn⟩ := PyProof.Rows.sortedAll_at s.heap out out.toArray
  exact ⟨.ref _, upd H _ (.lst xs), I.laid (t' := s.toks) (fun b o e => PyProof.Rows.sortedAll_old e) (Nat.le_succ _) ⟨hz, out, n, rv, hn⟩, rfl, q _ (I.hok.fresh (Nat.le_succ _))⟩
def sortE : PyData → R PyData
  | .list ds => if ds.length ≤ 1 then .ok (.list ds) else sortD (.list ds)
  | _ => .bad
theorem u1_sortE {K : PySem.W.Frag} : Un1 pO (rOr (rSorted1 K) (rSortedA K)) sortE := by
  intro W σ G H x d s hx
  cases d with
  | list ds =>
    show Sd pO W _ σ G H (if ds.length ≤ 1 then .ok (.list ds) else sortD (.list ds))
    by_cases hl : ds.length ≤ 1
    · rw [if_pos hl]
      obtain ⟨a, vs, rfl, h1, h2⟩ := hx.lst s
      exact sd_eq (sd_lst s h2) fun Q z => .inl ⟨a, vs, rfl, slL h1, by rw [h2.len]; exact hl, z⟩
    · rw [if_neg hl]
      exact sd_eq (u1_sorted W σ G H x (.list ds) s hx) fun Q z => .inr z
  | _ => trivial
section
variable {X : Cx} {W : WN} {a : Expr} {ta : TE} {fa : En → R PyData} {pos p : Pos}
theorem z_sortE (hu : X.A.units + 64 < cLine) (hg : Gl X "sorted") (hm : X.mg "sorted" = none) (ha : VB X W a ta fa) (hs : starEach [a] X.env = (false, eval a X.env) :: starEach [] X.env := by rfl) (hpl : (backTo pos (starEach [] X.env)).any (·.1) = false := by rfl) :
    VO X W (.Call (.Name "sorted" p) [a] [] pos) (tCB (rOr (rSorted1 X.K) (rSortedA X.K)) (tCons ta tNil)) (c1 sortE fa) := vx_cb1 mO (cr_sorted1.or (cr_sortedA hu)) u1_sortE PyProof.Rows.boot_sorted hg hm ha (by decide) (by decide) hs hpl
end
end DL
namespace DL
open PySem L2
/-! ### an expression that is never reached -/
theorem ve_never {P : Post} {X : Cx} {W : WN} {e : Expr} : Vx P X W e (fun _ _ _ => False) (fun _ => .bad) :=
  ⟨by constructor; intros; rename_i h; exact False.elim h, fun F G r σ H q => trivial⟩
def eNever : En → R PyData := fun _ => .bad
theorem z_never {P : Post} {X : Cx} {W : WN} {e : Expr} : Vx P X W e (fun _ _ _ => False) eNever := ve_never
end DL
namespace DL
open PySem L2
/-! ### enumerate(tuple) -/
section
open Sem (wp)
theorem meets_en1 {u : Value} {oi : Obj} {Hh : Heap → Prop} (B : Begins u oi Hh) :
    Meets (Builtin.«enumerate.__new__» ⟨[.type "enumerate", u], []⟩) (fun _ R z => Hh z.heap ∧
      R (.ok (.ret (.ref (z.heap.push oi).objs.size)))
        { z with heap := (z.heap.push oi).push { cls := .type "enumerate", data := .fields #[.none, .bool false, .ref z.heap.objs.size, rawInt 0, .none, .none] } }) :=
  .of_wp fun pr wo Ar R z hz => by
    obtain ⟨hp, ge, dr, to, os⟩ := z
    obtain ⟨hb, hr⟩ := hz
    have sube := sub_enumerate
    have it1 : ∀ {A' : Around} {E : Value → Shared → Prop} {Q : Value → Shared → Prop}, Q (.ref hp.objs.size) ⟨hp.push oi, ge, dr, to, os⟩ → wpAny (model pr wo) A' (pyIter u) Q E ⟨hp, ge, dr, to, os⟩ :=
      fun k => B.iter pr wo _ _ ⟨hp, ge, dr, to, os⟩ _ hb k
    wp_walk using it1
    refine wpAny_stack_any fun sta => wpAny_pure ?_
    split
    · rename_i cl _ _ _ _ _
      cases (cl == Value.type "enumerate")
      · wp_walk using it1
        exact ⟨_, rfl, hr⟩
      · wp_walk using it1
        exact ⟨_, rfl, hr⟩
    · wp_walk using it1
      exact ⟨_, rfl, hr⟩
theorem call_en1 {pr : Program} {wo : World} {Ar : Around} {Ex : Value → Shared → Prop} {z : Shared} {u : Value} {oi : Obj} {Hh : Heap → Prop} {Q : Value → Shared → Prop} (B : Begins u oi Hh) (hb : Hh z.heap)
    (k : ∀ h2, IsEnum h2 (z.heap.objs.size + 1) z.heap.objs.size 0 .none → h2.get? z.heap.objs.size = some oi → (∀ b ob, z.heap.get? b = some ob → h2.get? b = some ob) → Q (.ref (z.heap.objs.size + 1)) { z with heap := h2 }) :
    wpAny (model pr wo) Ar (call (.type "enumerate") [u]) Q Ex z := by
  refine callType_new F.called_enumerate (by decide) (F.typeCall_enumerate_1 _) (F.newCall_enumerate_1 _) (fun ob => F.args_object_init_2 ob _) F.entry_enumerate_new (meets_en1 B) ⟨hb, ?_⟩
  have sz1 : (z.heap.push oi).objs.size = z.heap.objs.size + 1 := Heap.size_push ..
  show _ ∧ _
  rw [sz1]
  have en : IsEnum ((z.heap.push oi).push { cls := .type "enumerate", data := .fields #[.none, .bool false, .ref z.heap.objs.size, rawInt 0, .none, .none] }) (z.heap.objs.size + 1) z.heap.objs.size 0 .none := by
    rw [← sz1]
    exact Heap.get?_push_size _ rfl
  exact ⟨⟨_, en, rfl⟩, k _ en (Heap.get?_push_of_some _ (Heap.get?_push_size _ B.free)) fun b ob q => Heap.get?_push_of_some _ (Heap.get?_push_of_some _ q)⟩
end
def IteT (K : PySem.W.Frag) (a : Addr) : It :=
  ⟨fun i H => ∃ (xs : List V) (x : V), SqT K H a xs ∧ xs[i]? = some x,
   fun i H v H' => ∃ T x, v = .ref T ∧ H T = none ∧ H' = upd H T (.tup [.int (i : Nat), x]) ∧ ∀ xs, SqT K H a xs → xs[i]? = some x,
   fun i H => ∃ xs : List V, SqT K H a xs ∧ xs.length ≤ i⟩
theorem turn_enumT {P : Program} {w : World} {K : PySem.W.Frag} {elts : List Expr} {kk : Nat} {tpos : Pos} (a e it : Addr) :
    Turn P w K (.Tuple elts kk tpos) (IteT K a) [e, it] e (fun i h => (∃ old, IsEnum h e it ((i : Nat) : Int) old) ∧ h.IsTupleIter it a i ∧ e ≠ it ∧ a ≠ it ∧ a ≠ e) where
  mem := List.mem_cons_self
  obj := fun i h st b hb => by
    obtain ⟨⟨old, he⟩, ⟨o, ho, hc, hd⟩, _⟩ := st
    simp only [List.mem_cons, List.not_mem_nil, or_false] at hb
    rcases hb with z | z
    · subst z; exact ⟨_, he, fun v q => nomatch q⟩
    · subst z; exact ⟨o, ho, fun v q => by rw [hd] at q; cases q⟩
  keep := fun i h h' st k => by
    obtain ⟨⟨old, he⟩, hi, hne⟩ := st
    exact ⟨⟨old, k e (by simp) _ he⟩, hi.at fun o q => k it (by simp) o q, hne⟩
  item := by
    intro X hP hw hK hc i pins s σ H E I hf st hg
    subst hP hw hK
    obtain ⟨⟨old, he⟩, hit, hne, hai, hae⟩ := st
    obtain ⟨xs, x, hq, hx⟩ := hg
    obtain ⟨its, rv, p, hz⟩ := I.tuple hq
    obtain ⟨u, hu, ru⟩ := rv.get hx
    have hel : e < s.heap.objs.size := Heap.lt_size he
    have hil : it < s.heap.objs.size := by
      obtain ⟨_, q, _⟩ := hit
      exact Heap.lt_size q
    have hi : i < its.toArray.size := by
      have := (List.getElem?_eq_some_iff.mp hu).1
      simpa using this
    refine wpAny_pyNext_enum_itemD (Draws.tuple (A := X.A.in1) (I.ok.hd hc) it a hai its.toArray) he ⟨hit, p⟩ hi hne (by simp; exact ⟨hne, fun q => hae q.symm⟩) fun y h' tk hy ho st' hT hsz hk => ?_
    have ey : y = u := by
      have : its[i]? = some y := by simpa using hy
      rw [hu] at this
      exact (Option.some.inj this).symm
    subst ey
    refine ⟨_, rfl, wpAny_letOwnedTupleGo_enum (s := { s with heap := h', toks := tk + 1 }) ho fun h2 he2 sb => ?_⟩
    have hT2 : h2.get? s.heap.objs.size = some { cls := .type "tuple", data := .seq #[.int i tk, y] } := (sb.2 _ (Nat.ne_of_gt hel)).trans hT
    have nw : ObjOk X.prog X.w (upd H s.heap.objs.size (.tup [.int (i : Nat), x])) h2 s.heap.objs.size (.tup [.int (i : Nat), x]) :=
      ⟨show 2 ≤ sizeLine by decide, [.int i tk, y], .cons ⟨_, rfl⟩ (.cons ru .nil), ⟨_, hT2, rfl, _, rfl⟩⟩
    have I1 : Inv X pins σ (upd H s.heap.objs.size (.tup [.int (i : Nat), x])) { s with heap := h2, toks := tk + 1 } :=
      I.turnedNew (ch := [e, it]) (fun b ob hb q => (sb.2 b (fun z => hb (by simp [z]))).trans (hk b ob (fun z => hb (by simp [z])) (fun z => hb (by simp [z])) q)) hf (Nat.le_refl _) nw
    refine ⟨.ref s.heap.objs.size, _, I1, rfl, ⟨_, x, rfl, I.hok.fresh (Nat.le_refl _), rfl, fun ys hy2 => ?_⟩, ⟨⟨y, ?_⟩, st'.1.at fun o q => (sb.2 it (Ne.symm hne)).trans q, hne, hai, hae⟩, fun b hb => ?_⟩
    · rw [I.tuple_inj hy2 hq]; exact hx
    · have e1 : ((i + 1 : Nat) : Int) = (i : Int) + 1 := by omega
      rw [e1]; exact he2
    · have hb' : b < s.heap.objs.size := by
        simp only [List.mem_cons, List.not_mem_nil, or_false] at hb
        rcases hb with z | z
        · subst z; exact hel
        · subst z; exact hil
      rw [upd_ne (Nat.ne_of_lt hb')]
      exact (hf b hb).1
  done := by
    intro X hP hw hK hc i pins s σ H E I hf st hg
    subst hP hw hK
    obtain ⟨⟨old, he⟩, hit, hne, hai, hae⟩ := st
    obtain ⟨xs, hq, hx⟩ := hg
    obtain ⟨its, rv, p, hz⟩ := I.tuple hq
    obtain ⟨f0, f1, f2, f3, f4, f5⟩ := hf it (by simp)
    have hl := rv.length
    have D : Draws X.prog X.w X.A.in1 it [it, a] i (fun _ _ => False) (fun j h => j = i ∧ h.IsTupleIter it a i ∧ h.IsTuple a its.toArray) := {
      live := fun _ _ q => by obtain ⟨_, ⟨o, ho, _⟩, _⟩ := q; exact ⟨o, ho⟩
      frame := fun _ _ _ q k => ⟨q.1, q.2.1.at fun o z => k it (by simp) o z, q.2.2.at fun o z => k a (by simp) o z⟩
      item := fun j z Q Ex hj q _ => absurd q.1 (Nat.ne_of_lt hj)
      done := fun z Q Ex q k => wpAny_nextOf_tuple_end (I.ok.hd hc) q.2.1 q.2.2 (by simp; omega) k }
    exact wpAny_pyNext_enum_endD D he ⟨rfl, hit, p⟩ fun h' eb => ⟨rfl, I.turned (t' := s.toks) (fun b o hb q => eb b o hb q) f0 f1 f3 f4 f5⟩
  self := fun A i s Q E st h => by
    obtain ⟨⟨_, he⟩, _⟩ := st
    exact wpAny_pyIter_enum he h
def iEnumT (K : PySem.W.Frag) (ta : TA) : TI := fun σ H R => ta σ H fun vs H1 => ∃ a xs, vs = [.ref a] ∧ SqT K H1 a xs ∧ R (IteT K a) H1
open PySem.Spec PyProof.Rows in
theorem pi_enumT {X : Cx} {e : Expr} {ta : TA} {p pos tpos : Pos} {elts : List Expr} {kk : Nat} (hg : Gl X "enumerate") (hm : X.mg "enumerate" = none) (ha : PA X [e] ta) (hs : starEach [e] X.env = [(false, eval e X.env)] := by rfl) :
    PI X (.Tuple elts kk tpos) (.Call (.Name "enumerate" p) [e] [] pos) (iEnumT X.K ta) := by
  refine ⟨fun pins s σ H R I h => ?_⟩
  refine Call_ (ld_blt I hg hm boot_enumerate (PyProof.Rows.callWith_type1 (thn (ha.run pos pins s σ H _ I h) fun us s1 ⟨vs, H1, I1, r1, q1⟩ => ?_) hs rfl))
  obtain ⟨a, xs, rfl, hq, q⟩ := q1
  rw [Vals.ref1 r1]
  obtain ⟨its, rv, p', hz⟩ := I1.tuple hq
  have al : a < s1.heap.objs.size := by
    obtain ⟨o, ho, _⟩ := p'
    exact Heap.lt_size ho
  refine call_en1 (begins_tuple a its.toArray) p' fun h' he hi hk => wpAny_pyIter_enum he ?_
  have I2 : Inv X pins σ H1 { s1 with heap := h' } := I1.kept (t' := s1.toks) hk
  refine ⟨s1.heap.objs.size + 1, [s1.heap.objs.size + 1, s1.heap.objs.size], _, _, H1, rfl, I2, turn_enumT a (s1.heap.objs.size + 1) s1.heap.objs.size, ⟨⟨.none, he⟩, ⟨_, hi, rfl, rfl⟩, Nat.succ_ne_self _, Nat.ne_of_lt al, Nat.ne_of_lt (Nat.lt_succ_of_lt al)⟩, fun b hb => ?_, q⟩
  have hle : s1.heap.objs.size ≤ b := by
    simp only [List.mem_cons, List.not_mem_nil, or_false] at hb
    rcases hb with z | z
    · subst z; exact Nat.le_succ _
    · subst z; exact Nat.le_refl _
  exact I1.fpOk hle (I1.hok.fresh hle)
/-! ### by data -/
def enumL (ds : List PyData) : List PyData := (ds.zipIdx).map fun p => .tuple [.int (p.2 : Int), p.1]
theorem enumL_len (ds : List PyData) : (enumL ds).length = ds.length := by simp [enumL]
theorem enumL_at {ds : List PyData} {i : Nat} {d : PyData} (h : ds[i]? = some d) : (enumL ds)[i]? = some (.tuple [.int (i : Int), d]) := by
  unfold enumL
  rw [List.getElem?_map, List.getElem?_zipIdx, h]
  simp
def enumD : PyData → R (List PyData)
  | .list ds => .ok (enumL ds)
  | .tuple ds => .ok (enumL ds)
  | _ => .bad
theorem walk_enumL {K : PySem.W.Frag} {G : Hp} {a : Addr} {vs : List V} {ds : List PyData} (h : Rd G a (.lst vs)) (hd : DeAll G vs ds) (hz : vs.length ≤ sizeLine) : WalkD (Ite K a) G (enumL ds) where
  small := by rw [enumL_len, ← hd.len]; exact hz
  goes := fun G2 H2 i s1 s2 hi => by
    rw [enumL_len] at hi
    obtain ⟨v, hv, _⟩ := hd.get (i := i) (List.getElem?_eq_getElem hi)
    exact ⟨vs, v, slL (rdm (s1.trans s2) h), hv⟩
  stops := fun G2 H2 s1 s2 => ⟨vs, slL (rdm (s1.trans s2) h), by rw [enumL_len, hd.len]; exact Nat.le_refl _⟩
  yields := fun G2 H2 i x H3 s1 s2 hi y => by
    obtain ⟨T, x, rfl, hT, rfl, y1⟩ := y
    obtain ⟨d, k1, k2⟩ := hd.getV (y1 vs (slL (rdm (s1.trans s2) h)))
    obtain ⟨z1, z2⟩ := pairE s2 hT (.int (i : Nat)) (dm s1 k2)
    exact ⟨_, _, enumL_at k1, z1, z2⟩
theorem walk_enumT {K : PySem.W.Frag} {G : Hp} {a : Addr} {vs : List V} {ds : List PyData} (h : Rd G a (.tup vs)) (hd : DeAll G vs ds) (hz : vs.length ≤ sizeLine) : WalkD (IteT K a) G (enumL ds) where
  small := by rw [enumL_len, ← hd.len]; exact hz
  goes := fun G2 H2 i s1 s2 hi => by
    rw [enumL_len] at hi
    obtain ⟨v, hv, _⟩ := hd.get (i := i) (List.getElem?_eq_getElem hi)
    exact ⟨vs, v, slT (rdm (s1.trans s2) h), hv⟩
  stops := fun G2 H2 s1 s2 => ⟨vs, slT (rdm (s1.trans s2) h), by rw [enumL_len, hd.len]; exact Nat.le_refl _⟩
  yields := fun G2 H2 i x H3 s1 s2 hi y => by
    obtain ⟨T, x, rfl, hT, rfl, y1⟩ := y
    obtain ⟨d, k1, k2⟩ := hd.getV (y1 vs (slT (rdm (s1.trans s2) h)))
    obtain ⟨z1, z2⟩ := pairE s2 hT (.int (i : Nat)) (dm s1 k2)
    exact ⟨_, _, enumL_at k1, z1, z2⟩
section
variable {X : Cx} {W : WN} {e : Expr} {te : TE} {fe : En → R PyData} {p pos tpos : Pos} {elts : List Expr} {kk : Nat}
theorem vi_enum (hg : Gl X "enumerate") (hm : X.mg "enumerate" = none) (h : VE X W e te fe) (hs : starEach [e] X.env = (false, eval e X.env) :: starEach [] X.env := by rfl) (hs1 : starEach [e] X.env = [(false, eval e X.env)] := by rfl) :
    VI X W (.Tuple elts kk tpos) (.Call (.Name "enumerate" p) [e] [] pos) (fun σ H R => (iEnum X.K (tCons te tNil) σ H fun J H1 => SmallH H1 → R J H1) ∨ (iEnumT X.K (tCons te tNil) σ H fun J H1 => SmallH H1 → R J H1)) (iS enumD fe) := by
  refine ⟨pi_or (pi_small (pi_enum hg hm (pa_cons h.pe pa_nil hs) hs1)) (pi_small (pi_enumT hg hm (pa_cons h.pe pa_nil hs) hs1)), fun F G r σ H q => ?_⟩
  have k := h.so F G r σ H q
  show SdI W _ σ G H ((fe r).bind enumD)
  cases e1 : fe r with
  | ok d =>
    rw [e1] at k
    cases d with
    | list ds =>
      intro Q z
      refine .inl (k _ fun v G1 H1 x1 p1 => ?_)
      cases p1 with
      | lst k1 k2 => exact ⟨_, _, rfl, slL (rdm x1.gh k1), fun sm => z _ G1 H1 x1 (walk_enumL k1 k2 (sm _ _ (.inl (rdm x1.gh k1))))⟩
    | tuple ds =>
      intro Q z
      refine .inr (k _ fun v G1 H1 x1 p1 => ?_)
      cases p1 with
      | tup k1 k2 => exact ⟨_, _, rfl, slT (rdm x1.gh (.inl k1)), fun sm => z _ G1 H1 x1 (walk_enumT (.inl k1) k2 (sm _ _ (.inr (rdm x1.gh (.inl k1)))))⟩
    | _ => trivial
  | exc c fs =>
    rw [e1] at k
    exact fun w Q => .inl (k w _)
  | bad => trivial
end
end DL
namespace DL
open PySem L2
/-! ### a, b = x, y -/
def sPar (i j : Nat) (fa fb : En → R PyData) : En → O := fun r => (fa r).toO r fun x => (fb r).toO r fun y => .nx ((r.set i (.dat x)).set j (.dat y))
theorem sPar_ap {i j : Nat} {fa fb : En → R PyData} {r : En} : sPar i j fa fb r = (fa r).toO r fun x => (fb r).toO r fun y => .nx ((r.set i (.dat x)).set j (.dat y)) := id rfl
section
variable {X : Cx} {W : WN} {a b : Expr} {ta tb : TE} {fa fb : En → R PyData} {pos px py pt : Pos} {kt k2 : Nat} {pt2 : Pos} {x y : Str} {i j : Nat}
theorem z_par (hc : X.calm = true) (hN : X.N.Nodup) (hi : X.N[i]? = some x) (hj : X.N[j]? = some y) (hij : i ≠ j)
    (hx : X.env.scope.names.lookup x = some .local) (hy : X.env.scope.names.lookup y = some .local)
    (hw : swappedStores [.Tuple [.Name x px, .Name y py] kt pt] (.Tuple [a, b] k2 pt2) X.env = pure (some [x, y])) (ha : VE X W a ta fa) (hb : VE X W b tb fb)
    (hs : swapsWithSole [.Tuple [.Name x px, .Name y py] kt pt] (.Tuple [a, b] k2 pt2) pos.line X.env = pure false := by rfl)
    (h1 : starEach [a, b] X.env = (false, eval a X.env) :: starEach [b] X.env := by rfl) (h2 : starEach [b] X.env = (false, eval b X.env) :: starEach [] X.env := by rfl) :
    VS X W (.Assign [.Tuple [.Name x px, .Name y py] kt pt] (.Tuple [a, b] k2 pt2) pos) (tPar i j (tCons ta (tCons tb tNil))) (sPar i j fa fb) := by
  refine ⟨ps_par hc hN hi hj hij hx hy (pa_cons ha.pe (pa_cons hb.pe pa_nil h2) h1) hw hs, fun F G r σ H q D ac => ?_⟩
  refine acc_bind (k := fun v H1 => tb σ H1 fun w H2 => ∃ v' w', [v, w] = [v', w'] ∧ D.nx ((σ.set i (some v')).set j (some w')) H2) q (ha.so F G r σ H q) ac fun d v G1 H1 _ e1 p1 a1 => ?_
  refine acc_bind (k := fun w H2 => ∃ v' w', [v, w] = [v', w'] ∧ D.nx ((σ.set i (some v')).set j (some w')) H2) (q.ext e1) (hb.so F G1 r σ H1 (q.ext e1)) a1 fun d2 v2 G2 H2 _ e2 p2 a2 => ?_
  exact ⟨v, v2, rfl, a2 _ G2 H2 (Same.refl G2) (((q.ext (e1.trans e2)).setD i (dm e2.gg p1)).setD j p2)⟩
end
end DL
namespace DL
open PySem L2
/-! ### a list that is data, times a whole number -/
def rRepR : R2 := fun x y H Q => ∃ l k xs, x = .ref l ∧ y = .int k ∧ Rd H l (.lst xs) ∧ -(2 ^ 63) ≤ k ∧ k < 2 ^ 63 ∧ xs.length * k.toNat ≤ sizeLine ∧
  ∀ p, H p = none → Q (.ref p) (upd H p (.lst (List.replicate k.toNat xs).flatten))
section
open PySem.Spec PyProof.Rows
variable {X : Cx}
theorem op_repR : OpR X (binaryOp .Mult) rRepR := by
  intro pins s σ H x y v u Q I rx ry h
  obtain ⟨l, k, xs, rfl, rfl, hr, k1, k2, kz, q⟩ := h
  cases rx
  obtain ⟨t, rfl⟩ := ry
  obtain ⟨z, its, n, rv, hl, e⟩ := Inv.lstR I hr
  have sz : its.toArray.size * k.toNat ≤ sizeLine := by
    rw [List.size_toArray, ← hl]
    exact kz
  have cap : ¬ (2 ^ 63 - 1) / 8 < its.toArray.size * k.toNat := by
    have : (sizeLine : Nat) ≤ (2 ^ 63 - 1) / 8 := by decide
    omega
  have fit : ¬ (!Builtin.List.listFitsIndex k) = true := fun c => by
    rw [fitsIndex_both k1 k2] at c
    cases c
  have lng : ¬ Builtin.List.listTooLong (its.toArray.size * k.toNat) = true := fun c => by
    rw [notLongL sz] at c
    cases c
  have f0 : ∀ m : Nat, List.foldl (fun a b => a ++ b) #[] (List.replicate m its.toArray) = (List.replicate m its).flatten.toArray := fun m => by
    have g := foldl_rep its m []
    rw [List.nil_append] at g
    exact g
  have nw : List.foldl (fun a b => a ++ b) #[] (List.replicate (if its.toArray.isEmpty = true then 0 else k.toNat) its.toArray) = (List.replicate k.toNat its).flatten.toArray := by
    rw [f0]
    cases its with
    | nil => simp
    | cons a r => rw [if_neg (by simp)]
  refine wpAny_binaryOp_repeat_ref (T := "list") (U := "int") (by decide) ⟨_, e, rfl⟩ (fun s' => typeIs_int s' k t) noFill_list_mul F.fills_int_mul F.slot_int_rmul repeat_list F.slot_int_index.lookup
    (call_meets F.slot_int_rmul (typeIs_int s k t) F.entry_int_rmul (F.args_int_rmul_2 _ _) (int___rmul___int_list k t l its.toArray n) ?_)
  refine ⟨e, rfl, ⟨_, e, rfl⟩, call_meets F.slot_list_mul ⟨_, e, rfl⟩ F.entry_list_mul (F.args_list_mul_2 _ _) (AutoListH.list___mul___list_int_3 l its.toArray n k t fit cap lng) ⟨e, ?_⟩⟩
  rw [nw]
  refine ⟨.ref _, _, I.lnew (t' := s.toks) (rv.rep k.toNat) ?_, rfl, q _ I.fresh⟩
  rw [PyProof.Rows.lm_len_rep_flat, Nat.mul_comm]
  exact kz
end
/-- a list times a whole number -/
theorem vo_repB {X : Cx} {W : WN} {a b : Expr} {ta tb : TE} {fa fb : En → R PyData} {pos : Pos} (ha : VB X W a ta fa) (hb : VE X W b tb fb) : VO X W (.BinOp a .Mult b pos) (tOp rRepR ta tb) (b2 fa fb repD) := by
  refine ⟨pe_op op_repR ha.pe hb.pe, fun F G ro σ H q => ?_⟩
  refine sd_bind (t' := fun x σ H1 Q => tb σ H1 fun y H2 => rRepR x y H2 Q) mO (ha.so F G ro σ H q) fun d v G1 H1 _ e1 p1 => ?_
  refine sd_bind (t' := fun y _ H2 Q => rRepR v y H2 Q) mO (hb.so F G1 ro σ H1 (q.ext e1)) fun d2 v2 G2 H2 _ e2 p2 => ?_
  cases d with
  | list ds =>
    obtain ⟨p, vs, rfl, h1, h2⟩ := (RBv.ext p1 e2).lst e2.gh
    cases d2 with
    | int k =>
      cases p2
      show Sd pO W _ σ G2 H2 (if _ then _ else _)
      split
      · rename_i hk
        have l := h2.len
        exact sd_eq (sd_lst e2.gh (h2.rep k.toNat)) fun Q z => ⟨p, k, vs, rfl, rfl, h1, hk.1, hk.2.1, by rw [l]; exact hk.2.2, z⟩
      · trivial
    | _ => trivial
  | _ => trivial
end DL
namespace DL
open PySem L2
/-! ### the functions, step by step -/
theorem nr {α : Type} {a b : α} (h : a = b) : a = b := h
theorem bn_ok {α β : Type} (a : α) (f : α → R β) : (R.ok a).bind f = f a := nr rfl
theorem bn_exc {α β : Type} (c : Str) (fs : Option (List (Str × PyData))) (f : α → R β) : (R.exc c fs : R α).bind f = .exc c fs := nr rfl
theorem bn_bad {α β : Type} (f : α → R β) : (R.bad : R α).bind f = .bad := nr rfl
theorem to_ok {α : Type} (a : α) (e : En) (f : α → O) : (R.ok a).toO e f = f a := nr rfl
theorem to_exc {α : Type} (c : Str) (fs : Option (List (Str × PyData))) (e : En) (f : α → O) : (R.exc c fs : R α).toO e f = .exc c fs e := nr rfl
theorem to_bad {α : Type} (e : En) (f : α → O) : (R.bad : R α).toO e f = .bad := nr rfl
theorem sq_nx (r : En) (f : En → O) : (O.nx r).seq f = f r := nr rfl
theorem sq_rt (d : PyData) (f : En → O) : (O.rt d).seq f = .rt d := nr rfl
theorem sq_bk (r : En) (f : En → O) : (O.bk r).seq f = .bk r := nr rfl
theorem sq_ct (r : En) (f : En → O) : (O.ct r).seq f = .ct r := nr rfl
theorem sq_exc (c : Str) (fs : Option (List (Str × PyData))) (r : En) (f : En → O) : (O.exc c fs r).seq f = .exc c fs r := nr rfl
theorem sq_bad (f : En → O) : O.bad.seq f = .bad := nr rfl
section
variable {f g h : En → R PyData} {fs : En → R (List PyData)} {c c' : En → R Bool} {s t : En → O} {r : En} {d e : PyData} {i j : Nat}
theorem sSeq_ap : sSeq s t r = (s r).seq t := nr rfl
theorem sIf_ap : sIf c s t r = (c r).toO r fun k => if k = true then s r else t r := nr rfl
theorem sRet_ap : sRet f r = (f r).toO r .rt := nr rfl
theorem sExpr_ap : sExpr f r = (f r).toO r fun _ => .nx r := nr rfl
theorem sSet_ap : sSet i f r = (f r).toO r fun d => .nx (r.set i (.dat d)) := nr rfl
theorem sSetO_ap : sSetO i f r = (f r).toO r (ownO i r) := nr rfl
theorem sFor_ap {ft : PyData → En → Option En} : sFor fs ft s r = (fs r).toO r fun items => forL ft s items r := nr rfl
theorem sFz_ap : sFz i s r = s (fzE i r) := nr rfl
theorem sFzb_ap : sFzb i s r = (s r).seq fun r' => .nx (fzE i r') := nr rfl
theorem sAsg_ap {ft : PyData → En → Option En} : sAsg f ft r = (f r).toO r (asgO ft r) := nr rfl
theorem sSetItem_ap : sSetItem i f g r = ownAt i r fun ds => (f r).toO r fun d => (g r).toO r fun ix => setC i r ds d ix := nr rfl
theorem sAugItem_ap {p : Int → Int → Int} {k : Int} : sAugItem p i f k r = ownAt i r fun ds => (f r).toO r fun ix => augC p i r ds ix (.int k) := nr rfl
theorem sAug_ap {p : Int → Int → Int} : sAug p i f r = datI i r ((f r).toO r (augN p i r)) := nr rfl
theorem sRaise_ap {x : Str} : sRaise x r = .exc x none r := nr rfl
theorem sNil_ap : sNil r = .nx r := nr rfl
theorem sBad_ap : sBad r = .bad := nr rfl
theorem mutO_ap {gm : List PyData → List PyData → Option (List PyData)} : mutO i fs gm r = ownAt i r fun ds => (fs r).toO r fun es => match gm ds es with
  | some ns => .nx (r.set i (.own ns))
  | none => .bad := nr rfl
theorem cA_ap {F : List PyData → R PyData} : cA F fs r = (fs r).bind F := nr rfl
theorem cNot_ap : cNot f r = notV (f r) := nr rfl
theorem cAnd_ap : cAnd f g r = andV (f r) (g r) := nr rfl
theorem cOr_ap : cOr f g r = orV (f r) (g r) := nr rfl
theorem cIf_ap : cIf c f g r = ifV (c r) (f r) (g r) := nr rfl
theorem cTup_ap : cTup fs r = (fs r).bind tupR := nr rfl
theorem cLst_ap : cLst fs r = (fs r).bind lstR := nr rfl
theorem pNone_ap : pNone r = .ok none := nr rfl
theorem pSome_ap : pSome f r = (f r).bind intD := nr rfl
theorem wAnd_ap : wAnd c c' r = andR (c r) (c' r) := nr rfl
theorem wOr_ap : wOr c c' r = orR (c r) (c' r) := nr rfl
theorem wNot_ap : wNot c r = notR (c r) := nr rfl
theorem wTru_ap : wTru f r = (f r).bind truD := nr rfl
theorem wCmp_ap : wCmp f r = (f r).bind boolD := nr rfl
theorem wYes_ap : wYes r = .ok true := nr rfl
theorem iA_ap {F : List PyData → R (List PyData)} : iA F fs r = (fs r).bind F := nr rfl
theorem iS_ap {F : PyData → R (List PyData)} : iS F f r = (f r).bind F := nr rfl
theorem aNil_ap : aNil r = .ok [] := nr rfl
theorem aCons_ap : aCons f fs r = (f r).bind fun x => (fs r).bind fun xs => .ok (x :: xs) := nr rfl
theorem kR_ap : kR d r = .ok d := nr rfl
theorem b2_ap {F : PyData → PyData → R PyData} : b2 f g F r = (f r).bind fun x => (g r).bind fun y => F x y := nr rfl
theorem b3_ap {F : PyData → Option Int → Option Int → R PyData} {p q : En → R (Option Int)} : b3 f p q F r = (f r).bind fun x => (p r).bind fun l => (q r).bind fun h => F x l h := nr rfl
theorem c1_ap {F : PyData → R PyData} : c1 F f r = (f r).bind F := nr rfl
theorem chainD_ap {F F' : PyData → PyData → R PyData} : chainD f g h F F' r = (f r).bind fun x => (g r).bind fun y => (F x y).bind fun z => (boolD z).bind fun k => if k = true then (h r).bind fun w => F' y w else .ok (.bool false) := nr rfl
theorem lcF_ap {fi : En → R (List PyData)} {ft : PyData → En → Option En} {vs : List Nat} : lcF fi ft c f vs r = (fi r).bind fun items => (compL ft c f (wipeE vs r) items).bind fun ds => .ok (.list ds) := nr rfl
theorem datE_ap : datE i r = match r[i]? with
  | some (.dat d) => .ok d
  | _ => .bad := nr rfl
theorem datB_ap : datB i r = match r[i]? with
  | some (.dat d) => .ok d
  | some (.own ds) => .ok (.list ds)
  | _ => .bad := nr rfl
theorem ownAt_ap {F : List PyData → O} : ownAt i r F = match r[i]? with
  | some (.own ds) => F ds
  | _ => .bad := nr rfl
/-- how a def ends -/
def endO : O → R PyData
  | .nx _ => .ok .none
  | .rt d => .ok d
  | .exc c fs _ => .exc c fs
  | _ => .bad
theorem endO_rt : endO (.rt d) = .ok d := nr rfl
theorem endO_nx : endO (.nx r) = .ok .none := nr rfl
theorem endO_exc {x : Str} {fs : Option (List (Str × PyData))} : endO (.exc x fs r) = .exc x fs := nr rfl
theorem endO_bad : endO .bad = .bad := nr rfl
theorem runF_eq {N : List Str} {ds : List PyData} : runF N s ds = endO (s (ds.map Sl.dat ++ List.replicate (N.length - ds.length) .un)) := by
  unfold runF endO
  rfl
variable {k l : Bool} {x y : R PyData} {a b : R Bool} {m n : Int} {xs ys : List PyData}
theorem andR_ok : andR (.ok k) b = if k = true then b else .ok false := nr rfl
theorem orR_ok : orR (.ok k) b = if k = true then .ok true else b := nr rfl
theorem notR_ok : notR (.ok k) = .ok (!k) := nr rfl
theorem andV_ok : andV (.ok (.bool k)) y = if k = true then y else .ok (.bool false) := nr rfl
theorem orV_ok : orV (.ok (.bool k)) y = if k = true then .ok (.bool true) else y := nr rfl
theorem notV_ok : notV (.ok d) = (truD d).bind fun k => .ok (.bool (!k)) := nr rfl
theorem ifV_ok : ifV (.ok k) x y = if k = true then x else y := nr rfl
theorem truD_b : truD (.bool k) = .ok k := nr rfl
theorem boolD_b : boolD (.bool k) = .ok k := nr rfl
theorem intD_i : intD (.int m) = .ok (some m) := nr rfl
theorem tupR_ok (h : xs.length ≤ sizeLine) : tupR xs = .ok (.tuple xs) := if_pos h
theorem lstR_ok (h : xs.length ≤ sizeLine) : lstR xs = .ok (.list xs) := if_pos h
theorem addE_ii : addE (.int m) (.int n) = .ok (.int (m + n)) := nr rfl
theorem addE_tt (h : xs.length + ys.length ≤ sizeLine) : addE (.tuple xs) (.tuple ys) = .ok (.tuple (xs ++ ys)) := if_pos h
theorem addE_ll (h : xs.length + ys.length ≤ sizeLine) : addE (.list xs) (.list ys) = .ok (.list (xs ++ ys)) := if_pos h
theorem subD_ii : subD (.int m) (.int n) = .ok (.int (m - n)) := nr rfl
theorem leD_ii : leD (.int m) (.int n) = .ok (.bool (decide (m ≤ n))) := nr rfl
theorem ltD_ii : ltD (.int m) (.int n) = .ok (.bool (decide (m < n))) := nr rfl
theorem geD_ii : geD (.int m) (.int n) = .ok (.bool (decide (n ≤ m))) := nr rfl
theorem gtI_ii : gtI (.int m) (.int n) = .ok (.bool (decide (n < m))) := nr rfl
theorem laidE_ii : laidE (.int m) (.int n) = true := by
  unfold laidE
  simp [PyData.canLay0, PyData.depth]
theorem eqv_ii : PyData.eqv (.int m) (.int n) = decide (m = n) := by
  simp only [PyData.eqv]
  exact Bool.eq_iff_iff.mpr (by rw [beq_iff_eq, decide_eq_true_eq])
theorem eqD_ii : eqD (.int m) (.int n) = .ok (.bool (decide (m = n))) := by
  unfold eqD
  rw [if_pos laidE_ii, eqv_ii]
theorem neD_ii : neD (.int m) (.int n) = .ok (.bool (!decide (m = n))) := by
  unfold neD
  rw [if_pos laidE_ii, eqv_ii]
theorem modD_ii (h : 0 < n) : modD (.int m) (.int n) = .ok (.int (m % n)) := if_pos h
theorem fdivD_ii (h : 0 < n ∧ n < 1073741824) : fdivD (.int m) (.int n) = .ok (.int (m / n)) := if_pos h
theorem mulD_ii (h : (-(2 ^ 64) < m ∧ m < 2 ^ 64) ∨ (-(2 ^ 64) < n ∧ n < 2 ^ 64)) : mulD (.int m) (.int n) = .ok (.int (m * n)) := if_pos h
theorem lenD_t : lenD (.tuple xs) = .ok (.int xs.length) := nr rfl
theorem lenD_l : lenD (.list xs) = .ok (.int xs.length) := nr rfl
theorem seqD_t : seqD (.tuple xs) = .ok xs := nr rfl
theorem seqD_l : seqD (.list xs) = .ok xs := nr rfl
theorem tupR0 : tupR [] = .ok (.tuple []) := tupR_ok (show 0 ≤ sizeLine by decide)
theorem tupR1 {z0 : PyData} : tupR [z0] = .ok (.tuple [z0]) := tupR_ok (show 1 ≤ sizeLine by decide)
theorem tupR2 {z0 z1 : PyData} : tupR [z0, z1] = .ok (.tuple [z0, z1]) := tupR_ok (show 2 ≤ sizeLine by decide)
theorem tupR3 {z0 z1 z2 : PyData} : tupR [z0, z1, z2] = .ok (.tuple [z0, z1, z2]) := tupR_ok (show 3 ≤ sizeLine by decide)
theorem tupR4 {z0 z1 z2 z3 : PyData} : tupR [z0, z1, z2, z3] = .ok (.tuple [z0, z1, z2, z3]) := tupR_ok (show 4 ≤ sizeLine by decide)
theorem lstR0 : lstR [] = .ok (.list []) := lstR_ok (show 0 ≤ sizeLine by decide)
theorem lstR1 {z0 : PyData} : lstR [z0] = .ok (.list [z0]) := lstR_ok (show 1 ≤ sizeLine by decide)
theorem lstR2 {z0 z1 : PyData} : lstR [z0, z1] = .ok (.list [z0, z1]) := lstR_ok (show 2 ≤ sizeLine by decide)
theorem lstR3 {z0 z1 z2 : PyData} : lstR [z0, z1, z2] = .ok (.list [z0, z1, z2]) := lstR_ok (show 3 ≤ sizeLine by decide)
theorem lstR4 {z0 z1 z2 z3 : PyData} : lstR [z0, z1, z2, z3] = .ok (.list [z0, z1, z2, z3]) := lstR_ok (show 4 ≤ sizeLine by decide)
theorem lstR5 {z0 z1 z2 z3 z4 : PyData} : lstR [z0, z1, z2, z3, z4] = .ok (.list [z0, z1, z2, z3, z4]) := lstR_ok (show 5 ≤ sizeLine by decide)
theorem lstR6 {z0 z1 z2 z3 z4 z5 : PyData} : lstR [z0, z1, z2, z3, z4, z5] = .ok (.list [z0, z1, z2, z3, z4, z5]) := lstR_ok (show 6 ≤ sizeLine by decide)
theorem lstR7 {z0 z1 z2 z3 z4 z5 z6 : PyData} : lstR [z0, z1, z2, z3, z4, z5, z6] = .ok (.list [z0, z1, z2, z3, z4, z5, z6]) := lstR_ok (show 7 ≤ sizeLine by decide)
theorem lstR8 {z0 z1 z2 z3 z4 z5 z6 z7 : PyData} : lstR [z0, z1, z2, z3, z4, z5, z6, z7] = .ok (.list [z0, z1, z2, z3, z4, z5, z6, z7]) := lstR_ok (show 8 ≤ sizeLine by decide)
theorem lstR9 {z0 z1 z2 z3 z4 z5 z6 z7 z8 : PyData} : lstR [z0, z1, z2, z3, z4, z5, z6, z7, z8] = .ok (.list [z0, z1, z2, z3, z4, z5, z6, z7, z8]) := lstR_ok (show 9 ≤ sizeLine by decide)
theorem negD_i : negD (.int m) = .ok (.int (-m)) := nr rfl
theorem slA3_l {lo hi : Option Int} : slA3 (.list xs) lo hi = .ok (.list (cutL xs lo hi)) := nr rfl
theorem slA3_t {lo hi : Option Int} : slA3 (.tuple xs) lo hi = .ok (.tuple (cutL xs lo hi)) := nr rfl
theorem tupleD_l : tupleD (.list xs) = .ok (.tuple xs) := nr rfl
theorem tupleD_t : tupleD (.tuple xs) = .ok (.tuple xs) := nr rfl
theorem listD_l : listD (.list xs) = .ok (.list xs) := nr rfl
theorem listD_t : listD (.tuple xs) = .ok (.list xs) := nr rfl
theorem revD_t : revD (.tuple xs) = .ok (.tuple xs.reverse) := nr rfl
theorem isi_of {T : String} {d : PyData} (h : kitB (tyD d) T = some k) : isiD T d = .ok (.bool k) := by
  unfold isiD
  rw [h]
theorem isi_tup_tup : isiD "tuple" (.tuple xs) = .ok (.bool true) := isi_of (show kitB "tuple" "tuple" = some true by decide +kernel)
theorem isi_tup_list : isiD "tuple" (.list xs) = .ok (.bool false) := isi_of (show kitB "list" "tuple" = some false by decide +kernel)
theorem isi_tup_none : isiD "tuple" .none = .ok (.bool false) := isi_of (show kitB "NoneType" "tuple" = some false by decide +kernel)
theorem isi_tup_int : isiD "tuple" (.int m) = .ok (.bool false) := isi_of (show kitB "int" "tuple" = some false by decide +kernel)
theorem isi_tup_bool : isiD "tuple" (.bool k) = .ok (.bool false) := isi_of (show kitB "bool" "tuple" = some false by decide +kernel)
theorem isi_tup_str {z : Str} : isiD "tuple" (.str z) = .ok (.bool false) := isi_of (show kitB "str" "tuple" = some false by decide +kernel)
theorem isi_tup_dict {z} : isiD "tuple" (.dict z) = .ok (.bool false) := isi_of (show kitB "dict" "tuple" = some false by decide +kernel)
theorem isi_int_int : isiD "int" (.int m) = .ok (.bool true) := isi_of (show kitB "int" "int" = some true by decide +kernel)
theorem isi_int_bool : isiD "int" (.bool k) = .ok (.bool true) := isi_of (show kitB "bool" "int" = some true by decide +kernel)
theorem isi_int_none : isiD "int" .none = .ok (.bool false) := isi_of (show kitB "NoneType" "int" = some false by decide +kernel)
theorem isi_int_str {z : Str} : isiD "int" (.str z) = .ok (.bool false) := isi_of (show kitB "str" "int" = some false by decide +kernel)
theorem isi_int_list : isiD "int" (.list xs) = .ok (.bool false) := isi_of (show kitB "list" "int" = some false by decide +kernel)
theorem isi_int_tup : isiD "int" (.tuple xs) = .ok (.bool false) := isi_of (show kitB "tuple" "int" = some false by decide +kernel)
theorem isi_int_dict {z} : isiD "int" (.dict z) = .ok (.bool false) := isi_of (show kitB "dict" "int" = some false by decide +kernel)
theorem isi_bool_int : isiD "bool" (.int m) = .ok (.bool false) := isi_of (show kitB "int" "bool" = some false by decide +kernel)
theorem isi_bool_bool : isiD "bool" (.bool k) = .ok (.bool true) := isi_of (show kitB "bool" "bool" = some true by decide +kernel)
theorem isi_bool_none : isiD "bool" .none = .ok (.bool false) := isi_of (show kitB "NoneType" "bool" = some false by decide +kernel)
theorem isi_bool_str {z : Str} : isiD "bool" (.str z) = .ok (.bool false) := isi_of (show kitB "str" "bool" = some false by decide +kernel)
theorem isi_bool_list : isiD "bool" (.list xs) = .ok (.bool false) := isi_of (show kitB "list" "bool" = some false by decide +kernel)
theorem isi_bool_tup : isiD "bool" (.tuple xs) = .ok (.bool false) := isi_of (show kitB "tuple" "bool" = some false by decide +kernel)
theorem isi_bool_dict {z} : isiD "bool" (.dict z) = .ok (.bool false) := isi_of (show kitB "dict" "bool" = some false by decide +kernel)
end
end DL
namespace Com
open PySem L2 DL
def f_in_range : En → O :=
  (sRet (cAnd (c1 (isiD "int") (datB 0)) (cAnd (cNot (c1 (isiD "bool") (datB 0))) (chainD (datB 1) (datB 0) (datB 2) leD leD))))
def m_in_range : List PyData → R PyData := runF ["value", "low", "high"] f_in_range
theorem r_in_range {a0 a1 a2 : PyData} : m_in_range [a0, a1, a2] = endO (f_in_range [.dat a0, .dat a1, .dat a2]) := runF_eq
def f_is_edge : En → O :=
  (sSeq (sIf (wOr (wNot (wTru (c1 (isiD "tuple") (datB 1)))) (wOr (wCmp (b2 (c1 lenD (datB 1)) (kR (.int 2)) neD)) (wNot (wTru (cA m_in_range (aCons (b2 (datB 1) (kR (.int 0)) ixD) (aCons (kR (.int 0)) (aCons (b2 (datB 0) (kR (.int 1)) subD) aNil))))))))
  (sRet (kR (.bool false)))
  sNil)
  (sRet (cA m_in_range (aCons (b2 (datB 1) (kR (.int 1)) ixD) (aCons (b2 (b2 (datB 1) (kR (.int 0)) ixD) (kR (.int 1)) addE) (aCons (b2 (datB 0) (kR (.int 1)) subD) aNil))))))
def m_is_edge : List PyData → R PyData := runF ["vertices", "value"] f_is_edge
theorem r_is_edge {a0 a1 : PyData} : m_is_edge [a0, a1] = endO (f_is_edge [.dat a0, .dat a1]) := runF_eq
def f_is_graph : En → O :=
  (sSeq (sIf (wOr (wNot (wTru (c1 (isiD "tuple") (datB 0)))) (wOr (wCmp (b2 (c1 lenD (datB 0)) (kR (.int 2)) neD)) (wNot (wTru (cA m_in_range (aCons (b2 (datB 0) (kR (.int 0)) ixD) (aCons (kR (.int 1)) (aCons (kR (.int 7)) aNil))))))))
  (sRet (kR (.bool false)))
  sNil)
  (sSeq (sIf (wOr (wNot (wTru (c1 (isiD "tuple") (b2 (datB 0) (kR (.int 1)) ixD)))) (wCmp (b2 (c1 lenD (b2 (datB 0) (kR (.int 1)) ixD)) (kR (.int 12)) gtI)))
  (sRet (kR (.bool false)))
  sNil)
  (sSeq (sIf (wTru (lcF (iS seqD (b2 (datB 0) (kR (.int 1)) ixD)) (gN 1) (wNot (wTru (cA m_is_edge (aCons (b2 (datB 0) (kR (.int 0)) ixD) (aCons (datE 1) aNil))))) (datE 1) [1]))
  (sRet (kR (.bool false)))
  sNil)
  (sRet (cNot (lcF (iA zip2 (aCons (b2 (datB 0) (kR (.int 1)) ixD) (aCons (b3 (b2 (datB 0) (kR (.int 1)) ixD) (pSome (kR (.int 1))) pNone slA3) aNil))) (gT (gsC (gN 1) (gsC (gN 2) gsN))) (wCmp (b2 (datB 1) (datB 2) geD)) (kR (.int 1)) [1, 2]))))))
def m_is_graph : List PyData → R PyData := runF ["value", "edge", "following"] f_is_graph
theorem r_is_graph {a0 : PyData} : m_is_graph [a0] = endO (f_is_graph [.dat a0, .un, .un]) := runF_eq
def f_check_graph : En → O :=
  (sIf (wNot (wTru (cA m_is_graph (aCons (datE 0) aNil))))
  (sRaise "InvalidGraph")
  sNil)
def m_check_graph : List PyData → R PyData := runF ["graph"] f_check_graph
theorem r_check_graph {a0 : PyData} : m_check_graph [a0] = endO (f_check_graph [.dat a0]) := runF_eq
def f_are_wishes : En → O :=
  (sSeq (sIf (wOr (wNot (wTru (c1 (isiD "tuple") (datB 1)))) (wCmp (b2 (c1 lenD (datB 1)) (b2 (datB 0) (kR (.int 0)) ixD) neD)))
  (sRet (kR (.bool false)))
  sNil)
  (sRet (cNot (lcF (iS seqD (datE 1)) (gN 2) (wNot (wTru (cA m_in_range (aCons (datE 2) (aCons (kR (.int 0)) (aCons (kR (.int 6)) aNil)))))) (datE 2) [2]))))
def m_are_wishes : List PyData → R PyData := runF ["graph", "value", "wish"] f_are_wishes
theorem r_are_wishes {a0 a1 : PyData} : m_are_wishes [a0, a1] = endO (f_are_wishes [.dat a0, .dat a1, .un]) := runF_eq
def f_check_wishes : En → O :=
  (sSeq (sExpr (cA m_check_graph (aCons (datE 0) aNil)))
  (sIf (wNot (wTru (cA m_are_wishes (aCons (datE 0) (aCons (datE 1) aNil)))))
  (sRaise "InvalidWishes")
  sNil))
def m_check_wishes : List PyData → R PyData := runF ["graph", "wishes"] f_check_wishes
theorem r_check_wishes {a0 a1 : PyData} : m_check_wishes [a0, a1] = endO (f_check_wishes [.dat a0, .dat a1]) := runF_eq
def f_law_cell : En → O :=
  (sSeq (sIf (wCmp (b2 (datB 1) (c1 lenD (datB 0)) ltD))
  (sRet (b2 (datB 0) (datB 1) ixD))
  sNil)
  (sRet (kR (.int 0))))
def m_law_cell : List PyData → R PyData := runF ["script", "k"] f_law_cell
theorem r_law_cell {a0 a1 : PyData} : m_law_cell [a0, a1] = endO (f_law_cell [.dat a0, .dat a1]) := runF_eq
def f_law_whole : En → O :=
  (sRet (cAnd (c1 (isiD "int") (datB 0)) (cNot (c1 (isiD "bool") (datB 0)))))
def m_law_whole : List PyData → R PyData := runF ["found"] f_law_whole
theorem r_law_whole {a0 : PyData} : m_law_whole [a0] = endO (f_law_whole [.dat a0]) := runF_eq
def f_law_row : En → O :=
  (sSeq (sSet 2 (cA m_law_cell (aCons (datE 0) (aCons (datE 1) aNil))))
  (sSeq (sSetO 3 (cLst aNil))
  (sSeq (sFor (iA rng1 (aCons (kR (.int 60)) aNil)) (gN 4)
  (sIf (wCmp (b2 (cA m_law_cell (aCons (datE 0) (aCons (datE 1) aNil))) (b2 (kR (.int 10)) (kR (.int 18)) powD) ltD))
  (sSeq (sSet 2 (b2 (b2 (b2 (b2 (b2 (datB 2) (kR (.int 48271)) mulD) (b2 (kR (.int 131)) (datB 4) mulD) addE) (kR (.int 7)) addE) (cA m_law_cell (aCons (datE 0) (aCons (b2 (b2 (b2 (datB 1) (kR (.int 1)) addE) (datB 4) addE) (kR (.int 20)) modD) aNil))) addE) (kR (.int 2147483647)) modD))
  (mutO 3 (aCons (b2 (b2 (datB 2) (kR (.int 11)) fdivD) (kR (.int 1000)) modD) aNil) gApp))
  (sSeq (mutO 3 (aCons (b2 (datB 2) (kR (.int 1000)) modD) aNil) gApp)
  (sSet 2 (b2 (datB 2) (kR (.int 1000)) fdivD)))))
  (sFz 3 (sRet (datE 3))))))
def m_law_row : List PyData → R PyData := runF ["script", "at", "cell", "found", "time"] f_law_row
theorem r_law_row {a0 a1 : PyData} : m_law_row [a0, a1] = endO (f_law_row [.dat a0, .dat a1, .un, .un, .un]) := runF_eq
def f_law_in : En → O :=
  (sRet (cAnd (cA m_law_whole (aCons (datE 0) aNil)) (chainD (datB 1) (datB 0) (datB 2) leD leD)))
def m_law_in : List PyData → R PyData := runF ["thing", "low", "high"] f_law_in
theorem r_law_in {a0 a1 a2 : PyData} : m_law_in [a0, a1, a2] = endO (f_law_in [.dat a0, .dat a1, .dat a2]) := runF_eq
def f_law_graph : En → O :=
  (sSeq (sSet 4 (cA m_law_row (aCons (datE 0) (aCons (datE 1) aNil))))
  (sSeq (sSet 5 (b2 (kR (.int 1)) (b2 (b2 (datB 4) (kR (.int 0)) ixD) (datB 2) modD) addE))
  (sSeq (sSetO 6 (cLst aNil))
  (sSeq (sFor (iA rng1 (aCons (datE 5) aNil)) (gN 7)
  (sFor (iA rng2 (aCons (b2 (datB 7) (kR (.int 1)) addE) (aCons (datE 5) aNil))) (gN 8)
  (mutO 6 (aCons (cTup (aCons (datE 7) (aCons (datE 8) aNil))) aNil) gApp)))
  (sSeq (sFzb 9 (sSetO 9 (lcF (iA rng1 (aCons (c1 lenD (datB 6)) aNil)) (gN 11) wYes (cTup (aCons (b2 (b2 (datB 4) (b2 (kR (.int 2)) (datB 11) addE) ixD) (kR (.int 97)) modD) (aCons (b2 (datB 6) (datB 11) ixD) aNil))) [11])))
  (sSeq (sSet 10 (b2 (b2 (datB 4) (kR (.int 1)) ixD) (b2 (b2 (datB 3) (c1 lenD (datB 6)) min2D) (kR (.int 1)) addE) modD))
  (sSeq (sSet 10 (cIf (wAnd (wCmp (b2 (b2 (b2 (datB 4) (kR (.int 1)) ixD) (kR (.int 5)) modD) (kR (.int 0)) eqD)) (wCmp (b2 (c1 lenD (datB 6)) (datB 3) leD))) (c1 lenD (datB 6)) (datE 10)))
  (sRet (cTup (aCons (datE 5) (aCons (c1 tupleD (c1 sortD (lcF (iS seqD (b3 (c1 sortD (datB 9)) pNone (pSome (datE 10)) slA3)) (gT (gsC (gN 12) (gsC (gN 13) gsN))) wYes (datE 13) [12, 13]))) aNil)))))))))))
def m_law_graph : List PyData → R PyData := runF ["script", "at", "most_vertices", "most_edges", "draws", "vertices", "every", "one", "other", "keyed", "many", "place", "number", "edge"] f_law_graph
theorem r_law_graph {a0 a1 a2 a3 : PyData} : m_law_graph [a0, a1, a2, a3] = endO (f_law_graph [.dat a0, .dat a1, .dat a2, .dat a3, .un, .un, .un, .un, .un, .un, .un, .un, .un, .un]) := runF_eq
def f_law_is_graph : En → O :=
  (sSeq (sIf (wOr (wNot (wTru (c1 (isiD "tuple") (datB 0)))) (wOr (wCmp (b2 (c1 lenD (datB 0)) (kR (.int 2)) neD)) (wNot (wTru (cA m_law_in (aCons (b2 (datB 0) (kR (.int 0)) ixD) (aCons (kR (.int 1)) (aCons (kR (.int 7)) aNil))))))))
  (sRet (kR (.bool false)))
  sNil)
  (sSeq (sIf (wOr (wNot (wTru (c1 (isiD "tuple") (b2 (datB 0) (kR (.int 1)) ixD)))) (wCmp (b2 (c1 lenD (b2 (datB 0) (kR (.int 1)) ixD)) (kR (.int 12)) gtI)))
  (sRet (kR (.bool false)))
  sNil)
  (sSeq (sSet 1 (cTup (aCons (c1 negD (kR (.int 1))) (aCons (c1 negD (kR (.int 1))) aNil))))
  (sSeq (sFor (iS seqD (b2 (datB 0) (kR (.int 1)) ixD)) (gN 2)
  (sSeq (sIf (wOr (wNot (wTru (c1 (isiD "tuple") (datB 2)))) (wOr (wCmp (b2 (c1 lenD (datB 2)) (kR (.int 2)) neD)) (wNot (wTru (cA m_law_in (aCons (b2 (datB 2) (kR (.int 0)) ixD) (aCons (kR (.int 0)) (aCons (b2 (b2 (datB 0) (kR (.int 0)) ixD) (kR (.int 1)) subD) aNil))))))))
  (sRet (kR (.bool false)))
  sNil)
  (sSeq (sIf (wOr (wNot (wTru (cA m_law_in (aCons (b2 (datB 2) (kR (.int 1)) ixD) (aCons (b2 (b2 (datB 2) (kR (.int 0)) ixD) (kR (.int 1)) addE) (aCons (b2 (b2 (datB 0) (kR (.int 0)) ixD) (kR (.int 1)) subD) aNil)))))) (wCmp (b2 (datB 2) (datB 1) leD)))
  (sRet (kR (.bool false)))
  sNil)
  (sSet 1 (datE 2)))))
  (sRet (kR (.bool true)))))))
def m_law_is_graph : List PyData → R PyData := runF ["value", "last", "one"] f_law_is_graph
theorem r_law_is_graph {a0 : PyData} : m_law_is_graph [a0] = endO (f_law_is_graph [.dat a0, .un, .un]) := runF_eq
end Com
namespace DL
open PySem L2
/-! ### loops and comprehensions -/
theorem compL_eq {ft : PyData → En → Option En} {fc : En → R Bool} {fe : En → R PyData} {r0 : En} {P : PyData → Bool} {E : PyData → PyData} : ∀ items : List PyData,
    (∀ x ∈ items, ∃ r1, ft x r0 = some r1 ∧ fc r1 = .ok (P x) ∧ (P x = true → fe r1 = .ok (E x))) → compL ft fc fe r0 items = .ok ((items.filter P).map E)
  | [], _ => rfl
  | x :: xs, h => by
    obtain ⟨r1, h1, h2, h3⟩ := h x List.mem_cons_self
    have ih := compL_eq xs fun y m => h y (List.mem_cons_of_mem _ m)
    unfold compL
    rw [h1]
    show ((fc r1).nox.bind fun k => _) = _
    rw [h2]
    show (if P x = true then (fe r1).nox.bind fun d => (compL ft fc fe r0 xs).bind fun ds => .ok (d :: ds) else compL ft fc fe r0 xs) = _
    cases e : P x with
    | true =>
      rw [if_pos rfl, h3 e, ih, List.filter_cons, if_pos e]
      rfl
    | false =>
      rw [if_neg Bool.false_ne_true, ih, List.filter_cons, if_neg (by rw [e]; exact Bool.false_ne_true)]
theorem forL_rel {α : Type} {ft : PyData → En → Option En} {fb : En → O} (I : α → En → Prop) (step : α → PyData → α) : ∀ (items : List PyData) (a : α) (r : En),
    (∀ a r x, x ∈ items → I a r → ∃ r1, ft x r = some r1 ∧ ∃ r2, fb r1 = .nx r2 ∧ I (step a x) r2) → I a r → ∃ r', forL ft fb items r = .nx r' ∧ I (items.foldl step a) r'
  | [], a, r, _, h => ⟨r, rfl, h⟩
  | x :: xs, a, r, hs, h => by
    obtain ⟨r1, h1, r2, h2, h3⟩ := hs a r x List.mem_cons_self h
    obtain ⟨r', h4, h5⟩ := forL_rel I step xs (step a x) r2 (fun a r y m => hs a r y (List.mem_cons_of_mem _ m)) h3
    refine ⟨r', ?_, h5⟩
    unfold forL
    rw [h1]
    show (match fb r1 with
      | .nx r2 => forL ft fb xs r2
      | .ct r2 => forL ft fb xs r2
      | .bk r2 => .nx r2
      | .rt d => .rt d
      | .exc c fs r2 => .exc c fs r2
      | .bad => .bad) = _
    rw [h2]
    exact h4
/-- a loop that may end the def -/
def goL {α : Type} (step : α → PyData → Option α) : List PyData → α → Option α
  | [], a => some a
  | x :: xs, a => (step a x).bind (goL step xs)
theorem forL_ret {α : Type} {ft : PyData → En → Option En} {fb : En → O} (I : α → En → Prop) (step : α → PyData → Option α) (d : PyData) : ∀ (items : List PyData) (a : α) (r : En),
    (∀ a r x, x ∈ items → I a r → ∃ r1, ft x r = some r1 ∧ match step a x with
      | some a' => ∃ r2, fb r1 = .nx r2 ∧ I a' r2
      | none => fb r1 = .rt d) → I a r → match goL step items a with
      | some a' => ∃ r', forL ft fb items r = .nx r' ∧ I a' r'
      | none => forL ft fb items r = .rt d
  | [], a, r, _, h => ⟨r, rfl, h⟩
  | x :: xs, a, r, hs, h => by
    obtain ⟨r1, h1, h2⟩ := hs a r x List.mem_cons_self h
    have e0 : forL ft fb (x :: xs) r = (match fb r1 with
      | .nx r2 => forL ft fb xs r2
      | .ct r2 => forL ft fb xs r2
      | .bk r2 => .nx r2
      | .rt d => .rt d
      | .exc c fs r2 => .exc c fs r2
      | .bad => .bad) := by
      rw [forL]
      rw [h1]
      all_goals exact rfl
    cases e : step a x with
    | none =>
      rw [e] at h2
      show match (step a x).bind (goL step xs) with
        | some a' => _
        | none => _
      rw [e]
      show forL ft fb (x :: xs) r = .rt d
      rw [e0, h2]
    | some a' =>
      rw [e] at h2
      obtain ⟨r2, h3, h4⟩ := h2
      have ih := forL_ret I step d xs a' r2 (fun a r y m => hs a r y (List.mem_cons_of_mem _ m)) h4
      show match (step a x).bind (goL step xs) with
        | some a' => _
        | none => _
      rw [e]
      show match goL step xs a' with
        | some a' => _
        | none => _
      rw [e0, h3]
      exact ih
end DL
namespace Com
open PySem L2 DL
/-! ### numbers in a range -/
def inR (lo hi : Int) : PyData → Bool
  | .int v => decide (lo ≤ v) && decide (v ≤ hi)
  | _ => false
theorem in_range_eq (d : PyData) (lo hi : Int) : m_in_range [d, .int lo, .int hi] = .ok (.bool (inR lo hi d)) := by
  rw [r_in_range]
  cases d with
  | int v =>
    by_cases h : lo ≤ v <;> simp [f_in_range, sSeq_ap, sIf_ap, sRet_ap, sExpr_ap, sSet_ap, sSetO_ap, sFor_ap, sFz_ap, sFzb_ap, sAsg_ap, sSetItem_ap, sAugItem_ap, sAug_ap, sRaise_ap, sNil_ap, sBad_ap, mutO_ap, cA_ap, cNot_ap, cAnd_ap, cOr_ap, cIf_ap, cTup_ap, cLst_ap, pNone_ap, pSome_ap, wAnd_ap, wOr_ap, wNot_ap, wTru_ap, wCmp_ap, wYes_ap, iA_ap, iS_ap, aNil_ap, aCons_ap, kR_ap, b2_ap, b3_ap, c1_ap, chainD_ap, lcF_ap, datE_ap, datB_ap, ownAt_ap, endO_rt, endO_nx, endO_exc, endO_bad, bn_ok, bn_exc, bn_bad, to_ok, to_exc, to_bad, sq_nx, sq_rt, sq_bk, sq_ct, sq_exc, sq_bad, andR_ok, orR_ok, notR_ok, andV_ok, orV_ok, notV_ok, ifV_ok, truD_b, boolD_b, intD_i, tupR0, tupR1, tupR2, tupR3, tupR4, lstR0, lstR1, lstR2, lstR3, lstR4, lstR5, lstR6, lstR7, lstR8, lstR9, negD_i, slA3_l, slA3_t, tupleD_l, tupleD_t, listD_l, listD_t, revD_t, addE_ii, subD_ii, leD_ii, ltD_ii, geD_ii, gtI_ii, eqD_ii, neD_ii, isi_tup_tup, isi_tup_list, isi_tup_none, isi_tup_int, isi_tup_bool, isi_tup_str, isi_tup_dict, isi_int_int, isi_int_bool, isi_int_none, isi_int_str, isi_int_list, isi_int_tup, isi_int_dict, isi_bool_int, isi_bool_bool, isi_bool_none, isi_bool_str, isi_bool_list, isi_bool_tup, isi_bool_dict, lenD_t, lenD_l, seqD_l, seqD_t, List.getElem?_cons_zero, List.getElem?_cons_succ, List.set_cons_zero, List.set_cons_succ, ↓reduceIte, Bool.false_eq_true, Bool.not_true, Bool.not_false, inR, h]
  | _ => simp only [f_in_range, sSeq_ap, sIf_ap, sRet_ap, sExpr_ap, sSet_ap, sSetO_ap, sFor_ap, sFz_ap, sFzb_ap, sAsg_ap, sSetItem_ap, sAugItem_ap, sAug_ap, sRaise_ap, sNil_ap, sBad_ap, mutO_ap, cA_ap, cNot_ap, cAnd_ap, cOr_ap, cIf_ap, cTup_ap, cLst_ap, pNone_ap, pSome_ap, wAnd_ap, wOr_ap, wNot_ap, wTru_ap, wCmp_ap, wYes_ap, iA_ap, iS_ap, aNil_ap, aCons_ap, kR_ap, b2_ap, b3_ap, c1_ap, chainD_ap, lcF_ap, datE_ap, datB_ap, ownAt_ap, endO_rt, endO_nx, endO_exc, endO_bad, bn_ok, bn_exc, bn_bad, to_ok, to_exc, to_bad, sq_nx, sq_rt, sq_bk, sq_ct, sq_exc, sq_bad, andR_ok, orR_ok, notR_ok, andV_ok, orV_ok, notV_ok, ifV_ok, truD_b, boolD_b, intD_i, tupR0, tupR1, tupR2, tupR3, tupR4, lstR0, lstR1, lstR2, lstR3, lstR4, lstR5, lstR6, lstR7, lstR8, lstR9, negD_i, slA3_l, slA3_t, tupleD_l, tupleD_t, listD_l, listD_t, revD_t, addE_ii, subD_ii, leD_ii, ltD_ii, geD_ii, gtI_ii, eqD_ii, neD_ii, isi_tup_tup, isi_tup_list, isi_tup_none, isi_tup_int, isi_tup_bool, isi_tup_str, isi_tup_dict, isi_int_int, isi_int_bool, isi_int_none, isi_int_str, isi_int_list, isi_int_tup, isi_int_dict, isi_bool_int, isi_bool_bool, isi_bool_none, isi_bool_str, isi_bool_list, isi_bool_tup, isi_bool_dict, lenD_t, lenD_l, seqD_l, seqD_t, List.getElem?_cons_zero, List.getElem?_cons_succ, List.set_cons_zero, List.set_cons_succ, ↓reduceIte, Bool.false_eq_true, Bool.not_true, Bool.not_false, inR]
theorem law_whole_eq (d : PyData) : m_law_whole [d] = .ok (.bool (match d with | .int _ => true | _ => false)) := by
  rw [r_law_whole]
  cases d with
  | _ => simp only [f_law_whole, sSeq_ap, sIf_ap, sRet_ap, sExpr_ap, sSet_ap, sSetO_ap, sFor_ap, sFz_ap, sFzb_ap, sAsg_ap, sSetItem_ap, sAugItem_ap, sAug_ap, sRaise_ap, sNil_ap, sBad_ap, mutO_ap, cA_ap, cNot_ap, cAnd_ap, cOr_ap, cIf_ap, cTup_ap, cLst_ap, pNone_ap, pSome_ap, wAnd_ap, wOr_ap, wNot_ap, wTru_ap, wCmp_ap, wYes_ap, iA_ap, iS_ap, aNil_ap, aCons_ap, kR_ap, b2_ap, b3_ap, c1_ap, chainD_ap, lcF_ap, datE_ap, datB_ap, ownAt_ap, endO_rt, endO_nx, endO_exc, endO_bad, bn_ok, bn_exc, bn_bad, to_ok, to_exc, to_bad, sq_nx, sq_rt, sq_bk, sq_ct, sq_exc, sq_bad, andR_ok, orR_ok, notR_ok, andV_ok, orV_ok, notV_ok, ifV_ok, truD_b, boolD_b, intD_i, tupR0, tupR1, tupR2, tupR3, tupR4, lstR0, lstR1, lstR2, lstR3, lstR4, lstR5, lstR6, lstR7, lstR8, lstR9, negD_i, slA3_l, slA3_t, tupleD_l, tupleD_t, listD_l, listD_t, revD_t, addE_ii, subD_ii, leD_ii, ltD_ii, geD_ii, gtI_ii, eqD_ii, neD_ii, isi_tup_tup, isi_tup_list, isi_tup_none, isi_tup_int, isi_tup_bool, isi_tup_str, isi_tup_dict, isi_int_int, isi_int_bool, isi_int_none, isi_int_str, isi_int_list, isi_int_tup, isi_int_dict, isi_bool_int, isi_bool_bool, isi_bool_none, isi_bool_str, isi_bool_list, isi_bool_tup, isi_bool_dict, lenD_t, lenD_l, seqD_l, seqD_t, List.getElem?_cons_zero, List.getElem?_cons_succ, List.set_cons_zero, List.set_cons_succ, ↓reduceIte, Bool.false_eq_true, Bool.not_true, Bool.not_false]
theorem law_in_eq (d : PyData) (lo hi : Int) : m_law_in [d, .int lo, .int hi] = .ok (.bool (inR lo hi d)) := by
  rw [r_law_in]
  cases d with
  | int v =>
    by_cases h : lo ≤ v <;> simp [f_law_in, sSeq_ap, sIf_ap, sRet_ap, sExpr_ap, sSet_ap, sSetO_ap, sFor_ap, sFz_ap, sFzb_ap, sAsg_ap, sSetItem_ap, sAugItem_ap, sAug_ap, sRaise_ap, sNil_ap, sBad_ap, mutO_ap, cA_ap, cNot_ap, cAnd_ap, cOr_ap, cIf_ap, cTup_ap, cLst_ap, pNone_ap, pSome_ap, wAnd_ap, wOr_ap, wNot_ap, wTru_ap, wCmp_ap, wYes_ap, iA_ap, iS_ap, aNil_ap, aCons_ap, kR_ap, b2_ap, b3_ap, c1_ap, chainD_ap, lcF_ap, datE_ap, datB_ap, ownAt_ap, endO_rt, endO_nx, endO_exc, endO_bad, bn_ok, bn_exc, bn_bad, to_ok, to_exc, to_bad, sq_nx, sq_rt, sq_bk, sq_ct, sq_exc, sq_bad, andR_ok, orR_ok, notR_ok, andV_ok, orV_ok, notV_ok, ifV_ok, truD_b, boolD_b, intD_i, tupR0, tupR1, tupR2, tupR3, tupR4, lstR0, lstR1, lstR2, lstR3, lstR4, lstR5, lstR6, lstR7, lstR8, lstR9, negD_i, slA3_l, slA3_t, tupleD_l, tupleD_t, listD_l, listD_t, revD_t, addE_ii, subD_ii, leD_ii, ltD_ii, geD_ii, gtI_ii, eqD_ii, neD_ii, isi_tup_tup, isi_tup_list, isi_tup_none, isi_tup_int, isi_tup_bool, isi_tup_str, isi_tup_dict, isi_int_int, isi_int_bool, isi_int_none, isi_int_str, isi_int_list, isi_int_tup, isi_int_dict, isi_bool_int, isi_bool_bool, isi_bool_none, isi_bool_str, isi_bool_list, isi_bool_tup, isi_bool_dict, lenD_t, lenD_l, seqD_l, seqD_t, List.getElem?_cons_zero, List.getElem?_cons_succ, List.set_cons_zero, List.set_cons_succ, ↓reduceIte, Bool.false_eq_true, Bool.not_true, Bool.not_false, inR, h, law_whole_eq]
  | _ => simp only [f_law_in, sSeq_ap, sIf_ap, sRet_ap, sExpr_ap, sSet_ap, sSetO_ap, sFor_ap, sFz_ap, sFzb_ap, sAsg_ap, sSetItem_ap, sAugItem_ap, sAug_ap, sRaise_ap, sNil_ap, sBad_ap, mutO_ap, cA_ap, cNot_ap, cAnd_ap, cOr_ap, cIf_ap, cTup_ap, cLst_ap, pNone_ap, pSome_ap, wAnd_ap, wOr_ap, wNot_ap, wTru_ap, wCmp_ap, wYes_ap, iA_ap, iS_ap, aNil_ap, aCons_ap, kR_ap, b2_ap, b3_ap, c1_ap, chainD_ap, lcF_ap, datE_ap, datB_ap, ownAt_ap, endO_rt, endO_nx, endO_exc, endO_bad, bn_ok, bn_exc, bn_bad, to_ok, to_exc, to_bad, sq_nx, sq_rt, sq_bk, sq_ct, sq_exc, sq_bad, andR_ok, orR_ok, notR_ok, andV_ok, orV_ok, notV_ok, ifV_ok, truD_b, boolD_b, intD_i, tupR0, tupR1, tupR2, tupR3, tupR4, lstR0, lstR1, lstR2, lstR3, lstR4, lstR5, lstR6, lstR7, lstR8, lstR9, negD_i, slA3_l, slA3_t, tupleD_l, tupleD_t, listD_l, listD_t, revD_t, addE_ii, subD_ii, leD_ii, ltD_ii, geD_ii, gtI_ii, eqD_ii, neD_ii, isi_tup_tup, isi_tup_list, isi_tup_none, isi_tup_int, isi_tup_bool, isi_tup_str, isi_tup_dict, isi_int_int, isi_int_bool, isi_int_none, isi_int_str, isi_int_list, isi_int_tup, isi_int_dict, isi_bool_int, isi_bool_bool, isi_bool_none, isi_bool_str, isi_bool_list, isi_bool_tup, isi_bool_dict, lenD_t, lenD_l, seqD_l, seqD_t, List.getElem?_cons_zero, List.getElem?_cons_succ, List.set_cons_zero, List.set_cons_succ, ↓reduceIte, Bool.false_eq_true, Bool.not_true, Bool.not_false, inR, law_whole_eq]
/-! ### edges -/
theorem atI_nat {α : Type} {xs : List α} {i : Int} (h : 0 ≤ i) : atI xs i = xs[i.toNat]? := by
  unfold atI ixN
  rw [if_pos h]
  by_cases h1 : i < (xs.length : Int)
  · rw [if_pos h1]
    rfl
  · rw [if_neg h1]
    exact (List.getElem?_eq_none (by omega)).symm
theorem ix_l {xs : List PyData} {i : Int} {d : PyData} (h : 0 ≤ i) (e : xs[i.toNat]? = some d) : ixD (.list xs) (.int i) = .ok d := by
  simp only [ixD, atI_nat h, e]
theorem ix_t {xs : List PyData} {i : Int} {d : PyData} (h : 0 ≤ i) (e : xs[i.toNat]? = some d) : ixD (.tuple xs) (.int i) = .ok d := by
  simp only [ixD, atI_nat h, e]
theorem ix_t0 {a : PyData} {r : List PyData} : ixD (.tuple (a :: r)) (.int 0) = .ok a := ix_t (by decide) rfl
theorem ix_t1 {a b : PyData} {r : List PyData} : ixD (.tuple (a :: b :: r)) (.int 1) = .ok b := ix_t (by decide) rfl
def isE (v : Int) : PyData → Bool
  | .tuple [.int x, b] => decide (0 ≤ x) && decide (x ≤ v - 1) && inR (x + 1) (v - 1) b
  | _ => false
theorem len_ne2 {xs : List PyData} (h : ∀ a b, xs ≠ [a, b]) : ((xs.length : Nat) : Int) ≠ 2 := by
  intro e
  match xs, e, h with
  | [], e, _ => exact absurd e (by decide)
  | [a], e, _ => exact absurd e (by simp)
  | [a, b], _, h => exact h a b rfl
  | a :: b :: c :: r, e, _ =>
    simp only [List.length_cons] at e
    omega
theorem is_edge_eq (v : Int) (d : PyData) : m_is_edge [.int v, d] = .ok (.bool (isE v d)) := by
  rw [r_is_edge]
  cases d with
  | tuple xs =>
    by_cases h : ∃ a b, xs = [a, b]
    · obtain ⟨a, b, rfl⟩ := h
      cases hr : inR 0 (v - 1) a with
      | true =>
        cases a with
        | int x =>
          have hx : (decide (0 ≤ x) && decide (x ≤ v - 1)) = true := hr
          simp [f_is_edge, sSeq_ap, sIf_ap, sRet_ap, sExpr_ap, sSet_ap, sSetO_ap, sFor_ap, sFz_ap, sFzb_ap, sAsg_ap, sSetItem_ap, sAugItem_ap, sAug_ap, sRaise_ap, sNil_ap, sBad_ap, mutO_ap, cA_ap, cNot_ap, cAnd_ap, cOr_ap, cIf_ap, cTup_ap, cLst_ap, pNone_ap, pSome_ap, wAnd_ap, wOr_ap, wNot_ap, wTru_ap, wCmp_ap, wYes_ap, iA_ap, iS_ap, aNil_ap, aCons_ap, kR_ap, b2_ap, b3_ap, c1_ap, chainD_ap, lcF_ap, datE_ap, datB_ap, ownAt_ap, endO_rt, endO_nx, endO_exc, endO_bad, bn_ok, bn_exc, bn_bad, to_ok, to_exc, to_bad, sq_nx, sq_rt, sq_bk, sq_ct, sq_exc, sq_bad, andR_ok, orR_ok, notR_ok, andV_ok, orV_ok, notV_ok, ifV_ok, truD_b, boolD_b, intD_i, tupR0, tupR1, tupR2, tupR3, tupR4, lstR0, lstR1, lstR2, lstR3, lstR4, lstR5, lstR6, lstR7, lstR8, lstR9, negD_i, slA3_l, slA3_t, tupleD_l, tupleD_t, listD_l, listD_t, revD_t, addE_ii, subD_ii, leD_ii, ltD_ii, geD_ii, gtI_ii, eqD_ii, neD_ii, isi_tup_tup, isi_tup_list, isi_tup_none, isi_tup_int, isi_tup_bool, isi_tup_str, isi_tup_dict, isi_int_int, isi_int_bool, isi_int_none, isi_int_str, isi_int_list, isi_int_tup, isi_int_dict, isi_bool_int, isi_bool_bool, isi_bool_none, isi_bool_str, isi_bool_list, isi_bool_tup, isi_bool_dict, lenD_t, lenD_l, seqD_l, seqD_t, List.getElem?_cons_zero, List.getElem?_cons_succ, List.set_cons_zero, List.set_cons_succ, ↓reduceIte, Bool.false_eq_true, Bool.not_true, Bool.not_false, in_range_eq, ix_t0, ix_t1, hr, isE, hx]
        | _ => cases hr
      | false =>
        have e : isE v (.tuple [a, b]) = false := by
          cases a with
          | int x =>
            have hx : (decide (0 ≤ x) && decide (x ≤ v - 1)) = false := hr
            simp only [isE, hx, Bool.false_and]
          | _ => rfl
        simp [f_is_edge, sSeq_ap, sIf_ap, sRet_ap, sExpr_ap, sSet_ap, sSetO_ap, sFor_ap, sFz_ap, sFzb_ap, sAsg_ap, sSetItem_ap, sAugItem_ap, sAug_ap, sRaise_ap, sNil_ap, sBad_ap, mutO_ap, cA_ap, cNot_ap, cAnd_ap, cOr_ap, cIf_ap, cTup_ap, cLst_ap, pNone_ap, pSome_ap, wAnd_ap, wOr_ap, wNot_ap, wTru_ap, wCmp_ap, wYes_ap, iA_ap, iS_ap, aNil_ap, aCons_ap, kR_ap, b2_ap, b3_ap, c1_ap, chainD_ap, lcF_ap, datE_ap, datB_ap, ownAt_ap, endO_rt, endO_nx, endO_exc, endO_bad, bn_ok, bn_exc, bn_bad, to_ok, to_exc, to_bad, sq_nx, sq_rt, sq_bk, sq_ct, sq_exc, sq_bad, andR_ok, orR_ok, notR_ok, andV_ok, orV_ok, notV_ok, ifV_ok, truD_b, boolD_b, intD_i, tupR0, tupR1, tupR2, tupR3, tupR4, lstR0, lstR1, lstR2, lstR3, lstR4, lstR5, lstR6, lstR7, lstR8, lstR9, negD_i, slA3_l, slA3_t, tupleD_l, tupleD_t, listD_l, listD_t, revD_t, addE_ii, subD_ii, leD_ii, ltD_ii, geD_ii, gtI_ii, eqD_ii, neD_ii, isi_tup_tup, isi_tup_list, isi_tup_none, isi_tup_int, isi_tup_bool, isi_tup_str, isi_tup_dict, isi_int_int, isi_int_bool, isi_int_none, isi_int_str, isi_int_list, isi_int_tup, isi_int_dict, isi_bool_int, isi_bool_bool, isi_bool_none, isi_bool_str, isi_bool_list, isi_bool_tup, isi_bool_dict, lenD_t, lenD_l, seqD_l, seqD_t, List.getElem?_cons_zero, List.getElem?_cons_succ, List.set_cons_zero, List.set_cons_succ, ↓reduceIte, Bool.false_eq_true, Bool.not_true, Bool.not_false, in_range_eq, ix_t0, ix_t1, hr, e]
    · have h2 := len_ne2 fun a b e => h ⟨a, b, e⟩
      have e : isE v (.tuple xs) = false := by
        unfold isE
        split
        · rename_i x b e
          cases e
          exact (h ⟨_, _, rfl⟩).elim
        · rfl
      simp [f_is_edge, sSeq_ap, sIf_ap, sRet_ap, sExpr_ap, sSet_ap, sSetO_ap, sFor_ap, sFz_ap, sFzb_ap, sAsg_ap, sSetItem_ap, sAugItem_ap, sAug_ap, sRaise_ap, sNil_ap, sBad_ap, mutO_ap, cA_ap, cNot_ap, cAnd_ap, cOr_ap, cIf_ap, cTup_ap, cLst_ap, pNone_ap, pSome_ap, wAnd_ap, wOr_ap, wNot_ap, wTru_ap, wCmp_ap, wYes_ap, iA_ap, iS_ap, aNil_ap, aCons_ap, kR_ap, b2_ap, b3_ap, c1_ap, chainD_ap, lcF_ap, datE_ap, datB_ap, ownAt_ap, endO_rt, endO_nx, endO_exc, endO_bad, bn_ok, bn_exc, bn_bad, to_ok, to_exc, to_bad, sq_nx, sq_rt, sq_bk, sq_ct, sq_exc, sq_bad, andR_ok, orR_ok, notR_ok, andV_ok, orV_ok, notV_ok, ifV_ok, truD_b, boolD_b, intD_i, tupR0, tupR1, tupR2, tupR3, tupR4, lstR0, lstR1, lstR2, lstR3, lstR4, lstR5, lstR6, lstR7, lstR8, lstR9, negD_i, slA3_l, slA3_t, tupleD_l, tupleD_t, listD_l, listD_t, revD_t, addE_ii, subD_ii, leD_ii, ltD_ii, geD_ii, gtI_ii, eqD_ii, neD_ii, isi_tup_tup, isi_tup_list, isi_tup_none, isi_tup_int, isi_tup_bool, isi_tup_str, isi_tup_dict, isi_int_int, isi_int_bool, isi_int_none, isi_int_str, isi_int_list, isi_int_tup, isi_int_dict, isi_bool_int, isi_bool_bool, isi_bool_none, isi_bool_str, isi_bool_list, isi_bool_tup, isi_bool_dict, lenD_t, lenD_l, seqD_l, seqD_t, List.getElem?_cons_zero, List.getElem?_cons_succ, List.set_cons_zero, List.set_cons_succ, ↓reduceIte, Bool.false_eq_true, Bool.not_true, Bool.not_false, h2, e]
  | _ => simp only [f_is_edge, sSeq_ap, sIf_ap, sRet_ap, sExpr_ap, sSet_ap, sSetO_ap, sFor_ap, sFz_ap, sFzb_ap, sAsg_ap, sSetItem_ap, sAugItem_ap, sAug_ap, sRaise_ap, sNil_ap, sBad_ap, mutO_ap, cA_ap, cNot_ap, cAnd_ap, cOr_ap, cIf_ap, cTup_ap, cLst_ap, pNone_ap, pSome_ap, wAnd_ap, wOr_ap, wNot_ap, wTru_ap, wCmp_ap, wYes_ap, iA_ap, iS_ap, aNil_ap, aCons_ap, kR_ap, b2_ap, b3_ap, c1_ap, chainD_ap, lcF_ap, datE_ap, datB_ap, ownAt_ap, endO_rt, endO_nx, endO_exc, endO_bad, bn_ok, bn_exc, bn_bad, to_ok, to_exc, to_bad, sq_nx, sq_rt, sq_bk, sq_ct, sq_exc, sq_bad, andR_ok, orR_ok, notR_ok, andV_ok, orV_ok, notV_ok, ifV_ok, truD_b, boolD_b, intD_i, tupR0, tupR1, tupR2, tupR3, tupR4, lstR0, lstR1, lstR2, lstR3, lstR4, lstR5, lstR6, lstR7, lstR8, lstR9, negD_i, slA3_l, slA3_t, tupleD_l, tupleD_t, listD_l, listD_t, revD_t, addE_ii, subD_ii, leD_ii, ltD_ii, geD_ii, gtI_ii, eqD_ii, neD_ii, isi_tup_tup, isi_tup_list, isi_tup_none, isi_tup_int, isi_tup_bool, isi_tup_str, isi_tup_dict, isi_int_int, isi_int_bool, isi_int_none, isi_int_str, isi_int_list, isi_int_tup, isi_int_dict, isi_bool_int, isi_bool_bool, isi_bool_none, isi_bool_str, isi_bool_list, isi_bool_tup, isi_bool_dict, lenD_t, lenD_l, seqD_l, seqD_t, List.getElem?_cons_zero, List.getElem?_cons_succ, List.set_cons_zero, List.set_cons_succ, ↓reduceIte, Bool.false_eq_true, Bool.not_true, Bool.not_false, isE]
/-! ### graphs -/
def edgeD (p : Int × Int) : PyData := .tuple [.int p.1, .int p.2]
def eLt (p q : Int × Int) : Bool := decide (p.1 < q.1) || (decide (p.1 = q.1) && decide (p.2 < q.2))
theorem isE_edge {v : Int} {d : PyData} (h : isE v d = true) : ∃ p, d = edgeD p ∧ 0 ≤ p.1 ∧ p.1 < p.2 ∧ p.2 < v := by
  unfold isE at h
  split at h
  · rename_i x b
    cases b with
    | int y =>
      simp only [Bool.and_eq_true, decide_eq_true_eq, inR] at h
      exact ⟨(x, y), rfl, by simp; omega, by simp; omega, by simp; omega⟩
    | _ => simp [inR] at h
  · cases h
theorem isE_of {v : Int} {p : Int × Int} (h0 : 0 ≤ p.1) (h1 : p.1 < p.2) (h2 : p.2 < v) : isE v (edgeD p) = true := by
  simp only [edgeD, isE, inR, Bool.and_eq_true, decide_eq_true_eq]
  omega
theorem edges_of {v : Int} : ∀ {es : List PyData}, es.all (isE v) = true → ∃ ps : List (Int × Int), es = ps.map edgeD ∧ ∀ p ∈ ps, 0 ≤ p.1 ∧ p.1 < p.2 ∧ p.2 < v
  | [], _ => ⟨[], rfl, fun _ m => nomatch m⟩
  | e :: r, h => by
    rw [List.all_cons, Bool.and_eq_true] at h
    obtain ⟨p, rfl, hp⟩ := isE_edge h.1
    obtain ⟨ps, rfl, hs⟩ := edges_of h.2
    refine ⟨p :: ps, rfl, fun q m => ?_⟩
    rcases List.mem_cons.mp m with rfl | m
    · exact hp
    · exact hs q m
theorem ge_edge (p q : Int × Int) : geD (edgeD p) (edgeD q) = .ok (.bool (!eLt p q)) := by
  have e : lexGe [p.1, p.2] [q.1, q.2] = !eLt p q := by
    unfold eLt
    simp only [lexGe]
    by_cases h : p.1 = q.1
    · rw [if_pos h]
      by_cases h2 : p.2 = q.2
      · simp [h, h2, lexGe]
      · rw [if_neg h2]
        simp only [h, decide_true, Bool.true_and, Int.lt_irrefl, decide_false, Bool.false_or]
        by_cases h3 : q.2 ≤ p.2
        · simp [h3]
        · simp [h3]; omega
    · rw [if_neg h]
      by_cases h3 : q.1 ≤ p.1
      · simp [h3, h]
      · simp [h3, h]; omega
  show (R.ok (.bool (lexGe [p.1, p.2] [q.1, q.2])) : R PyData) = _
  rw [e]
theorem le_edge (p q : Int × Int) : leD (edgeD p) (edgeD q) = .ok (.bool (!eLt q p)) := by
  have e : lexLe [p.1, p.2] [q.1, q.2] = !eLt q p := by
    unfold eLt
    simp only [lexLe]
    by_cases h : p.1 = q.1
    · rw [if_pos h]
      by_cases h2 : p.2 = q.2
      · simp [h, h2, lexLe]
      · rw [if_neg h2]
        simp only [h, decide_true, Bool.true_and, Int.lt_irrefl, decide_false, Bool.false_or]
        by_cases h3 : p.2 ≤ q.2
        · simp [h3]
        · simp [h3]; omega
    · rw [if_neg h]
      by_cases h3 : p.1 ≤ q.1
      · simp [h3, Ne.symm h]
      · simp [h3, Ne.symm h]; omega
  show (R.ok (.bool (lexLe [p.1, p.2] [q.1, q.2])) : R PyData) = _
  rw [e]
/-- one after another, each greater -/
def chn : List (Int × Int) → Bool
  | p :: q :: r => eLt p q && chn (q :: r)
  | _ => true
end Com
namespace Com
open PySem L2 DL
theorem truD_l {xs : List PyData} : truD (.list xs) = .ok (!xs.isEmpty) := rfl
theorem truD_t {xs : List PyData} : truD (.tuple xs) = .ok (!xs.isEmpty) := rfl
theorem cut_from {α : Type} (xs : List α) (k : Nat) : cutL xs (some (k : Int)) none = xs.drop k := by
  unfold cutL
  rw [HT.sIx_nat, HT.sIx_none]
  by_cases h : k ≤ xs.length
  · rw [Nat.min_eq_left h, List.take_of_length_le (by rw [List.length_drop]; exact Nat.le_refl _)]
  · rw [Nat.min_eq_right (by omega), List.drop_eq_nil_of_le (Nat.le_refl _), List.drop_eq_nil_of_le (by omega), List.take_nil]
def unE : PyData → Int × Int
  | .tuple [.int x, .int y] => (x, y)
  | _ => (0, 0)
theorem unE_edge (p : Int × Int) : unE (edgeD p) = p := rfl
def pairBad : PyData → Bool
  | .tuple [a, b] => !eLt (unE a) (unE b)
  | _ => false
theorem zip_chn : ∀ ps : List (Int × Int), ((zipD (ps.map edgeD) ((ps.map edgeD).drop 1)).filter pairBad).isEmpty = chn ps
  | [] => rfl
  | [p] => rfl
  | p :: q :: r => by
    have ih := zip_chn (q :: r)
    show (((.tuple [edgeD p, edgeD q] :: zipD ((q :: r).map edgeD) (((q :: r).map edgeD).drop 1)).filter pairBad)).isEmpty = (eLt p q && chn (q :: r))
    rw [List.filter_cons]
    show (if (!eLt p q) = true then _ else _ : List PyData).isEmpty = _
    cases e : eLt p q with
    | true => rw [if_neg (by decide), ih]; rfl
    | false => rfl
def isG : PyData → Bool
  | .tuple [.int v, .tuple es] => (decide (1 ≤ v) && decide (v ≤ 7)) && (decide (es.length ≤ 12) && (es.all (isE v) && chn (es.map unE)))
  | _ => false
theorem zipD_mem {xs ys : List PyData} {x : PyData} (h : x ∈ zipD xs ys) : ∃ a b, a ∈ xs ∧ b ∈ ys ∧ x = .tuple [a, b] := by
  unfold zipD at h
  obtain ⟨⟨a, b⟩, m, rfl⟩ := List.mem_map.mp h
  exact ⟨a, b, (List.of_mem_zip m).1, (List.of_mem_zip m).2, rfl⟩
theorem isG_int {a : PyData} {r : List PyData} (h : inR 1 7 a = false) : isG (.tuple (a :: r)) = false := by
  unfold isG
  split
  · rename_i v es e
    cases e
    have h2 : (decide (1 ≤ v) && decide (v ≤ 7)) = false := h
    rw [h2]
    rfl
  · rfl
theorem isG_two {xs : List PyData} (h : ∀ a b, xs ≠ [a, b]) : isG (.tuple xs) = false := by
  unfold isG
  split
  · rename_i v es e
    cases e
    exact (h _ _ rfl).elim
  · rfl
theorem inR_int {lo hi : Int} {a : PyData} (h : inR lo hi a = true) : ∃ v, a = .int v ∧ lo ≤ v ∧ v ≤ hi := by
  cases a with
  | int v =>
    have h2 : (decide (lo ≤ v) && decide (v ≤ hi)) = true := h
    simp only [Bool.and_eq_true, decide_eq_true_eq] at h2
    exact ⟨v, rfl, h2⟩
  | _ => cases h
theorem filter_isE (v : Int) (es : List PyData) : (es.filter fun e => !isE v e).isEmpty = es.all (isE v) := by
  induction es with
  | nil => rfl
  | cons e r ih =>
    rw [List.filter_cons, List.all_cons]
    cases h : isE v e with
    | true => simpa [h] using ih
    | false => simp
theorem is_graph_eq (d : PyData) : m_is_graph [d] = .ok (.bool (isG d)) := by
  rw [r_is_graph]
  cases d with
  | tuple xs =>
    by_cases h : ∃ a b, xs = [a, b]
    · obtain ⟨a, b, rfl⟩ := h
      cases hr : inR 1 7 a with
      | false => simp [f_is_graph, sSeq_ap, sIf_ap, sRet_ap, sExpr_ap, sSet_ap, sSetO_ap, sFor_ap, sFz_ap, sFzb_ap, sAsg_ap, sSetItem_ap, sAugItem_ap, sAug_ap, sRaise_ap, sNil_ap, sBad_ap, mutO_ap, cA_ap, cNot_ap, cAnd_ap, cOr_ap, cIf_ap, cTup_ap, cLst_ap, pNone_ap, pSome_ap, wAnd_ap, wOr_ap, wNot_ap, wTru_ap, wCmp_ap, wYes_ap, iA_ap, iS_ap, aNil_ap, aCons_ap, kR_ap, b2_ap, b3_ap, c1_ap, chainD_ap, lcF_ap, datE_ap, datB_ap, ownAt_ap, endO_rt, endO_nx, endO_exc, endO_bad, bn_ok, bn_exc, bn_bad, to_ok, to_exc, to_bad, sq_nx, sq_rt, sq_bk, sq_ct, sq_exc, sq_bad, andR_ok, orR_ok, notR_ok, andV_ok, orV_ok, notV_ok, ifV_ok, truD_b, boolD_b, intD_i, tupR0, tupR1, tupR2, tupR3, tupR4, lstR0, lstR1, lstR2, lstR3, lstR4, lstR5, lstR6, lstR7, lstR8, lstR9, negD_i, slA3_l, slA3_t, tupleD_l, tupleD_t, listD_l, listD_t, revD_t, addE_ii, subD_ii, leD_ii, ltD_ii, geD_ii, gtI_ii, eqD_ii, neD_ii, isi_tup_tup, isi_tup_list, isi_tup_none, isi_tup_int, isi_tup_bool, isi_tup_str, isi_tup_dict, isi_int_int, isi_int_bool, isi_int_none, isi_int_str, isi_int_list, isi_int_tup, isi_int_dict, isi_bool_int, isi_bool_bool, isi_bool_none, isi_bool_str, isi_bool_list, isi_bool_tup, isi_bool_dict, lenD_t, lenD_l, seqD_l, seqD_t, List.getElem?_cons_zero, List.getElem?_cons_succ, List.set_cons_zero, List.set_cons_succ, ↓reduceIte, Bool.false_eq_true, Bool.not_true, Bool.not_false, in_range_eq, ix_t0, ix_t1, hr, isG_int hr]
      | true =>
        obtain ⟨v, rfl, hv⟩ := inR_int hr
        cases b with
        | tuple es =>
          by_cases hl : es.length ≤ 12
          · have c1 : compL (gN 1) (wNot (wTru (cA m_is_edge (aCons (b2 (datB 0) (kR (.int 0)) ixD) (aCons (datE 1) aNil))))) (datE 1) (wipeE [1] [.dat (.tuple [.int v, .tuple es]), .un, .un]) es = .ok ((es.filter fun e => !isE v e).map id) := by
              refine compL_eq es fun x _ => ⟨[.dat (.tuple [.int v, .tuple es]), .dat x, .un], rfl, ?_, fun _ => ?_⟩
              · simp [sSeq_ap, sIf_ap, sRet_ap, sExpr_ap, sSet_ap, sSetO_ap, sFor_ap, sFz_ap, sFzb_ap, sAsg_ap, sSetItem_ap, sAugItem_ap, sAug_ap, sRaise_ap, sNil_ap, sBad_ap, mutO_ap, cA_ap, cNot_ap, cAnd_ap, cOr_ap, cIf_ap, cTup_ap, cLst_ap, pNone_ap, pSome_ap, wAnd_ap, wOr_ap, wNot_ap, wTru_ap, wCmp_ap, wYes_ap, iA_ap, iS_ap, aNil_ap, aCons_ap, kR_ap, b2_ap, b3_ap, c1_ap, chainD_ap, lcF_ap, datE_ap, datB_ap, ownAt_ap, endO_rt, endO_nx, endO_exc, endO_bad, bn_ok, bn_exc, bn_bad, to_ok, to_exc, to_bad, sq_nx, sq_rt, sq_bk, sq_ct, sq_exc, sq_bad, andR_ok, orR_ok, notR_ok, andV_ok, orV_ok, notV_ok, ifV_ok, truD_b, boolD_b, intD_i, tupR0, tupR1, tupR2, tupR3, tupR4, lstR0, lstR1, lstR2, lstR3, lstR4, lstR5, lstR6, lstR7, lstR8, lstR9, negD_i, slA3_l, slA3_t, tupleD_l, tupleD_t, listD_l, listD_t, revD_t, addE_ii, subD_ii, leD_ii, ltD_ii, geD_ii, gtI_ii, eqD_ii, neD_ii, isi_tup_tup, isi_tup_list, isi_tup_none, isi_tup_int, isi_tup_bool, isi_tup_str, isi_tup_dict, isi_int_int, isi_int_bool, isi_int_none, isi_int_str, isi_int_list, isi_int_tup, isi_int_dict, isi_bool_int, isi_bool_bool, isi_bool_none, isi_bool_str, isi_bool_list, isi_bool_tup, isi_bool_dict, lenD_t, lenD_l, seqD_l, seqD_t, List.getElem?_cons_zero, List.getElem?_cons_succ, List.set_cons_zero, List.set_cons_succ, ↓reduceIte, Bool.false_eq_true, Bool.not_true, Bool.not_false, ix_t0, is_edge_eq]
              · simp [sSeq_ap, sIf_ap, sRet_ap, sExpr_ap, sSet_ap, sSetO_ap, sFor_ap, sFz_ap, sFzb_ap, sAsg_ap, sSetItem_ap, sAugItem_ap, sAug_ap, sRaise_ap, sNil_ap, sBad_ap, mutO_ap, cA_ap, cNot_ap, cAnd_ap, cOr_ap, cIf_ap, cTup_ap, cLst_ap, pNone_ap, pSome_ap, wAnd_ap, wOr_ap, wNot_ap, wTru_ap, wCmp_ap, wYes_ap, iA_ap, iS_ap, aNil_ap, aCons_ap, kR_ap, b2_ap, b3_ap, c1_ap, chainD_ap, lcF_ap, datE_ap, datB_ap, ownAt_ap, endO_rt, endO_nx, endO_exc, endO_bad, bn_ok, bn_exc, bn_bad, to_ok, to_exc, to_bad, sq_nx, sq_rt, sq_bk, sq_ct, sq_exc, sq_bad, andR_ok, orR_ok, notR_ok, andV_ok, orV_ok, notV_ok, ifV_ok, truD_b, boolD_b, intD_i, tupR0, tupR1, tupR2, tupR3, tupR4, lstR0, lstR1, lstR2, lstR3, lstR4, lstR5, lstR6, lstR7, lstR8, lstR9, negD_i, slA3_l, slA3_t, tupleD_l, tupleD_t, listD_l, listD_t, revD_t, addE_ii, subD_ii, leD_ii, ltD_ii, geD_ii, gtI_ii, eqD_ii, neD_ii, isi_tup_tup, isi_tup_list, isi_tup_none, isi_tup_int, isi_tup_bool, isi_tup_str, isi_tup_dict, isi_int_int, isi_int_bool, isi_int_none, isi_int_str, isi_int_list, isi_int_tup, isi_int_dict, isi_bool_int, isi_bool_bool, isi_bool_none, isi_bool_str, isi_bool_list, isi_bool_tup, isi_bool_dict, lenD_t, lenD_l, seqD_l, seqD_t, List.getElem?_cons_zero, List.getElem?_cons_succ, List.set_cons_zero, List.set_cons_succ, ↓reduceIte, Bool.false_eq_true, Bool.not_true, Bool.not_false]
            have c1' := filter_isE v es
            have hl2 : ¬ ((12 : Int) < (es.length : Int)) := by omega
            cases ha : es.all (isE v) with
            | false =>
              have e : isG (.tuple [.int v, .tuple es]) = false := by simp [isG, ha]
              rw [ha] at c1'
              simp [f_is_graph, sSeq_ap, sIf_ap, sRet_ap, sExpr_ap, sSet_ap, sSetO_ap, sFor_ap, sFz_ap, sFzb_ap, sAsg_ap, sSetItem_ap, sAugItem_ap, sAug_ap, sRaise_ap, sNil_ap, sBad_ap, mutO_ap, cA_ap, cNot_ap, cAnd_ap, cOr_ap, cIf_ap, cTup_ap, cLst_ap, pNone_ap, pSome_ap, wAnd_ap, wOr_ap, wNot_ap, wTru_ap, wCmp_ap, wYes_ap, iA_ap, iS_ap, aNil_ap, aCons_ap, kR_ap, b2_ap, b3_ap, c1_ap, chainD_ap, lcF_ap, datE_ap, datB_ap, ownAt_ap, endO_rt, endO_nx, endO_exc, endO_bad, bn_ok, bn_exc, bn_bad, to_ok, to_exc, to_bad, sq_nx, sq_rt, sq_bk, sq_ct, sq_exc, sq_bad, andR_ok, orR_ok, notR_ok, andV_ok, orV_ok, notV_ok, ifV_ok, truD_b, boolD_b, intD_i, tupR0, tupR1, tupR2, tupR3, tupR4, lstR0, lstR1, lstR2, lstR3, lstR4, lstR5, lstR6, lstR7, lstR8, lstR9, negD_i, slA3_l, slA3_t, tupleD_l, tupleD_t, listD_l, listD_t, revD_t, addE_ii, subD_ii, leD_ii, ltD_ii, geD_ii, gtI_ii, eqD_ii, neD_ii, isi_tup_tup, isi_tup_list, isi_tup_none, isi_tup_int, isi_tup_bool, isi_tup_str, isi_tup_dict, isi_int_int, isi_int_bool, isi_int_none, isi_int_str, isi_int_list, isi_int_tup, isi_int_dict, isi_bool_int, isi_bool_bool, isi_bool_none, isi_bool_str, isi_bool_list, isi_bool_tup, isi_bool_dict, lenD_t, lenD_l, seqD_l, seqD_t, List.getElem?_cons_zero, List.getElem?_cons_succ, List.set_cons_zero, List.set_cons_succ, ↓reduceIte, Bool.false_eq_true, Bool.not_true, Bool.not_false, in_range_eq, ix_t0, ix_t1, hr, hl2, c1, truD_l, c1', e]
            | true =>
              obtain ⟨ps, he, hps⟩ := edges_of ha
              have c2 : compL (gT (gsC (gN 1) (gsC (gN 2) gsN))) (wCmp (b2 (datB 1) (datB 2) geD)) (kR (.int 1)) (wipeE [1, 2] [.dat (.tuple [.int v, .tuple es]), .un, .un]) (zipD es (es.drop 1)) = .ok (((zipD es (es.drop 1)).filter pairBad).map fun _ => .int 1) := by
                refine compL_eq _ fun x m => ?_
                obtain ⟨a, b, ma, mb, rfl⟩ := zipD_mem m
                rw [he] at ma mb
                obtain ⟨p, _, rfl⟩ := List.mem_map.mp ma
                obtain ⟨q, _, rfl⟩ := List.mem_map.mp (List.mem_of_mem_drop mb)
                refine ⟨[.dat (.tuple [.int v, .tuple es]), .dat (edgeD p), .dat (edgeD q)], rfl, ?_, fun _ => rfl⟩
                simp only [sSeq_ap, sIf_ap, sRet_ap, sExpr_ap, sSet_ap, sSetO_ap, sFor_ap, sFz_ap, sFzb_ap, sAsg_ap, sSetItem_ap, sAugItem_ap, sAug_ap, sRaise_ap, sNil_ap, sBad_ap, mutO_ap, cA_ap, cNot_ap, cAnd_ap, cOr_ap, cIf_ap, cTup_ap, cLst_ap, pNone_ap, pSome_ap, wAnd_ap, wOr_ap, wNot_ap, wTru_ap, wCmp_ap, wYes_ap, iA_ap, iS_ap, aNil_ap, aCons_ap, kR_ap, b2_ap, b3_ap, c1_ap, chainD_ap, lcF_ap, datE_ap, datB_ap, ownAt_ap, endO_rt, endO_nx, endO_exc, endO_bad, bn_ok, bn_exc, bn_bad, to_ok, to_exc, to_bad, sq_nx, sq_rt, sq_bk, sq_ct, sq_exc, sq_bad, andR_ok, orR_ok, notR_ok, andV_ok, orV_ok, notV_ok, ifV_ok, truD_b, boolD_b, intD_i, tupR0, tupR1, tupR2, tupR3, tupR4, lstR0, lstR1, lstR2, lstR3, lstR4, lstR5, lstR6, lstR7, lstR8, lstR9, negD_i, slA3_l, slA3_t, tupleD_l, tupleD_t, listD_l, listD_t, revD_t, addE_ii, subD_ii, leD_ii, ltD_ii, geD_ii, gtI_ii, eqD_ii, neD_ii, isi_tup_tup, isi_tup_list, isi_tup_none, isi_tup_int, isi_tup_bool, isi_tup_str, isi_tup_dict, isi_int_int, isi_int_bool, isi_int_none, isi_int_str, isi_int_list, isi_int_tup, isi_int_dict, isi_bool_int, isi_bool_bool, isi_bool_none, isi_bool_str, isi_bool_list, isi_bool_tup, isi_bool_dict, lenD_t, lenD_l, seqD_l, seqD_t, List.getElem?_cons_zero, List.getElem?_cons_succ, List.set_cons_zero, List.set_cons_succ, ↓reduceIte, Bool.false_eq_true, Bool.not_true, Bool.not_false, ge_edge]
                rfl
              have hm : es.map unE = ps := by
                rw [he, List.map_map]
                conv => rhs; rw [← List.map_id ps]
                rfl
              have c2' : ((zipD es (es.drop 1)).filter pairBad).isEmpty = chn (es.map unE) := by
                rw [hm, he]
                exact zip_chn ps
              have e : isG (.tuple [.int v, .tuple es]) = chn (es.map unE) := by
                show ((decide (1 ≤ v) && decide (v ≤ 7)) && (decide (es.length ≤ 12) && (es.all (isE v) && chn (es.map unE)))) = _
                rw [ha, decide_eq_true hv.1, decide_eq_true hv.2, decide_eq_true hl]
                rfl
              rw [ha] at c1'
              have cf : cutL es (some 1) none = es.drop 1 := cut_from es 1
              have c3 : (((zipD es (es.drop 1)).filter pairBad).map fun _ => PyData.int 1).isEmpty = chn (es.map unE) := by
                rw [List.isEmpty_map]
                exact c2'
              simp [f_is_graph, sSeq_ap, sIf_ap, sRet_ap, sExpr_ap, sSet_ap, sSetO_ap, sFor_ap, sFz_ap, sFzb_ap, sAsg_ap, sSetItem_ap, sAugItem_ap, sAug_ap, sRaise_ap, sNil_ap, sBad_ap, mutO_ap, cA_ap, cNot_ap, cAnd_ap, cOr_ap, cIf_ap, cTup_ap, cLst_ap, pNone_ap, pSome_ap, wAnd_ap, wOr_ap, wNot_ap, wTru_ap, wCmp_ap, wYes_ap, iA_ap, iS_ap, aNil_ap, aCons_ap, kR_ap, b2_ap, b3_ap, c1_ap, chainD_ap, lcF_ap, datE_ap, datB_ap, ownAt_ap, endO_rt, endO_nx, endO_exc, endO_bad, bn_ok, bn_exc, bn_bad, to_ok, to_exc, to_bad, sq_nx, sq_rt, sq_bk, sq_ct, sq_exc, sq_bad, andR_ok, orR_ok, notR_ok, andV_ok, orV_ok, notV_ok, ifV_ok, truD_b, boolD_b, intD_i, tupR0, tupR1, tupR2, tupR3, tupR4, lstR0, lstR1, lstR2, lstR3, lstR4, lstR5, lstR6, lstR7, lstR8, lstR9, negD_i, slA3_l, slA3_t, tupleD_l, tupleD_t, listD_l, listD_t, revD_t, addE_ii, subD_ii, leD_ii, ltD_ii, geD_ii, gtI_ii, eqD_ii, neD_ii, isi_tup_tup, isi_tup_list, isi_tup_none, isi_tup_int, isi_tup_bool, isi_tup_str, isi_tup_dict, isi_int_int, isi_int_bool, isi_int_none, isi_int_str, isi_int_list, isi_int_tup, isi_int_dict, isi_bool_int, isi_bool_bool, isi_bool_none, isi_bool_str, isi_bool_list, isi_bool_tup, isi_bool_dict, lenD_t, lenD_l, seqD_l, seqD_t, List.getElem?_cons_zero, List.getElem?_cons_succ, List.set_cons_zero, List.set_cons_succ, ↓reduceIte, Bool.false_eq_true, Bool.not_true, Bool.not_false, in_range_eq, ix_t0, ix_t1, hr, hl2, c1, truD_l, c1', e, slA3, cf, zip2, c2, c3, -List.isEmpty_map, -List.drop_one]
          · have hl2 : (12 : Int) < (es.length : Int) := by omega
            have e : isG (.tuple [.int v, .tuple es]) = false := by simp [isG, hl]
            simp [f_is_graph, sSeq_ap, sIf_ap, sRet_ap, sExpr_ap, sSet_ap, sSetO_ap, sFor_ap, sFz_ap, sFzb_ap, sAsg_ap, sSetItem_ap, sAugItem_ap, sAug_ap, sRaise_ap, sNil_ap, sBad_ap, mutO_ap, cA_ap, cNot_ap, cAnd_ap, cOr_ap, cIf_ap, cTup_ap, cLst_ap, pNone_ap, pSome_ap, wAnd_ap, wOr_ap, wNot_ap, wTru_ap, wCmp_ap, wYes_ap, iA_ap, iS_ap, aNil_ap, aCons_ap, kR_ap, b2_ap, b3_ap, c1_ap, chainD_ap, lcF_ap, datE_ap, datB_ap, ownAt_ap, endO_rt, endO_nx, endO_exc, endO_bad, bn_ok, bn_exc, bn_bad, to_ok, to_exc, to_bad, sq_nx, sq_rt, sq_bk, sq_ct, sq_exc, sq_bad, andR_ok, orR_ok, notR_ok, andV_ok, orV_ok, notV_ok, ifV_ok, truD_b, boolD_b, intD_i, tupR0, tupR1, tupR2, tupR3, tupR4, lstR0, lstR1, lstR2, lstR3, lstR4, lstR5, lstR6, lstR7, lstR8, lstR9, negD_i, slA3_l, slA3_t, tupleD_l, tupleD_t, listD_l, listD_t, revD_t, addE_ii, subD_ii, leD_ii, ltD_ii, geD_ii, gtI_ii, eqD_ii, neD_ii, isi_tup_tup, isi_tup_list, isi_tup_none, isi_tup_int, isi_tup_bool, isi_tup_str, isi_tup_dict, isi_int_int, isi_int_bool, isi_int_none, isi_int_str, isi_int_list, isi_int_tup, isi_int_dict, isi_bool_int, isi_bool_bool, isi_bool_none, isi_bool_str, isi_bool_list, isi_bool_tup, isi_bool_dict, lenD_t, lenD_l, seqD_l, seqD_t, List.getElem?_cons_zero, List.getElem?_cons_succ, List.set_cons_zero, List.set_cons_succ, ↓reduceIte, Bool.false_eq_true, Bool.not_true, Bool.not_false, in_range_eq, ix_t0, ix_t1, hr, hl2, e]
        | _ => simp [f_is_graph, sSeq_ap, sIf_ap, sRet_ap, sExpr_ap, sSet_ap, sSetO_ap, sFor_ap, sFz_ap, sFzb_ap, sAsg_ap, sSetItem_ap, sAugItem_ap, sAug_ap, sRaise_ap, sNil_ap, sBad_ap, mutO_ap, cA_ap, cNot_ap, cAnd_ap, cOr_ap, cIf_ap, cTup_ap, cLst_ap, pNone_ap, pSome_ap, wAnd_ap, wOr_ap, wNot_ap, wTru_ap, wCmp_ap, wYes_ap, iA_ap, iS_ap, aNil_ap, aCons_ap, kR_ap, b2_ap, b3_ap, c1_ap, chainD_ap, lcF_ap, datE_ap, datB_ap, ownAt_ap, endO_rt, endO_nx, endO_exc, endO_bad, bn_ok, bn_exc, bn_bad, to_ok, to_exc, to_bad, sq_nx, sq_rt, sq_bk, sq_ct, sq_exc, sq_bad, andR_ok, orR_ok, notR_ok, andV_ok, orV_ok, notV_ok, ifV_ok, truD_b, boolD_b, intD_i, tupR0, tupR1, tupR2, tupR3, tupR4, lstR0, lstR1, lstR2, lstR3, lstR4, lstR5, lstR6, lstR7, lstR8, lstR9, negD_i, slA3_l, slA3_t, tupleD_l, tupleD_t, listD_l, listD_t, revD_t, addE_ii, subD_ii, leD_ii, ltD_ii, geD_ii, gtI_ii, eqD_ii, neD_ii, isi_tup_tup, isi_tup_list, isi_tup_none, isi_tup_int, isi_tup_bool, isi_tup_str, isi_tup_dict, isi_int_int, isi_int_bool, isi_int_none, isi_int_str, isi_int_list, isi_int_tup, isi_int_dict, isi_bool_int, isi_bool_bool, isi_bool_none, isi_bool_str, isi_bool_list, isi_bool_tup, isi_bool_dict, lenD_t, lenD_l, seqD_l, seqD_t, List.getElem?_cons_zero, List.getElem?_cons_succ, List.set_cons_zero, List.set_cons_succ, ↓reduceIte, Bool.false_eq_true, Bool.not_true, Bool.not_false, in_range_eq, ix_t0, ix_t1, hr, isG]
    · have h2 := len_ne2 fun a b e => h ⟨a, b, e⟩
      simp [f_is_graph, sSeq_ap, sIf_ap, sRet_ap, sExpr_ap, sSet_ap, sSetO_ap, sFor_ap, sFz_ap, sFzb_ap, sAsg_ap, sSetItem_ap, sAugItem_ap, sAug_ap, sRaise_ap, sNil_ap, sBad_ap, mutO_ap, cA_ap, cNot_ap, cAnd_ap, cOr_ap, cIf_ap, cTup_ap, cLst_ap, pNone_ap, pSome_ap, wAnd_ap, wOr_ap, wNot_ap, wTru_ap, wCmp_ap, wYes_ap, iA_ap, iS_ap, aNil_ap, aCons_ap, kR_ap, b2_ap, b3_ap, c1_ap, chainD_ap, lcF_ap, datE_ap, datB_ap, ownAt_ap, endO_rt, endO_nx, endO_exc, endO_bad, bn_ok, bn_exc, bn_bad, to_ok, to_exc, to_bad, sq_nx, sq_rt, sq_bk, sq_ct, sq_exc, sq_bad, andR_ok, orR_ok, notR_ok, andV_ok, orV_ok, notV_ok, ifV_ok, truD_b, boolD_b, intD_i, tupR0, tupR1, tupR2, tupR3, tupR4, lstR0, lstR1, lstR2, lstR3, lstR4, lstR5, lstR6, lstR7, lstR8, lstR9, negD_i, slA3_l, slA3_t, tupleD_l, tupleD_t, listD_l, listD_t, revD_t, addE_ii, subD_ii, leD_ii, ltD_ii, geD_ii, gtI_ii, eqD_ii, neD_ii, isi_tup_tup, isi_tup_list, isi_tup_none, isi_tup_int, isi_tup_bool, isi_tup_str, isi_tup_dict, isi_int_int, isi_int_bool, isi_int_none, isi_int_str, isi_int_list, isi_int_tup, isi_int_dict, isi_bool_int, isi_bool_bool, isi_bool_none, isi_bool_str, isi_bool_list, isi_bool_tup, isi_bool_dict, lenD_t, lenD_l, seqD_l, seqD_t, List.getElem?_cons_zero, List.getElem?_cons_succ, List.set_cons_zero, List.set_cons_succ, ↓reduceIte, Bool.false_eq_true, Bool.not_true, Bool.not_false, h2, isG_two fun a b e => h ⟨a, b, e⟩]
  | _ => simp only [f_is_graph, sSeq_ap, sIf_ap, sRet_ap, sExpr_ap, sSet_ap, sSetO_ap, sFor_ap, sFz_ap, sFzb_ap, sAsg_ap, sSetItem_ap, sAugItem_ap, sAug_ap, sRaise_ap, sNil_ap, sBad_ap, mutO_ap, cA_ap, cNot_ap, cAnd_ap, cOr_ap, cIf_ap, cTup_ap, cLst_ap, pNone_ap, pSome_ap, wAnd_ap, wOr_ap, wNot_ap, wTru_ap, wCmp_ap, wYes_ap, iA_ap, iS_ap, aNil_ap, aCons_ap, kR_ap, b2_ap, b3_ap, c1_ap, chainD_ap, lcF_ap, datE_ap, datB_ap, ownAt_ap, endO_rt, endO_nx, endO_exc, endO_bad, bn_ok, bn_exc, bn_bad, to_ok, to_exc, to_bad, sq_nx, sq_rt, sq_bk, sq_ct, sq_exc, sq_bad, andR_ok, orR_ok, notR_ok, andV_ok, orV_ok, notV_ok, ifV_ok, truD_b, boolD_b, intD_i, tupR0, tupR1, tupR2, tupR3, tupR4, lstR0, lstR1, lstR2, lstR3, lstR4, lstR5, lstR6, lstR7, lstR8, lstR9, negD_i, slA3_l, slA3_t, tupleD_l, tupleD_t, listD_l, listD_t, revD_t, addE_ii, subD_ii, leD_ii, ltD_ii, geD_ii, gtI_ii, eqD_ii, neD_ii, isi_tup_tup, isi_tup_list, isi_tup_none, isi_tup_int, isi_tup_bool, isi_tup_str, isi_tup_dict, isi_int_int, isi_int_bool, isi_int_none, isi_int_str, isi_int_list, isi_int_tup, isi_int_dict, isi_bool_int, isi_bool_bool, isi_bool_none, isi_bool_str, isi_bool_list, isi_bool_tup, isi_bool_dict, lenD_t, lenD_l, seqD_l, seqD_t, List.getElem?_cons_zero, List.getElem?_cons_succ, List.set_cons_zero, List.set_cons_succ, ↓reduceIte, Bool.false_eq_true, Bool.not_true, Bool.not_false, isG]
end Com
namespace Com
open PySem L2 DL
def gStep (v : Int) (a : Int × Int) (x : PyData) : Option (Int × Int) := if isE v x && eLt a (unE x) then some (unE x) else none
theorem goL_isSome (v : Int) : ∀ (es : List PyData) (a : Int × Int), (goL (gStep v) es a).isSome = (es.all (isE v) && chn (a :: es.map unE))
  | [], a => rfl
  | x :: xs, a => by
    have ih := goL_isSome v xs (unE x)
    show ((gStep v a x).bind (goL (gStep v) xs)).isSome = ((isE v x && xs.all (isE v)) && (eLt a (unE x) && chn (unE x :: xs.map unE)))
    unfold gStep
    cases h1 : isE v x with
    | false => rfl
    | true =>
      cases h2 : eLt a (unE x) with
      | false => simp
      | true =>
        show (goL (gStep v) xs (unE x)).isSome = _
        rw [ih]
        rfl
theorem chn_start {v : Int} {es : List PyData} (h : es.all (isE v) = true) : chn ((-1, -1) :: es.map unE) = chn (es.map unE) := by
  cases es with
  | nil => rfl
  | cons x r =>
    rw [List.all_cons, Bool.and_eq_true] at h
    obtain ⟨p, rfl, h0, _⟩ := isE_edge h.1
    show (eLt (-1, -1) p && chn _) = chn _
    have : eLt (-1, -1) p = true := by
      unfold eLt
      rw [decide_eq_true (show (-1 : Int) < p.1 by omega)]
      rfl
    rw [this]
    rfl
theorem law_is_graph_eq (d : PyData) : m_law_is_graph [d] = .ok (.bool (isG d)) := by
  rw [r_law_is_graph]
  cases d with
  | tuple xs =>
    by_cases h : ∃ a b, xs = [a, b]
    · obtain ⟨a, b, rfl⟩ := h
      cases hr : inR 1 7 a with
      | false => simp [f_law_is_graph, sSeq_ap, sIf_ap, sRet_ap, sExpr_ap, sSet_ap, sSetO_ap, sFor_ap, sFz_ap, sFzb_ap, sAsg_ap, sSetItem_ap, sAugItem_ap, sAug_ap, sRaise_ap, sNil_ap, sBad_ap, mutO_ap, cA_ap, cNot_ap, cAnd_ap, cOr_ap, cIf_ap, cTup_ap, cLst_ap, pNone_ap, pSome_ap, wAnd_ap, wOr_ap, wNot_ap, wTru_ap, wCmp_ap, wYes_ap, iA_ap, iS_ap, aNil_ap, aCons_ap, kR_ap, b2_ap, b3_ap, c1_ap, chainD_ap, lcF_ap, datE_ap, datB_ap, ownAt_ap, endO_rt, endO_nx, endO_exc, endO_bad, bn_ok, bn_exc, bn_bad, to_ok, to_exc, to_bad, sq_nx, sq_rt, sq_bk, sq_ct, sq_exc, sq_bad, andR_ok, orR_ok, notR_ok, andV_ok, orV_ok, notV_ok, ifV_ok, truD_b, boolD_b, intD_i, tupR0, tupR1, tupR2, tupR3, tupR4, lstR0, lstR1, lstR2, lstR3, lstR4, lstR5, lstR6, lstR7, lstR8, lstR9, negD_i, slA3_l, slA3_t, tupleD_l, tupleD_t, listD_l, listD_t, revD_t, addE_ii, subD_ii, leD_ii, ltD_ii, geD_ii, gtI_ii, eqD_ii, neD_ii, isi_tup_tup, isi_tup_list, isi_tup_none, isi_tup_int, isi_tup_bool, isi_tup_str, isi_tup_dict, isi_int_int, isi_int_bool, isi_int_none, isi_int_str, isi_int_list, isi_int_tup, isi_int_dict, isi_bool_int, isi_bool_bool, isi_bool_none, isi_bool_str, isi_bool_list, isi_bool_tup, isi_bool_dict, lenD_t, lenD_l, seqD_l, seqD_t, List.getElem?_cons_zero, List.getElem?_cons_succ, List.set_cons_zero, List.set_cons_succ, ↓reduceIte, Bool.false_eq_true, Bool.not_true, Bool.not_false, law_in_eq, ix_t0, ix_t1, hr, isG_int hr]
      | true =>
        obtain ⟨v, rfl, hv⟩ := inR_int hr
        cases b with
        | tuple es =>
          by_cases hl : es.length ≤ 12
          · have hl2 : ¬ ((12 : Int) < (es.length : Int)) := by omega
            generalize hD : PyData.tuple [.int v, .tuple es] = D
            have i0 : ixD D (.int 0) = .ok (.int v) := by rw [← hD]; exact ix_t0
            have i1 : ixD D (.int 1) = .ok (.tuple es) := by rw [← hD]; exact ix_t1
            have lp := forL_ret (ft := gN 2) (fb := (sSeq (sIf (wOr (wNot (wTru (c1 (isiD "tuple") (datB 2)))) (wOr (wCmp (b2 (c1 lenD (datB 2)) (kR (.int 2)) neD)) (wNot (wTru (cA m_law_in (aCons (b2 (datB 2) (kR (.int 0)) ixD) (aCons (kR (.int 0)) (aCons (b2 (b2 (datB 0) (kR (.int 0)) ixD) (kR (.int 1)) subD) aNil))))))))
              (sRet (kR (.bool false)))
              sNil)
              (sSeq (sIf (wOr (wNot (wTru (cA m_law_in (aCons (b2 (datB 2) (kR (.int 1)) ixD) (aCons (b2 (b2 (datB 2) (kR (.int 0)) ixD) (kR (.int 1)) addE) (aCons (b2 (b2 (datB 0) (kR (.int 0)) ixD) (kR (.int 1)) subD) aNil)))))) (wCmp (b2 (datB 2) (datB 1) leD)))
              (sRet (kR (.bool false)))
              sNil)
              (sSet 1 (datE 2))))) (fun (a : Int × Int) r => ∃ x, r = [.dat D, .dat (edgeD a), x]) (gStep v) (.bool false) es (-1, -1) [.dat D, .dat (edgeD (-1, -1)), .un] (by
              rintro a r x m ⟨y, rfl⟩
              refine ⟨[.dat D, .dat (edgeD a), .dat x], rfl, ?_⟩
              cases hx : isE v x with
              | true =>
                obtain ⟨p, rfl, p0, p1, p2⟩ := isE_edge hx
                have e1 : inR 0 (v - 1) (.int p.1) = true := by
                  show (decide (0 ≤ p.1) && decide (p.1 ≤ v - 1)) = true
                  rw [decide_eq_true p0, decide_eq_true (by omega)]
                  rfl
                have e2 : inR (p.1 + 1) (v - 1) (.int p.2) = true := by
                  show (decide (p.1 + 1 ≤ p.2) && decide (p.2 ≤ v - 1)) = true
                  rw [decide_eq_true (by omega), decide_eq_true (by omega)]
                  rfl
                have j0 : ixD (edgeD p) (.int 0) = .ok (.int p.1) := ix_t0
                have j1 : ixD (edgeD p) (.int 1) = .ok (.int p.2) := ix_t1
                have j2 : lenD (edgeD p) = .ok (.int 2) := rfl
                have j3 : isiD "tuple" (edgeD p) = .ok (.bool true) := isi_tup_tup
                have st : gStep v a (edgeD p) = if eLt a p then some p else none := by
                  unfold gStep
                  rw [hx]
                  rfl
                rw [st]
                cases hp : eLt a p with
                | true =>
                  refine ⟨[.dat D, .dat (edgeD p), .dat (edgeD p)], ?_, _, rfl⟩
                  simp [sSeq_ap, sIf_ap, sRet_ap, sExpr_ap, sSet_ap, sSetO_ap, sFor_ap, sFz_ap, sFzb_ap, sAsg_ap, sSetItem_ap, sAugItem_ap, sAug_ap, sRaise_ap, sNil_ap, sBad_ap, mutO_ap, cA_ap, cNot_ap, cAnd_ap, cOr_ap, cIf_ap, cTup_ap, cLst_ap, pNone_ap, pSome_ap, wAnd_ap, wOr_ap, wNot_ap, wTru_ap, wCmp_ap, wYes_ap, iA_ap, iS_ap, aNil_ap, aCons_ap, kR_ap, b2_ap, b3_ap, c1_ap, chainD_ap, lcF_ap, datE_ap, datB_ap, ownAt_ap, endO_rt, endO_nx, endO_exc, endO_bad, bn_ok, bn_exc, bn_bad, to_ok, to_exc, to_bad, sq_nx, sq_rt, sq_bk, sq_ct, sq_exc, sq_bad, andR_ok, orR_ok, notR_ok, andV_ok, orV_ok, notV_ok, ifV_ok, truD_b, boolD_b, intD_i, tupR0, tupR1, tupR2, tupR3, tupR4, lstR0, lstR1, lstR2, lstR3, lstR4, lstR5, lstR6, lstR7, lstR8, lstR9, negD_i, slA3_l, slA3_t, tupleD_l, tupleD_t, listD_l, listD_t, revD_t, addE_ii, subD_ii, leD_ii, ltD_ii, geD_ii, gtI_ii, eqD_ii, neD_ii, isi_tup_tup, isi_tup_list, isi_tup_none, isi_tup_int, isi_tup_bool, isi_tup_str, isi_tup_dict, isi_int_int, isi_int_bool, isi_int_none, isi_int_str, isi_int_list, isi_int_tup, isi_int_dict, isi_bool_int, isi_bool_bool, isi_bool_none, isi_bool_str, isi_bool_list, isi_bool_tup, isi_bool_dict, lenD_t, lenD_l, seqD_l, seqD_t, List.getElem?_cons_zero, List.getElem?_cons_succ, List.set_cons_zero, List.set_cons_succ, ↓reduceIte, Bool.false_eq_true, Bool.not_true, Bool.not_false, law_in_eq, i0, j0, j1, j2, j3, e1, e2, le_edge, hp]
                | false =>
                  show _ = O.rt (.bool false)
                  simp [sSeq_ap, sIf_ap, sRet_ap, sExpr_ap, sSet_ap, sSetO_ap, sFor_ap, sFz_ap, sFzb_ap, sAsg_ap, sSetItem_ap, sAugItem_ap, sAug_ap, sRaise_ap, sNil_ap, sBad_ap, mutO_ap, cA_ap, cNot_ap, cAnd_ap, cOr_ap, cIf_ap, cTup_ap, cLst_ap, pNone_ap, pSome_ap, wAnd_ap, wOr_ap, wNot_ap, wTru_ap, wCmp_ap, wYes_ap, iA_ap, iS_ap, aNil_ap, aCons_ap, kR_ap, b2_ap, b3_ap, c1_ap, chainD_ap, lcF_ap, datE_ap, datB_ap, ownAt_ap, endO_rt, endO_nx, endO_exc, endO_bad, bn_ok, bn_exc, bn_bad, to_ok, to_exc, to_bad, sq_nx, sq_rt, sq_bk, sq_ct, sq_exc, sq_bad, andR_ok, orR_ok, notR_ok, andV_ok, orV_ok, notV_ok, ifV_ok, truD_b, boolD_b, intD_i, tupR0, tupR1, tupR2, tupR3, tupR4, lstR0, lstR1, lstR2, lstR3, lstR4, lstR5, lstR6, lstR7, lstR8, lstR9, negD_i, slA3_l, slA3_t, tupleD_l, tupleD_t, listD_l, listD_t, revD_t, addE_ii, subD_ii, leD_ii, ltD_ii, geD_ii, gtI_ii, eqD_ii, neD_ii, isi_tup_tup, isi_tup_list, isi_tup_none, isi_tup_int, isi_tup_bool, isi_tup_str, isi_tup_dict, isi_int_int, isi_int_bool, isi_int_none, isi_int_str, isi_int_list, isi_int_tup, isi_int_dict, isi_bool_int, isi_bool_bool, isi_bool_none, isi_bool_str, isi_bool_list, isi_bool_tup, isi_bool_dict, lenD_t, lenD_l, seqD_l, seqD_t, List.getElem?_cons_zero, List.getElem?_cons_succ, List.set_cons_zero, List.set_cons_succ, ↓reduceIte, Bool.false_eq_true, Bool.not_true, Bool.not_false, law_in_eq, i0, j0, j1, j2, j3, e1, e2, le_edge, hp]
              | false =>
                have st : gStep v a x = none := by
                  unfold gStep
                  rw [hx]
                  rfl
                rw [st]
                show _ = O.rt (.bool false)
                cases x with
                | tuple xs =>
                  by_cases h : ∃ a b, xs = [a, b]
                  · obtain ⟨a', b', rfl⟩ := h
                    cases hr : inR 0 (v - 1) a' with
                    | false => simp [sSeq_ap, sIf_ap, sRet_ap, sExpr_ap, sSet_ap, sSetO_ap, sFor_ap, sFz_ap, sFzb_ap, sAsg_ap, sSetItem_ap, sAugItem_ap, sAug_ap, sRaise_ap, sNil_ap, sBad_ap, mutO_ap, cA_ap, cNot_ap, cAnd_ap, cOr_ap, cIf_ap, cTup_ap, cLst_ap, pNone_ap, pSome_ap, wAnd_ap, wOr_ap, wNot_ap, wTru_ap, wCmp_ap, wYes_ap, iA_ap, iS_ap, aNil_ap, aCons_ap, kR_ap, b2_ap, b3_ap, c1_ap, chainD_ap, lcF_ap, datE_ap, datB_ap, ownAt_ap, endO_rt, endO_nx, endO_exc, endO_bad, bn_ok, bn_exc, bn_bad, to_ok, to_exc, to_bad, sq_nx, sq_rt, sq_bk, sq_ct, sq_exc, sq_bad, andR_ok, orR_ok, notR_ok, andV_ok, orV_ok, notV_ok, ifV_ok, truD_b, boolD_b, intD_i, tupR0, tupR1, tupR2, tupR3, tupR4, lstR0, lstR1, lstR2, lstR3, lstR4, lstR5, lstR6, lstR7, lstR8, lstR9, negD_i, slA3_l, slA3_t, tupleD_l, tupleD_t, listD_l, listD_t, revD_t, addE_ii, subD_ii, leD_ii, ltD_ii, geD_ii, gtI_ii, eqD_ii, neD_ii, isi_tup_tup, isi_tup_list, isi_tup_none, isi_tup_int, isi_tup_bool, isi_tup_str, isi_tup_dict, isi_int_int, isi_int_bool, isi_int_none, isi_int_str, isi_int_list, isi_int_tup, isi_int_dict, isi_bool_int, isi_bool_bool, isi_bool_none, isi_bool_str, isi_bool_list, isi_bool_tup, isi_bool_dict, lenD_t, lenD_l, seqD_l, seqD_t, List.getElem?_cons_zero, List.getElem?_cons_succ, List.set_cons_zero, List.set_cons_succ, ↓reduceIte, Bool.false_eq_true, Bool.not_true, Bool.not_false, law_in_eq, i0, ix_t0, ix_t1, hr]
                    | true =>
                      obtain ⟨z, rfl, hz⟩ := inR_int hr
                      have e2 : inR (z + 1) (v - 1) b' = false := by
                        have hx2 : (decide (0 ≤ z) && decide (z ≤ v - 1) && inR (z + 1) (v - 1) b') = false := hx
                        rw [decide_eq_true hz.1, decide_eq_true hz.2] at hx2
                        exact hx2
                      simp [sSeq_ap, sIf_ap, sRet_ap, sExpr_ap, sSet_ap, sSetO_ap, sFor_ap, sFz_ap, sFzb_ap, sAsg_ap, sSetItem_ap, sAugItem_ap, sAug_ap, sRaise_ap, sNil_ap, sBad_ap, mutO_ap, cA_ap, cNot_ap, cAnd_ap, cOr_ap, cIf_ap, cTup_ap, cLst_ap, pNone_ap, pSome_ap, wAnd_ap, wOr_ap, wNot_ap, wTru_ap, wCmp_ap, wYes_ap, iA_ap, iS_ap, aNil_ap, aCons_ap, kR_ap, b2_ap, b3_ap, c1_ap, chainD_ap, lcF_ap, datE_ap, datB_ap, ownAt_ap, endO_rt, endO_nx, endO_exc, endO_bad, bn_ok, bn_exc, bn_bad, to_ok, to_exc, to_bad, sq_nx, sq_rt, sq_bk, sq_ct, sq_exc, sq_bad, andR_ok, orR_ok, notR_ok, andV_ok, orV_ok, notV_ok, ifV_ok, truD_b, boolD_b, intD_i, tupR0, tupR1, tupR2, tupR3, tupR4, lstR0, lstR1, lstR2, lstR3, lstR4, lstR5, lstR6, lstR7, lstR8, lstR9, negD_i, slA3_l, slA3_t, tupleD_l, tupleD_t, listD_l, listD_t, revD_t, addE_ii, subD_ii, leD_ii, ltD_ii, geD_ii, gtI_ii, eqD_ii, neD_ii, isi_tup_tup, isi_tup_list, isi_tup_none, isi_tup_int, isi_tup_bool, isi_tup_str, isi_tup_dict, isi_int_int, isi_int_bool, isi_int_none, isi_int_str, isi_int_list, isi_int_tup, isi_int_dict, isi_bool_int, isi_bool_bool, isi_bool_none, isi_bool_str, isi_bool_list, isi_bool_tup, isi_bool_dict, lenD_t, lenD_l, seqD_l, seqD_t, List.getElem?_cons_zero, List.getElem?_cons_succ, List.set_cons_zero, List.set_cons_succ, ↓reduceIte, Bool.false_eq_true, Bool.not_true, Bool.not_false, law_in_eq, i0, ix_t0, ix_t1, hr, e2]
                  · have h2 := len_ne2 fun a b e => h ⟨a, b, e⟩
                    simp [sSeq_ap, sIf_ap, sRet_ap, sExpr_ap, sSet_ap, sSetO_ap, sFor_ap, sFz_ap, sFzb_ap, sAsg_ap, sSetItem_ap, sAugItem_ap, sAug_ap, sRaise_ap, sNil_ap, sBad_ap, mutO_ap, cA_ap, cNot_ap, cAnd_ap, cOr_ap, cIf_ap, cTup_ap, cLst_ap, pNone_ap, pSome_ap, wAnd_ap, wOr_ap, wNot_ap, wTru_ap, wCmp_ap, wYes_ap, iA_ap, iS_ap, aNil_ap, aCons_ap, kR_ap, b2_ap, b3_ap, c1_ap, chainD_ap, lcF_ap, datE_ap, datB_ap, ownAt_ap, endO_rt, endO_nx, endO_exc, endO_bad, bn_ok, bn_exc, bn_bad, to_ok, to_exc, to_bad, sq_nx, sq_rt, sq_bk, sq_ct, sq_exc, sq_bad, andR_ok, orR_ok, notR_ok, andV_ok, orV_ok, notV_ok, ifV_ok, truD_b, boolD_b, intD_i, tupR0, tupR1, tupR2, tupR3, tupR4, lstR0, lstR1, lstR2, lstR3, lstR4, lstR5, lstR6, lstR7, lstR8, lstR9, negD_i, slA3_l, slA3_t, tupleD_l, tupleD_t, listD_l, listD_t, revD_t, addE_ii, subD_ii, leD_ii, ltD_ii, geD_ii, gtI_ii, eqD_ii, neD_ii, isi_tup_tup, isi_tup_list, isi_tup_none, isi_tup_int, isi_tup_bool, isi_tup_str, isi_tup_dict, isi_int_int, isi_int_bool, isi_int_none, isi_int_str, isi_int_list, isi_int_tup, isi_int_dict, isi_bool_int, isi_bool_bool, isi_bool_none, isi_bool_str, isi_bool_list, isi_bool_tup, isi_bool_dict, lenD_t, lenD_l, seqD_l, seqD_t, List.getElem?_cons_zero, List.getElem?_cons_succ, List.set_cons_zero, List.set_cons_succ, ↓reduceIte, Bool.false_eq_true, Bool.not_true, Bool.not_false, h2]
                | _ => simp only [sSeq_ap, sIf_ap, sRet_ap, sExpr_ap, sSet_ap, sSetO_ap, sFor_ap, sFz_ap, sFzb_ap, sAsg_ap, sSetItem_ap, sAugItem_ap, sAug_ap, sRaise_ap, sNil_ap, sBad_ap, mutO_ap, cA_ap, cNot_ap, cAnd_ap, cOr_ap, cIf_ap, cTup_ap, cLst_ap, pNone_ap, pSome_ap, wAnd_ap, wOr_ap, wNot_ap, wTru_ap, wCmp_ap, wYes_ap, iA_ap, iS_ap, aNil_ap, aCons_ap, kR_ap, b2_ap, b3_ap, c1_ap, chainD_ap, lcF_ap, datE_ap, datB_ap, ownAt_ap, endO_rt, endO_nx, endO_exc, endO_bad, bn_ok, bn_exc, bn_bad, to_ok, to_exc, to_bad, sq_nx, sq_rt, sq_bk, sq_ct, sq_exc, sq_bad, andR_ok, orR_ok, notR_ok, andV_ok, orV_ok, notV_ok, ifV_ok, truD_b, boolD_b, intD_i, tupR0, tupR1, tupR2, tupR3, tupR4, lstR0, lstR1, lstR2, lstR3, lstR4, lstR5, lstR6, lstR7, lstR8, lstR9, negD_i, slA3_l, slA3_t, tupleD_l, tupleD_t, listD_l, listD_t, revD_t, addE_ii, subD_ii, leD_ii, ltD_ii, geD_ii, gtI_ii, eqD_ii, neD_ii, isi_tup_tup, isi_tup_list, isi_tup_none, isi_tup_int, isi_tup_bool, isi_tup_str, isi_tup_dict, isi_int_int, isi_int_bool, isi_int_none, isi_int_str, isi_int_list, isi_int_tup, isi_int_dict, isi_bool_int, isi_bool_bool, isi_bool_none, isi_bool_str, isi_bool_list, isi_bool_tup, isi_bool_dict, lenD_t, lenD_l, seqD_l, seqD_t, List.getElem?_cons_zero, List.getElem?_cons_succ, List.set_cons_zero, List.set_cons_succ, ↓reduceIte, Bool.false_eq_true, Bool.not_true, Bool.not_false]) ⟨_, rfl⟩
            have so := goL_isSome v es (-1, -1)
            have ng : c1 negD (kR (.int 1)) = c1 negD (kR (.int 1)) := rfl
            have td : isiD "tuple" D = .ok (.bool true) := by rw [← hD]; exact isi_tup_tup
            have ld : lenD D = .ok (.int 2) := by rw [← hD]; rfl
            have n1 : negD (.int 1) = .ok (.int (-1)) := rfl
            have tr : tupR [.int (-1), .int (-1)] = .ok (edgeD (-1, -1)) := tupR_ok (by decide)
            have gd : isG D = (es.all (isE v) && chn (es.map unE)) := by
              rw [← hD]
              show ((decide (1 ≤ v) && decide (v ≤ 7)) && (decide (es.length ≤ 12) && (es.all (isE v) && chn (es.map unE)))) = _
              rw [decide_eq_true hv.1, decide_eq_true hv.2, decide_eq_true hl]
              rfl
            have gd2 : isG D = (goL (gStep v) es (-1, -1)).isSome := by
              rw [so, gd]
              cases ha : es.all (isE v) with
              | true => rw [chn_start ha]
              | false => rfl
            rw [gd2]
            cases hg : goL (gStep v) es (-1, -1) with
            | some a =>
              rw [hg] at lp
              obtain ⟨r', l1, y, rfl⟩ := lp
              simp [f_law_is_graph, sSeq_ap, sIf_ap, sRet_ap, sExpr_ap, sSet_ap, sSetO_ap, sFor_ap, sFz_ap, sFzb_ap, sAsg_ap, sSetItem_ap, sAugItem_ap, sAug_ap, sRaise_ap, sNil_ap, sBad_ap, mutO_ap, cA_ap, cNot_ap, cAnd_ap, cOr_ap, cIf_ap, cTup_ap, cLst_ap, pNone_ap, pSome_ap, wAnd_ap, wOr_ap, wNot_ap, wTru_ap, wCmp_ap, wYes_ap, iA_ap, iS_ap, aNil_ap, aCons_ap, kR_ap, b2_ap, b3_ap, c1_ap, chainD_ap, lcF_ap, datE_ap, datB_ap, ownAt_ap, endO_rt, endO_nx, endO_exc, endO_bad, bn_ok, bn_exc, bn_bad, to_ok, to_exc, to_bad, sq_nx, sq_rt, sq_bk, sq_ct, sq_exc, sq_bad, andR_ok, orR_ok, notR_ok, andV_ok, orV_ok, notV_ok, ifV_ok, truD_b, boolD_b, intD_i, tupR0, tupR1, tupR2, tupR3, tupR4, lstR0, lstR1, lstR2, lstR3, lstR4, lstR5, lstR6, lstR7, lstR8, lstR9, negD_i, slA3_l, slA3_t, tupleD_l, tupleD_t, listD_l, listD_t, revD_t, addE_ii, subD_ii, leD_ii, ltD_ii, geD_ii, gtI_ii, eqD_ii, neD_ii, isi_tup_tup, isi_tup_list, isi_tup_none, isi_tup_int, isi_tup_bool, isi_tup_str, isi_tup_dict, isi_int_int, isi_int_bool, isi_int_none, isi_int_str, isi_int_list, isi_int_tup, isi_int_dict, isi_bool_int, isi_bool_bool, isi_bool_none, isi_bool_str, isi_bool_list, isi_bool_tup, isi_bool_dict, lenD_t, lenD_l, seqD_l, seqD_t, List.getElem?_cons_zero, List.getElem?_cons_succ, List.set_cons_zero, List.set_cons_succ, ↓reduceIte, Bool.false_eq_true, Bool.not_true, Bool.not_false, law_in_eq, i0, i1, hr, hl2, td, ld, n1, tr, l1]
            | none =>
              rw [hg] at lp
              have l1 := show _ = O.rt (.bool false) from lp
              simp [f_law_is_graph, sSeq_ap, sIf_ap, sRet_ap, sExpr_ap, sSet_ap, sSetO_ap, sFor_ap, sFz_ap, sFzb_ap, sAsg_ap, sSetItem_ap, sAugItem_ap, sAug_ap, sRaise_ap, sNil_ap, sBad_ap, mutO_ap, cA_ap, cNot_ap, cAnd_ap, cOr_ap, cIf_ap, cTup_ap, cLst_ap, pNone_ap, pSome_ap, wAnd_ap, wOr_ap, wNot_ap, wTru_ap, wCmp_ap, wYes_ap, iA_ap, iS_ap, aNil_ap, aCons_ap, kR_ap, b2_ap, b3_ap, c1_ap, chainD_ap, lcF_ap, datE_ap, datB_ap, ownAt_ap, endO_rt, endO_nx, endO_exc, endO_bad, bn_ok, bn_exc, bn_bad, to_ok, to_exc, to_bad, sq_nx, sq_rt, sq_bk, sq_ct, sq_exc, sq_bad, andR_ok, orR_ok, notR_ok, andV_ok, orV_ok, notV_ok, ifV_ok, truD_b, boolD_b, intD_i, tupR0, tupR1, tupR2, tupR3, tupR4, lstR0, lstR1, lstR2, lstR3, lstR4, lstR5, lstR6, lstR7, lstR8, lstR9, negD_i, slA3_l, slA3_t, tupleD_l, tupleD_t, listD_l, listD_t, revD_t, addE_ii, subD_ii, leD_ii, ltD_ii, geD_ii, gtI_ii, eqD_ii, neD_ii, isi_tup_tup, isi_tup_list, isi_tup_none, isi_tup_int, isi_tup_bool, isi_tup_str, isi_tup_dict, isi_int_int, isi_int_bool, isi_int_none, isi_int_str, isi_int_list, isi_int_tup, isi_int_dict, isi_bool_int, isi_bool_bool, isi_bool_none, isi_bool_str, isi_bool_list, isi_bool_tup, isi_bool_dict, lenD_t, lenD_l, seqD_l, seqD_t, List.getElem?_cons_zero, List.getElem?_cons_succ, List.set_cons_zero, List.set_cons_succ, ↓reduceIte, Bool.false_eq_true, Bool.not_true, Bool.not_false, law_in_eq, i0, i1, hr, hl2, td, ld, n1, tr, l1]
          · have hl2 : (12 : Int) < (es.length : Int) := by omega
            have e : isG (.tuple [.int v, .tuple es]) = false := by simp [isG, hl]
            simp [f_law_is_graph, sSeq_ap, sIf_ap, sRet_ap, sExpr_ap, sSet_ap, sSetO_ap, sFor_ap, sFz_ap, sFzb_ap, sAsg_ap, sSetItem_ap, sAugItem_ap, sAug_ap, sRaise_ap, sNil_ap, sBad_ap, mutO_ap, cA_ap, cNot_ap, cAnd_ap, cOr_ap, cIf_ap, cTup_ap, cLst_ap, pNone_ap, pSome_ap, wAnd_ap, wOr_ap, wNot_ap, wTru_ap, wCmp_ap, wYes_ap, iA_ap, iS_ap, aNil_ap, aCons_ap, kR_ap, b2_ap, b3_ap, c1_ap, chainD_ap, lcF_ap, datE_ap, datB_ap, ownAt_ap, endO_rt, endO_nx, endO_exc, endO_bad, bn_ok, bn_exc, bn_bad, to_ok, to_exc, to_bad, sq_nx, sq_rt, sq_bk, sq_ct, sq_exc, sq_bad, andR_ok, orR_ok, notR_ok, andV_ok, orV_ok, notV_ok, ifV_ok, truD_b, boolD_b, intD_i, tupR0, tupR1, tupR2, tupR3, tupR4, lstR0, lstR1, lstR2, lstR3, lstR4, lstR5, lstR6, lstR7, lstR8, lstR9, negD_i, slA3_l, slA3_t, tupleD_l, tupleD_t, listD_l, listD_t, revD_t, addE_ii, subD_ii, leD_ii, ltD_ii, geD_ii, gtI_ii, eqD_ii, neD_ii, isi_tup_tup, isi_tup_list, isi_tup_none, isi_tup_int, isi_tup_bool, isi_tup_str, isi_tup_dict, isi_int_int, isi_int_bool, isi_int_none, isi_int_str, isi_int_list, isi_int_tup, isi_int_dict, isi_bool_int, isi_bool_bool, isi_bool_none, isi_bool_str, isi_bool_list, isi_bool_tup, isi_bool_dict, lenD_t, lenD_l, seqD_l, seqD_t, List.getElem?_cons_zero, List.getElem?_cons_succ, List.set_cons_zero, List.set_cons_succ, ↓reduceIte, Bool.false_eq_true, Bool.not_true, Bool.not_false, law_in_eq, ix_t0, ix_t1, hr, hl2, e]
        | _ => simp [f_law_is_graph, sSeq_ap, sIf_ap, sRet_ap, sExpr_ap, sSet_ap, sSetO_ap, sFor_ap, sFz_ap, sFzb_ap, sAsg_ap, sSetItem_ap, sAugItem_ap, sAug_ap, sRaise_ap, sNil_ap, sBad_ap, mutO_ap, cA_ap, cNot_ap, cAnd_ap, cOr_ap, cIf_ap, cTup_ap, cLst_ap, pNone_ap, pSome_ap, wAnd_ap, wOr_ap, wNot_ap, wTru_ap, wCmp_ap, wYes_ap, iA_ap, iS_ap, aNil_ap, aCons_ap, kR_ap, b2_ap, b3_ap, c1_ap, chainD_ap, lcF_ap, datE_ap, datB_ap, ownAt_ap, endO_rt, endO_nx, endO_exc, endO_bad, bn_ok, bn_exc, bn_bad, to_ok, to_exc, to_bad, sq_nx, sq_rt, sq_bk, sq_ct, sq_exc, sq_bad, andR_ok, orR_ok, notR_ok, andV_ok, orV_ok, notV_ok, ifV_ok, truD_b, boolD_b, intD_i, tupR0, tupR1, tupR2, tupR3, tupR4, lstR0, lstR1, lstR2, lstR3, lstR4, lstR5, lstR6, lstR7, lstR8, lstR9, negD_i, slA3_l, slA3_t, tupleD_l, tupleD_t, listD_l, listD_t, revD_t, addE_ii, subD_ii, leD_ii, ltD_ii, geD_ii, gtI_ii, eqD_ii, neD_ii, isi_tup_tup, isi_tup_list, isi_tup_none, isi_tup_int, isi_tup_bool, isi_tup_str, isi_tup_dict, isi_int_int, isi_int_bool, isi_int_none, isi_int_str, isi_int_list, isi_int_tup, isi_int_dict, isi_bool_int, isi_bool_bool, isi_bool_none, isi_bool_str, isi_bool_list, isi_bool_tup, isi_bool_dict, lenD_t, lenD_l, seqD_l, seqD_t, List.getElem?_cons_zero, List.getElem?_cons_succ, List.set_cons_zero, List.set_cons_succ, ↓reduceIte, Bool.false_eq_true, Bool.not_true, Bool.not_false, law_in_eq, ix_t0, ix_t1, hr, isG]
    · have h2 := len_ne2 fun a b e => h ⟨a, b, e⟩
      simp [f_law_is_graph, sSeq_ap, sIf_ap, sRet_ap, sExpr_ap, sSet_ap, sSetO_ap, sFor_ap, sFz_ap, sFzb_ap, sAsg_ap, sSetItem_ap, sAugItem_ap, sAug_ap, sRaise_ap, sNil_ap, sBad_ap, mutO_ap, cA_ap, cNot_ap, cAnd_ap, cOr_ap, cIf_ap, cTup_ap, cLst_ap, pNone_ap, pSome_ap, wAnd_ap, wOr_ap, wNot_ap, wTru_ap, wCmp_ap, wYes_ap, iA_ap, iS_ap, aNil_ap, aCons_ap, kR_ap, b2_ap, b3_ap, c1_ap, chainD_ap, lcF_ap, datE_ap, datB_ap, ownAt_ap, endO_rt, endO_nx, endO_exc, endO_bad, bn_ok, bn_exc, bn_bad, to_ok, to_exc, to_bad, sq_nx, sq_rt, sq_bk, sq_ct, sq_exc, sq_bad, andR_ok, orR_ok, notR_ok, andV_ok, orV_ok, notV_ok, ifV_ok, truD_b, boolD_b, intD_i, tupR0, tupR1, tupR2, tupR3, tupR4, lstR0, lstR1, lstR2, lstR3, lstR4, lstR5, lstR6, lstR7, lstR8, lstR9, negD_i, slA3_l, slA3_t, tupleD_l, tupleD_t, listD_l, listD_t, revD_t, addE_ii, subD_ii, leD_ii, ltD_ii, geD_ii, gtI_ii, eqD_ii, neD_ii, isi_tup_tup, isi_tup_list, isi_tup_none, isi_tup_int, isi_tup_bool, isi_tup_str, isi_tup_dict, isi_int_int, isi_int_bool, isi_int_none, isi_int_str, isi_int_list, isi_int_tup, isi_int_dict, isi_bool_int, isi_bool_bool, isi_bool_none, isi_bool_str, isi_bool_list, isi_bool_tup, isi_bool_dict, lenD_t, lenD_l, seqD_l, seqD_t, List.getElem?_cons_zero, List.getElem?_cons_succ, List.set_cons_zero, List.set_cons_succ, ↓reduceIte, Bool.false_eq_true, Bool.not_true, Bool.not_false, h2, isG_two fun a b e => h ⟨a, b, e⟩]
  | _ => simp only [f_law_is_graph, sSeq_ap, sIf_ap, sRet_ap, sExpr_ap, sSet_ap, sSetO_ap, sFor_ap, sFz_ap, sFzb_ap, sAsg_ap, sSetItem_ap, sAugItem_ap, sAug_ap, sRaise_ap, sNil_ap, sBad_ap, mutO_ap, cA_ap, cNot_ap, cAnd_ap, cOr_ap, cIf_ap, cTup_ap, cLst_ap, pNone_ap, pSome_ap, wAnd_ap, wOr_ap, wNot_ap, wTru_ap, wCmp_ap, wYes_ap, iA_ap, iS_ap, aNil_ap, aCons_ap, kR_ap, b2_ap, b3_ap, c1_ap, chainD_ap, lcF_ap, datE_ap, datB_ap, ownAt_ap, endO_rt, endO_nx, endO_exc, endO_bad, bn_ok, bn_exc, bn_bad, to_ok, to_exc, to_bad, sq_nx, sq_rt, sq_bk, sq_ct, sq_exc, sq_bad, andR_ok, orR_ok, notR_ok, andV_ok, orV_ok, notV_ok, ifV_ok, truD_b, boolD_b, intD_i, tupR0, tupR1, tupR2, tupR3, tupR4, lstR0, lstR1, lstR2, lstR3, lstR4, lstR5, lstR6, lstR7, lstR8, lstR9, negD_i, slA3_l, slA3_t, tupleD_l, tupleD_t, listD_l, listD_t, revD_t, addE_ii, subD_ii, leD_ii, ltD_ii, geD_ii, gtI_ii, eqD_ii, neD_ii, isi_tup_tup, isi_tup_list, isi_tup_none, isi_tup_int, isi_tup_bool, isi_tup_str, isi_tup_dict, isi_int_int, isi_int_bool, isi_int_none, isi_int_str, isi_int_list, isi_int_tup, isi_int_dict, isi_bool_int, isi_bool_bool, isi_bool_none, isi_bool_str, isi_bool_list, isi_bool_tup, isi_bool_dict, lenD_t, lenD_l, seqD_l, seqD_t, List.getElem?_cons_zero, List.getElem?_cons_succ, List.set_cons_zero, List.set_cons_succ, ↓reduceIte, Bool.false_eq_true, Bool.not_true, Bool.not_false, isG]
end Com
namespace DL
open PySem L2
theorem forL_ix {ft : PyData → En → Option En} {fb : En → O} (I : Nat → En → Prop) : ∀ (items : List PyData) (k : Nat) (r : En),
    (∀ i x r, items[i]? = some x → I (k + i) r → ∃ r1, ft x r = some r1 ∧ ∃ r2, fb r1 = .nx r2 ∧ I (k + i + 1) r2) → I k r → ∃ r', forL ft fb items r = .nx r' ∧ I (k + items.length) r'
  | [], k, r, _, h => ⟨r, rfl, h⟩
  | x :: xs, k, r, hs, h => by
    obtain ⟨r1, h1, r2, h2, h3⟩ := hs 0 x r rfl h
    obtain ⟨r', h4, h5⟩ := forL_ix I xs (k + 1) r2 (fun i y r e q => by
      have z := hs (i + 1) y r e (by rw [show k + (i + 1) = k + 1 + i by omega]; exact q)
      rw [show k + (i + 1) + 1 = k + 1 + i + 1 by omega] at z
      exact z) h3
    refine ⟨r', ?_, by rw [List.length_cons, show k + (xs.length + 1) = k + 1 + xs.length by omega]; exact h5⟩
    rw [forL]
    rw [h1]
    show (match fb r1 with
      | .nx r2 => forL ft fb xs r2
      | .ct r2 => forL ft fb xs r2
      | .bk r2 => .nx r2
      | .rt d => .rt d
      | .exc c fs r2 => .exc c fs r2
      | .bad => .bad) = _
    rw [h2]
    exact h4
theorem insK_map {α β : Type} (lt : β → β → Bool) (f : α → β) (x : α) : ∀ l : List α, insK lt (f x) (l.map f) = (insK (fun a b => lt (f a) (f b)) x l).map f
  | [] => rfl
  | y :: l => by
    show (if lt (f y) (f x) = true then f y :: insK lt (f x) (l.map f) else f x :: f y :: l.map f) = (if lt (f y) (f x) = true then y :: insK (fun a b => lt (f a) (f b)) x l else x :: y :: l).map f
    by_cases h : lt (f y) (f x) = true
    · rw [if_pos h, if_pos h, insK_map lt f x l]
      rfl
    · rw [if_neg h, if_neg h]
      rfl
theorem isort_map {α β : Type} (lt : β → β → Bool) (f : α → β) : ∀ l : List α, isort lt (l.map f) = (isort (fun a b => lt (f a) (f b)) l).map f
  | [] => rfl
  | x :: l => by
    show insK lt (f x) (isort lt (l.map f)) = (insK (fun a b => lt (f a) (f b)) x (isort (fun a b => lt (f a) (f b)) l)).map f
    rw [isort_map lt f l, insK_map]
end DL
namespace Com
open PySem L2 DL
def cellN (ns : List Int) (k : Nat) : Int := ns.getD k 0
theorem cell_eq (ns : List Int) (k : Int) (h : 0 ≤ k) : m_law_cell [.list (ns.map .int), .int k] = .ok (.int (cellN ns k.toNat)) := by
  rw [r_law_cell]
  unfold cellN
  by_cases hl : k < (ns.length : Int)
  · have e : (ns.map PyData.int)[k.toNat]? = some (.int (ns.getD k.toNat 0)) := by
      rw [List.getElem?_map, List.getD_eq_getElem?_getD, List.getElem?_eq_getElem (by omega)]
      rfl
    simp [f_law_cell, sSeq_ap, sIf_ap, sRet_ap, sExpr_ap, sSet_ap, sSetO_ap, sFor_ap, sFz_ap, sFzb_ap, sAsg_ap, sSetItem_ap, sAugItem_ap, sAug_ap, sRaise_ap, sNil_ap, sBad_ap, mutO_ap, cA_ap, cNot_ap, cAnd_ap, cOr_ap, cIf_ap, cTup_ap, cLst_ap, pNone_ap, pSome_ap, wAnd_ap, wOr_ap, wNot_ap, wTru_ap, wCmp_ap, wYes_ap, iA_ap, iS_ap, aNil_ap, aCons_ap, kR_ap, b2_ap, b3_ap, c1_ap, chainD_ap, lcF_ap, datE_ap, datB_ap, ownAt_ap, endO_rt, endO_nx, endO_exc, endO_bad, bn_ok, bn_exc, bn_bad, to_ok, to_exc, to_bad, sq_nx, sq_rt, sq_bk, sq_ct, sq_exc, sq_bad, andR_ok, orR_ok, notR_ok, andV_ok, orV_ok, notV_ok, ifV_ok, truD_b, boolD_b, intD_i, tupR0, tupR1, tupR2, tupR3, tupR4, lstR0, lstR1, lstR2, lstR3, lstR4, lstR5, lstR6, lstR7, lstR8, lstR9, negD_i, slA3_l, slA3_t, tupleD_l, tupleD_t, listD_l, listD_t, revD_t, addE_ii, subD_ii, leD_ii, ltD_ii, geD_ii, gtI_ii, eqD_ii, neD_ii, isi_tup_tup, isi_tup_list, isi_tup_none, isi_tup_int, isi_tup_bool, isi_tup_str, isi_tup_dict, isi_int_int, isi_int_bool, isi_int_none, isi_int_str, isi_int_list, isi_int_tup, isi_int_dict, isi_bool_int, isi_bool_bool, isi_bool_none, isi_bool_str, isi_bool_list, isi_bool_tup, isi_bool_dict, lenD_t, lenD_l, seqD_l, seqD_t, List.getElem?_cons_zero, List.getElem?_cons_succ, List.set_cons_zero, List.set_cons_succ, ↓reduceIte, Bool.false_eq_true, Bool.not_true, Bool.not_false, hl, ix_l h e]
  · have e : ns.getD k.toNat 0 = 0 := by
      rw [List.getD_eq_getElem?_getD, List.getElem?_eq_none (by omega)]
      rfl
    simp [f_law_cell, sSeq_ap, sIf_ap, sRet_ap, sExpr_ap, sSet_ap, sSetO_ap, sFor_ap, sFz_ap, sFzb_ap, sAsg_ap, sSetItem_ap, sAugItem_ap, sAug_ap, sRaise_ap, sNil_ap, sBad_ap, mutO_ap, cA_ap, cNot_ap, cAnd_ap, cOr_ap, cIf_ap, cTup_ap, cLst_ap, pNone_ap, pSome_ap, wAnd_ap, wOr_ap, wNot_ap, wTru_ap, wCmp_ap, wYes_ap, iA_ap, iS_ap, aNil_ap, aCons_ap, kR_ap, b2_ap, b3_ap, c1_ap, chainD_ap, lcF_ap, datE_ap, datB_ap, ownAt_ap, endO_rt, endO_nx, endO_exc, endO_bad, bn_ok, bn_exc, bn_bad, to_ok, to_exc, to_bad, sq_nx, sq_rt, sq_bk, sq_ct, sq_exc, sq_bad, andR_ok, orR_ok, notR_ok, andV_ok, orV_ok, notV_ok, ifV_ok, truD_b, boolD_b, intD_i, tupR0, tupR1, tupR2, tupR3, tupR4, lstR0, lstR1, lstR2, lstR3, lstR4, lstR5, lstR6, lstR7, lstR8, lstR9, negD_i, slA3_l, slA3_t, tupleD_l, tupleD_t, listD_l, listD_t, revD_t, addE_ii, subD_ii, leD_ii, ltD_ii, geD_ii, gtI_ii, eqD_ii, neD_ii, isi_tup_tup, isi_tup_list, isi_tup_none, isi_tup_int, isi_tup_bool, isi_tup_str, isi_tup_dict, isi_int_int, isi_int_bool, isi_int_none, isi_int_str, isi_int_list, isi_int_tup, isi_int_dict, isi_bool_int, isi_bool_bool, isi_bool_none, isi_bool_str, isi_bool_list, isi_bool_tup, isi_bool_dict, lenD_t, lenD_l, seqD_l, seqD_t, List.getElem?_cons_zero, List.getElem?_cons_succ, List.set_cons_zero, List.set_cons_succ, ↓reduceIte, Bool.false_eq_true, Bool.not_true, Bool.not_false, hl]
    rw [List.getElem?_eq_none (by omega)]
    rfl
theorem pow_18 : powD (.int 10) (.int 18) = .ok (.int 1000000000000000000) := by
  have e : (10 : Int) ^ (18 : Int).toNat = 1000000000000000000 := by decide
  show (if 0 ≤ (18 : Int) ∧ (18 : Int) ≤ 1000000 ∧ (10 : Int).natAbs < 2 ^ 64 then R.ok (PyData.int ((10 : Int) ^ (18 : Int).toNat)) else R.bad) = _
  rw [if_pos (by decide), e]
theorem rng_n {n : Int} (h0 : 0 ≤ n) (h : n ≤ 1000) : rng1 [.int n] = .ok (rangeL 0 n.toNat) := by
  have : (1000 : Nat) ≤ sizeLine := by decide
  exact if_pos ⟨by omega, by omega, by omega⟩
theorem rangeL_get {lo : Int} {n i : Nat} {x : PyData} (h : (rangeL lo n)[i]? = some x) : i < n ∧ x = .int (lo + (i : Int)) := by
  unfold rangeL at h
  rw [List.getElem?_map] at h
  by_cases hi : i < n
  · rw [List.getElem?_eq_getElem (by simpa using hi)] at h
    simp at h
    exact ⟨hi, h.symm⟩
  · rw [List.getElem?_eq_none (by simpa using hi)] at h
    cases h
theorem row_ok (ns : List Int) (k : Int) (h : 0 ≤ k) : ∃ ds : List Int, ds.length = 60 ∧ m_law_row [.list (ns.map .int), .int k] = .ok (.list (ds.map .int)) := by
  rw [r_law_row]
  generalize hS : PyData.list (ns.map .int) = S
  have cell : ∀ i : Int, 0 ≤ i → m_law_cell [S, .int i] = .ok (.int (cellN ns i.toNat)) := fun i hi => by rw [← hS]; exact cell_eq ns i hi
  obtain ⟨r', h1, c, fo, t, h2, h3⟩ := forL_ix (ft := gN 4) (fb := (sIf (wCmp (b2 (cA m_law_cell (aCons (datE 0) (aCons (datE 1) aNil))) (b2 (kR (.int 10)) (kR (.int 18)) powD) ltD))
    (sSeq (sSet 2 (b2 (b2 (b2 (b2 (b2 (datB 2) (kR (.int 48271)) mulD) (b2 (kR (.int 131)) (datB 4) mulD) addE) (kR (.int 7)) addE) (cA m_law_cell (aCons (datE 0) (aCons (b2 (b2 (b2 (datB 1) (kR (.int 1)) addE) (datB 4) addE) (kR (.int 20)) modD) aNil))) addE) (kR (.int 2147483647)) modD))
    (mutO 3 (aCons (b2 (b2 (datB 2) (kR (.int 11)) fdivD) (kR (.int 1000)) modD) aNil) gApp))
    (sSeq (mutO 3 (aCons (b2 (datB 2) (kR (.int 1000)) modD) aNil) gApp)
    (sSet 2 (b2 (datB 2) (kR (.int 1000)) fdivD))))) (fun i r => ∃ (c : Int) (fo : List Int) (t : Sl), fo.length = i ∧ r = [.dat S, .dat (.int k), .dat (.int c), .own (fo.map .int), t])
    (rangeL 0 60) 0 [.dat S, .dat (.int k), .dat (.int (cellN ns k.toNat)), .own [], .un] (by
      rintro i x r hx ⟨c, fo, t, hf, rfl⟩
      obtain ⟨hi, rfl⟩ := rangeL_get hx
      refine ⟨[.dat S, .dat (.int k), .dat (.int c), .own (fo.map .int), .dat (.int (0 + (i : Int)))], rfl, ?_⟩
      have hap : ∀ z : Int, gApp (fo.map PyData.int) [.int z] = some ((fo ++ [z]).map .int) := fun z => by
        have : (60 : Nat) ≤ sizeLine := by decide
        rw [List.map_append]
        exact if_pos (by rw [List.length_map]; omega)
      have m1 : mulD (.int c) (.int 48271) = .ok (.int (c * 48271)) := mulD_ii (.inr (by decide))
      have m2 : ∀ z : Int, mulD (.int 131) (.int z) = .ok (.int (131 * z)) := fun z => mulD_ii (.inl (by decide))
      have d1 : ∀ z : Int, modD (.int z) (.int 20) = .ok (.int (z % 20)) := fun z => modD_ii (by decide)
      have d2 : ∀ z : Int, modD (.int z) (.int 2147483647) = .ok (.int (z % 2147483647)) := fun z => modD_ii (by decide)
      have d3 : ∀ z : Int, modD (.int z) (.int 1000) = .ok (.int (z % 1000)) := fun z => modD_ii (by decide)
      have f1 : ∀ z : Int, fdivD (.int z) (.int 11) = .ok (.int (z / 11)) := fun z => fdivD_ii (by decide)
      have f2 : ∀ z : Int, fdivD (.int z) (.int 1000) = .ok (.int (z / 1000)) := fun z => fdivD_ii (by decide)
      have ck := cell k h
      have ce := fun z : Int => cell (z % 20) (Int.emod_nonneg _ (by decide))
      by_cases hc : cellN ns k.toNat < 1000000000000000000
      · obtain ⟨c', hc'⟩ : ∃ c', c' = (c * 48271 + 131 * (0 + (i : Int)) + 7 + cellN ns ((k + 1 + (0 + (i : Int))) % 20).toNat) % 2147483647 := ⟨_, rfl⟩
        refine ⟨[.dat S, .dat (.int k), .dat (.int c'), .own ((fo ++ [c' / 11 % 1000]).map .int), .dat (.int (0 + (i : Int)))], ?_, c', fo ++ [c' / 11 % 1000], _, by rw [List.length_append, hf]; rfl, rfl⟩
        simp only [hc', sSeq_ap, sIf_ap, sRet_ap, sExpr_ap, sSet_ap, sSetO_ap, sFor_ap, sFz_ap, sFzb_ap, sAsg_ap, sSetItem_ap, sAugItem_ap, sAug_ap, sRaise_ap, sNil_ap, sBad_ap, mutO_ap, cA_ap, cNot_ap, cAnd_ap, cOr_ap, cIf_ap, cTup_ap, cLst_ap, pNone_ap, pSome_ap, wAnd_ap, wOr_ap, wNot_ap, wTru_ap, wCmp_ap, wYes_ap, iA_ap, iS_ap, aNil_ap, aCons_ap, kR_ap, b2_ap, b3_ap, c1_ap, chainD_ap, lcF_ap, datE_ap, datB_ap, ownAt_ap, endO_rt, endO_nx, endO_exc, endO_bad, bn_ok, bn_exc, bn_bad, to_ok, to_exc, to_bad, sq_nx, sq_rt, sq_bk, sq_ct, sq_exc, sq_bad, andR_ok, orR_ok, notR_ok, andV_ok, orV_ok, notV_ok, ifV_ok, truD_b, boolD_b, intD_i, tupR0, tupR1, tupR2, tupR3, tupR4, lstR0, lstR1, lstR2, lstR3, lstR4, lstR5, lstR6, lstR7, lstR8, lstR9, negD_i, slA3_l, slA3_t, tupleD_l, tupleD_t, listD_l, listD_t, revD_t, addE_ii, subD_ii, leD_ii, ltD_ii, geD_ii, gtI_ii, eqD_ii, neD_ii, isi_tup_tup, isi_tup_list, isi_tup_none, isi_tup_int, isi_tup_bool, isi_tup_str, isi_tup_dict, isi_int_int, isi_int_bool, isi_int_none, isi_int_str, isi_int_list, isi_int_tup, isi_int_dict, isi_bool_int, isi_bool_bool, isi_bool_none, isi_bool_str, isi_bool_list, isi_bool_tup, isi_bool_dict, lenD_t, lenD_l, seqD_l, seqD_t, List.getElem?_cons_zero, List.getElem?_cons_succ, List.set_cons_zero, List.set_cons_succ, ↓reduceIte, Bool.false_eq_true, Bool.not_true, Bool.not_false, ck, ce, pow_18, hc, decide_true, m1, m2, d1, d2, d3, f1, hap]
      · refine ⟨[.dat S, .dat (.int k), .dat (.int (c / 1000)), .own ((fo ++ [c % 1000]).map .int), .dat (.int (0 + (i : Int)))], ?_, c / 1000, fo ++ [c % 1000], _, by rw [List.length_append, hf]; rfl, rfl⟩
        simp only [sSeq_ap, sIf_ap, sRet_ap, sExpr_ap, sSet_ap, sSetO_ap, sFor_ap, sFz_ap, sFzb_ap, sAsg_ap, sSetItem_ap, sAugItem_ap, sAug_ap, sRaise_ap, sNil_ap, sBad_ap, mutO_ap, cA_ap, cNot_ap, cAnd_ap, cOr_ap, cIf_ap, cTup_ap, cLst_ap, pNone_ap, pSome_ap, wAnd_ap, wOr_ap, wNot_ap, wTru_ap, wCmp_ap, wYes_ap, iA_ap, iS_ap, aNil_ap, aCons_ap, kR_ap, b2_ap, b3_ap, c1_ap, chainD_ap, lcF_ap, datE_ap, datB_ap, ownAt_ap, endO_rt, endO_nx, endO_exc, endO_bad, bn_ok, bn_exc, bn_bad, to_ok, to_exc, to_bad, sq_nx, sq_rt, sq_bk, sq_ct, sq_exc, sq_bad, andR_ok, orR_ok, notR_ok, andV_ok, orV_ok, notV_ok, ifV_ok, truD_b, boolD_b, intD_i, tupR0, tupR1, tupR2, tupR3, tupR4, lstR0, lstR1, lstR2, lstR3, lstR4, lstR5, lstR6, lstR7, lstR8, lstR9, negD_i, slA3_l, slA3_t, tupleD_l, tupleD_t, listD_l, listD_t, revD_t, addE_ii, subD_ii, leD_ii, ltD_ii, geD_ii, gtI_ii, eqD_ii, neD_ii, isi_tup_tup, isi_tup_list, isi_tup_none, isi_tup_int, isi_tup_bool, isi_tup_str, isi_tup_dict, isi_int_int, isi_int_bool, isi_int_none, isi_int_str, isi_int_list, isi_int_tup, isi_int_dict, isi_bool_int, isi_bool_bool, isi_bool_none, isi_bool_str, isi_bool_list, isi_bool_tup, isi_bool_dict, lenD_t, lenD_l, seqD_l, seqD_t, List.getElem?_cons_zero, List.getElem?_cons_succ, List.set_cons_zero, List.set_cons_succ, ↓reduceIte, Bool.false_eq_true, Bool.not_true, Bool.not_false, ck, pow_18, hc, decide_false, d3, f2, hap]) ⟨_, [], _, rfl, rfl⟩
  refine ⟨fo, by rw [h2]; rfl, ?_⟩
  subst h3
  have r60 : rng1 [.int 60] = .ok (rangeL 0 60) := rng_n (by decide) (by decide)
  have l0 : lstR [] = .ok (.list []) := rfl
  simp only [f_law_row, sSeq_ap, sIf_ap, sRet_ap, sExpr_ap, sSet_ap, sSetO_ap, sFor_ap, sFz_ap, sFzb_ap, sAsg_ap, sSetItem_ap, sAugItem_ap, sAug_ap, sRaise_ap, sNil_ap, sBad_ap, mutO_ap, cA_ap, cNot_ap, cAnd_ap, cOr_ap, cIf_ap, cTup_ap, cLst_ap, pNone_ap, pSome_ap, wAnd_ap, wOr_ap, wNot_ap, wTru_ap, wCmp_ap, wYes_ap, iA_ap, iS_ap, aNil_ap, aCons_ap, kR_ap, b2_ap, b3_ap, c1_ap, chainD_ap, lcF_ap, datE_ap, datB_ap, ownAt_ap, endO_rt, endO_nx, endO_exc, endO_bad, bn_ok, bn_exc, bn_bad, to_ok, to_exc, to_bad, sq_nx, sq_rt, sq_bk, sq_ct, sq_exc, sq_bad, andR_ok, orR_ok, notR_ok, andV_ok, orV_ok, notV_ok, ifV_ok, truD_b, boolD_b, intD_i, tupR0, tupR1, tupR2, tupR3, tupR4, lstR0, lstR1, lstR2, lstR3, lstR4, lstR5, lstR6, lstR7, lstR8, lstR9, negD_i, slA3_l, slA3_t, tupleD_l, tupleD_t, listD_l, listD_t, revD_t, addE_ii, subD_ii, leD_ii, ltD_ii, geD_ii, gtI_ii, eqD_ii, neD_ii, isi_tup_tup, isi_tup_list, isi_tup_none, isi_tup_int, isi_tup_bool, isi_tup_str, isi_tup_dict, isi_int_int, isi_int_bool, isi_int_none, isi_int_str, isi_int_list, isi_int_tup, isi_int_dict, isi_bool_int, isi_bool_bool, isi_bool_none, isi_bool_str, isi_bool_list, isi_bool_tup, isi_bool_dict, lenD_t, lenD_l, seqD_l, seqD_t, List.getElem?_cons_zero, List.getElem?_cons_succ, List.set_cons_zero, List.set_cons_succ, ↓reduceIte, Bool.false_eq_true, Bool.not_true, Bool.not_false, cell k h, l0, ownO, r60, h1, fzE]
end Com
namespace Com
open PySem L2 DL
/-! ### sorting edges -/
theorem keyT_edge (p : Int × Int) : keyT (edgeD p) = [.i p.1, .i p.2] := rfl
theorem ltT_edge (p q : Int × Int) : ltT (edgeD p) (edgeD q) = eLt p q := by
  unfold ltT eLt
  rw [keyT_edge, keyT_edge]
  simp only [lexK, EK.i.injEq]
  by_cases h : p.1 = q.1
  · rw [if_pos h]
    by_cases h2 : p.2 = q.2
    · simp [h, h2]
    · simp [h, h2, ltEK]
  · simp [h, ltEK]
theorem sortable_edges (ps : List (Int × Int)) : sortableT (ps.map edgeD) = true := by
  unfold sortableT
  rw [List.all_eq_true]
  intro d m
  obtain ⟨p, _, rfl⟩ := List.mem_map.mp m
  rw [Bool.and_eq_true]
  refine ⟨rfl, ?_⟩
  rw [List.all_eq_true]
  intro e m2
  obtain ⟨q, _, rfl⟩ := List.mem_map.mp m2
  rfl
theorem sort_edges (ps : List (Int × Int)) : sortD (.list (ps.map edgeD)) = .ok (.list ((isort eLt ps).map edgeD)) := by
  cases ps with
  | nil => rfl
  | cons p r =>
    have e : isort ltT ((p :: r).map edgeD) = (isort eLt (p :: r)).map edgeD := by
      rw [isort_map]
      congr 2
      funext a b
      exact ltT_edge a b
    show (if sortableT ((p :: r).map edgeD) = true then R.ok (PyData.list (isort ltT ((p :: r).map edgeD))) else R.bad) = _
    rw [if_pos (sortable_edges (p :: r)), e]
theorem eLt_asym {p q : Int × Int} (h : eLt p q = true) : eLt q p = false := by
  unfold eLt at h ⊢
  simp only [Bool.or_eq_true, Bool.and_eq_true, decide_eq_true_eq] at h
  simp only [Bool.or_eq_false_iff, Bool.and_eq_false_iff, decide_eq_false_iff_not]
  omega
theorem eLt_tri {p q : Int × Int} (h : p ≠ q) (h2 : eLt q p = false) : eLt p q = true := by
  unfold eLt at h2 ⊢
  simp only [Bool.or_eq_false_iff, Bool.and_eq_false_iff, decide_eq_false_iff_not] at h2
  simp only [Bool.or_eq_true, Bool.and_eq_true, decide_eq_true_eq]
  have : p.1 ≠ q.1 ∨ p.2 ≠ q.2 := by
    by_cases e : p.1 = q.1
    · right
      intro e2
      exact h (Prod.ext e e2)
    · exact .inl e
  omega
theorem eLt_trans {p q r : Int × Int} (h : eLt p q = true) (h2 : eLt q r = true) : eLt p r = true := by
  unfold eLt at h h2 ⊢
  simp only [Bool.or_eq_true, Bool.and_eq_true, decide_eq_true_eq] at h h2 ⊢
  omega
theorem eLt_swo : SrtO.Swo eLt where
  asym := fun x y h => eLt_asym h
  tr := fun x y z h1 h2 => by
    cases h : eLt z x with
    | false => rfl
    | true =>
      by_cases e : x = y
      · subst e; rw [h] at h2; cases h2
      · have := eLt_tri e h1
        have := eLt_trans h this
        rw [this] at h2
        cases h2
theorem chn_of_pw : ∀ {ps : List (Int × Int)}, ps.Pairwise (fun p q => eLt p q = true) → chn ps = true
  | [], _ => rfl
  | [p], _ => rfl
  | p :: q :: r, h => by
    cases h with
    | cons h1 h2 =>
      show (eLt p q && chn (q :: r)) = true
      rw [h1 q List.mem_cons_self, chn_of_pw h2]
      rfl
theorem pw_of_chn : ∀ {ps : List (Int × Int)}, chn ps = true → ps.Pairwise (fun p q => eLt p q = true)
  | [], _ => .nil
  | [p], _ => List.pairwise_singleton _ _
  | p :: q :: r, h => by
    have h' : (eLt p q && chn (q :: r)) = true := h
    rw [Bool.and_eq_true] at h'
    have ih := pw_of_chn h'.2
    refine .cons (fun x m => ?_) ih
    rcases List.mem_cons.mp m with rfl | m
    · exact h'.1
    · exact eLt_trans h'.1 (List.rel_of_pairwise_cons ih m)
theorem isort_strict {ps : List (Int × Int)} (h : ps.Nodup) : (isort eLt ps).Pairwise (fun p q => eLt p q = true) := by
  have s := isort_srtd eLt_swo ps
  have n : (isort eLt ps).Nodup := (isort_perm ps).symm.nodup h
  have z := List.Pairwise.and s n
  exact z.imp fun {p q} w => eLt_tri w.2 w.1
/-! ### keyed edges -/
def kedD (x : Int × (Int × Int)) : PyData := .tuple [.int x.1, edgeD x.2]
theorem sortable_ked (ks : List (Int × (Int × Int))) : sortableT (ks.map kedD) = true := by
  unfold sortableT
  rw [List.all_eq_true]
  intro d m
  obtain ⟨p, _, rfl⟩ := List.mem_map.mp m
  rw [Bool.and_eq_true]
  refine ⟨rfl, ?_⟩
  rw [List.all_eq_true]
  intro e m2
  obtain ⟨q, _, rfl⟩ := List.mem_map.mp m2
  rfl
theorem sort_ked (ks : List (Int × (Int × Int))) : ∃ ks' : List (Int × (Int × Int)), ks'.Perm ks ∧ sortD (.list (ks.map kedD)) = .ok (.list (ks'.map kedD)) := by
  cases ks with
  | nil => exact ⟨[], .refl _, rfl⟩
  | cons p r =>
    refine ⟨isort (fun a b => ltT (kedD a) (kedD b)) (p :: r), isort_perm _, ?_⟩
    show (if sortableT ((p :: r).map kedD) = true then R.ok (PyData.list (isort ltT ((p :: r).map kedD))) else R.bad) = _
    rw [if_pos (sortable_ked (p :: r)), isort_map]
theorem filt_true {α : Type} : ∀ l : List α, l.filter (fun _ => true) = l
  | [] => rfl
  | x :: r => by rw [List.filter_cons, if_pos rfl, filt_true r]
theorem cut_to {α : Type} (xs : List α) (k : Int) (h : 0 ≤ k) : cutL xs none (some k) = xs.take k.toNat := by
  obtain ⟨n, rfl⟩ := Int.eq_ofNat_of_zero_le h
  unfold cutL
  rw [HT.sIx_none, HT.sIx_nat, List.drop_zero, Nat.sub_zero, Int.toNat_natCast]
  by_cases h : n ≤ xs.length
  · rw [Nat.min_eq_left h]
  · rw [Nat.min_eq_right (by omega), List.take_of_length_le (Nat.le_refl _), List.take_of_length_le (by omega)]
/-! ### all pairs -/
def allP : Nat → List (Int × Int)
  | 1 => []
  | 2 => [(0, 1)]
  | 3 => [(0, 1), (0, 2), (1, 2)]
  | 4 => [(0, 1), (0, 2), (0, 3), (1, 2), (1, 3), (2, 3)]
  | 5 => [(0, 1), (0, 2), (0, 3), (0, 4), (1, 2), (1, 3), (1, 4), (2, 3), (2, 4), (3, 4)]
  | 6 => [(0, 1), (0, 2), (0, 3), (0, 4), (0, 5), (1, 2), (1, 3), (1, 4), (1, 5), (2, 3), (2, 4), (2, 5), (3, 4), (3, 5), (4, 5)]
  | 7 => [(0, 1), (0, 2), (0, 3), (0, 4), (0, 5), (0, 6), (1, 2), (1, 3), (1, 4), (1, 5), (1, 6), (2, 3), (2, 4), (2, 5), (2, 6), (3, 4), (3, 5), (3, 6), (4, 5), (4, 6), (5, 6)]
  | _ => []
theorem v_cases {v : Int} (h1 : 1 ≤ v) (h7 : v ≤ 7) : v = 1 ∨ v = 2 ∨ v = 3 ∨ v = 4 ∨ v = 5 ∨ v = 6 ∨ v = 7 := by omega
theorem allP_nodup {v : Int} (h1 : 1 ≤ v) (h7 : v ≤ 7) : (allP v.toNat).Nodup := by
  rcases v_cases h1 h7 with rfl | rfl | rfl | rfl | rfl | rfl | rfl <;> decide
theorem allP_in {v : Int} (h1 : 1 ≤ v) (h7 : v ≤ 7) : ∀ p ∈ allP v.toNat, 0 ≤ p.1 ∧ p.1 < p.2 ∧ p.2 < v := by
  rcases v_cases h1 h7 with rfl | rfl | rfl | rfl | rfl | rfl | rfl <;> decide
theorem allP_len {v : Int} (h1 : 1 ≤ v) (h7 : v ≤ 7) : (allP v.toNat).length ≤ 21 := by
  rcases v_cases h1 h7 with rfl | rfl | rfl | rfl | rfl | rfl | rfl <;> decide
theorem loop_pairs {v : Int} (h1 : 1 ≤ v) (h7 : v ≤ 7) (a b c d e : PyData) : ∃ x y, forL (gN 7) (sFor (iA rng2 (aCons (b2 (datB 7) (kR (.int 1)) addE) (aCons (datE 5) aNil))) (gN 8)
    (mutO 6 (aCons (cTup (aCons (datE 7) (aCons (datE 8) aNil))) aNil) gApp)) (rangeL 0 v.toNat) [.dat a, .dat b, .dat c, .dat d, .dat e, .dat (.int v), .own [], .un, .un, .un, .un, .un, .un, .un] =
    .nx [.dat a, .dat b, .dat c, .dat d, .dat e, .dat (.int v), .own ((allP v.toNat).map edgeD), x, y, .un, .un, .un, .un, .un] := by
  rcases v_cases h1 h7 with rfl | rfl | rfl | rfl | rfl | rfl | rfl
  · exact ⟨.dat (.int 0), .un, by kernel_rfl⟩
  · exact ⟨.dat (.int 1), .dat (.int 1), by kernel_rfl⟩
  · exact ⟨.dat (.int 2), .dat (.int 2), by kernel_rfl⟩
  · exact ⟨.dat (.int 3), .dat (.int 3), by kernel_rfl⟩
  · exact ⟨.dat (.int 4), .dat (.int 4), by kernel_rfl⟩
  · exact ⟨.dat (.int 5), .dat (.int 5), by kernel_rfl⟩
  · exact ⟨.dat (.int 6), .dat (.int 6), by kernel_rfl⟩
/-! ### the graph of a script -/
def graphD (v : Int) (ps : List (Int × Int)) : PyData := .tuple [.int v, .tuple (ps.map edgeD)]
structure Gok (v : Int) (ps : List (Int × Int)) : Prop where
  lo : 1 ≤ v
  hi : v ≤ 7
  ed : ∀ p ∈ ps, 0 ≤ p.1 ∧ p.1 < p.2 ∧ p.2 < v
  ch : chn ps = true
  len : ps.length ≤ 12
theorem map_unE (ps : List (Int × Int)) : (ps.map edgeD).map unE = ps := by
  rw [List.map_map]
  conv => rhs; rw [← List.map_id ps]
  rfl
theorem all_isE {v : Int} {ps : List (Int × Int)} (h : ∀ p ∈ ps, 0 ≤ p.1 ∧ p.1 < p.2 ∧ p.2 < v) : (ps.map edgeD).all (isE v) = true := by
  rw [List.all_eq_true]
  intro d m
  obtain ⟨p, mp, rfl⟩ := List.mem_map.mp m
  obtain ⟨h0, h1, h2⟩ := h p mp
  exact isE_of h0 h1 h2
theorem Gok.isG {v : Int} {ps : List (Int × Int)} (h : Gok v ps) : isG (graphD v ps) = true := by
  show ((decide (1 ≤ v) && decide (v ≤ 7)) && (decide ((ps.map edgeD).length ≤ 12) && ((ps.map edgeD).all (isE v) && chn ((ps.map edgeD).map unE)))) = true
  rw [map_unE, all_isE h.ed, h.ch, decide_eq_true h.lo, decide_eq_true h.hi, decide_eq_true (by rw [List.length_map]; exact h.len)]
  rfl
theorem getD_ints {ds : List Int} {i : Nat} (h : i < ds.length) : (ds.map PyData.int)[i]? = some (.int (ds.getD i 0)) := by
  rw [List.getElem?_map, List.getD_eq_getElem?_getD, List.getElem?_eq_getElem h]
  rfl
theorem ix_ints {ds : List Int} {i : Int} (h0 : 0 ≤ i) (h : i < (ds.length : Int)) : ixD (.list (ds.map .int)) (.int i) = .ok (.int (ds.getD i.toNat 0)) := ix_l h0 (getD_ints (by omega))
theorem ix_list {α : Type} {f : α → PyData} {xs : List α} {i : Nat} {a : α} (h : xs[i]? = some a) : ixD (.list (xs.map f)) (.int (i : Int)) = .ok (f a) := ix_l (Int.natCast_nonneg i) (by rw [Int.toNat_natCast, List.getElem?_map, h]; rfl)
theorem fz9 {a0 a1 a2 a3 a4 a5 a6 a7 a8 : Sl} {r : En} {ds : List PyData} : fzE 9 (a0 :: a1 :: a2 :: a3 :: a4 :: a5 :: a6 :: a7 :: a8 :: .own ds :: r) = a0 :: a1 :: a2 :: a3 :: a4 :: a5 :: a6 :: a7 :: a8 :: .dat (.list ds) :: r := nr rfl
theorem ownO_l {i : Nat} {r : En} {ds : List PyData} : ownO i r (.list ds) = .nx (r.set i (.own ds)) := nr rfl
theorem graph_ok (ns : List Int) (k mv me : Int) (hk : 0 ≤ k) (h1 : 1 ≤ mv) (h7 : mv ≤ 7) (h0 : 0 ≤ me) (h12 : me ≤ 12) :
    ∃ v ps, v ≤ mv ∧ (ps.length : Int) ≤ me ∧ Gok v ps ∧ m_law_graph [.list (ns.map .int), .int k, .int mv, .int me] = .ok (graphD v ps) := by
  rw [r_law_graph]
  obtain ⟨ds, hd, er⟩ := row_ok ns k hk
  generalize hS : PyData.list (ns.map .int) = S at er ⊢
  obtain ⟨v, hv⟩ : ∃ v, v = 1 + ds.getD 0 0 % mv := ⟨_, rfl⟩
  have e0 := Int.emod_nonneg (ds.getD 0 0) (show mv ≠ 0 by omega)
  have e1 := Int.emod_lt_of_pos (ds.getD 0 0) (show 0 < mv by omega)
  have v1 : 1 ≤ v := by omega
  have v7 : v ≤ 7 := by omega
  obtain ⟨x, y, lp⟩ := loop_pairs v1 v7 S (.int k) (.int mv) (.int me) (.list (ds.map .int))
  generalize hP : allP v.toNat = P at lp
  have pn : P.Nodup := hP ▸ allP_nodup v1 v7
  have pin : ∀ p ∈ P, 0 ≤ p.1 ∧ p.1 < p.2 ∧ p.2 < v := hP ▸ allP_in v1 v7
  have pl : P.length ≤ 21 := hP ▸ allP_len v1 v7
  -- keyed
  obtain ⟨ks, hks⟩ : ∃ ks : List (Int × (Int × Int)), ks = (List.range P.length).map fun i => (ds.getD (2 + i) 0 % 97, P.getD i (0, 0)) := ⟨_, rfl⟩
  have ksP : ks.map (·.2) = P := by
    rw [hks, List.map_map]
    apply List.ext_getElem
    · simp
    · intro i a b
      simp
      rw [List.getElem?_eq_getElem b]
      rfl
  have comp1 : compL (gN 11) wYes (cTup (aCons (b2 (b2 (datB 4) (b2 (kR (.int 2)) (datB 11) addE) ixD) (kR (.int 97)) modD) (aCons (b2 (datB 6) (datB 11) ixD) aNil)))
      (wipeE [11] [.dat S, .dat (.int k), .dat (.int mv), .dat (.int me), .dat (.list (ds.map .int)), .dat (.int v), .own (P.map edgeD), x, y, .un, .un, .un, .un, .un]) (rangeL 0 P.length) = .ok (ks.map kedD) := by
    have e : compL (gN 11) wYes (cTup (aCons (b2 (b2 (datB 4) (b2 (kR (.int 2)) (datB 11) addE) ixD) (kR (.int 97)) modD) (aCons (b2 (datB 6) (datB 11) ixD) aNil)))
      (wipeE [11] [.dat S, .dat (.int k), .dat (.int mv), .dat (.int me), .dat (.list (ds.map .int)), .dat (.int v), .own (P.map edgeD), x, y, .un, .un, .un, .un, .un]) (rangeL 0 P.length)
      = .ok (((rangeL 0 P.length).filter fun _ => true).map fun d => match d with
        | .int i => kedD (ds.getD (2 + i.toNat) 0 % 97, P.getD i.toNat (0, 0))
        | _ => .none) := by
      refine compL_eq _ fun z mz => ?_
      obtain ⟨i, hi, ez⟩ := List.mem_iff_getElem?.mp mz |>.imp fun i e => (⟨(rangeL_get e).1, (rangeL_get e).2⟩ : i < P.length ∧ z = .int (0 + (i : Int)))
      subst ez
      refine ⟨[.dat S, .dat (.int k), .dat (.int mv), .dat (.int me), .dat (.list (ds.map .int)), .dat (.int v), .own (P.map edgeD), x, y, .un, .un, .dat (.int (0 + (i : Int))), .un, .un], rfl, rfl, fun _ => ?_⟩
      have a1 : ixD (.list (ds.map .int)) (.int (2 + (0 + (i : Int)))) = .ok (.int (ds.getD (2 + i) 0)) := by
        rw [ix_ints (by omega) (by omega), show (2 + (0 + (i : Int))).toNat = 2 + i by omega]
      have a2 : ixD (.list (P.map edgeD)) (.int (0 + (i : Int))) = .ok (edgeD (P.getD i (0, 0))) := by
        rw [Int.zero_add]
        refine ix_list ?_
        rw [List.getD_eq_getElem?_getD, List.getElem?_eq_getElem hi]
        rfl
      have a3 : ∀ z : Int, modD (.int z) (.int 97) = .ok (.int (z % 97)) := fun z => modD_ii (by decide)
      have a4 : ∀ p q : PyData, tupR [p, q] = .ok (.tuple [p, q]) := fun p q => tupR_ok (show 2 ≤ sizeLine by decide)
      have a5 : (0 + (i : Int)).toNat = i := by omega
      simp only [sSeq_ap, sIf_ap, sRet_ap, sExpr_ap, sSet_ap, sSetO_ap, sFor_ap, sFz_ap, sFzb_ap, sAsg_ap, sSetItem_ap, sAugItem_ap, sAug_ap, sRaise_ap, sNil_ap, sBad_ap, mutO_ap, cA_ap, cNot_ap, cAnd_ap, cOr_ap, cIf_ap, cTup_ap, cLst_ap, pNone_ap, pSome_ap, wAnd_ap, wOr_ap, wNot_ap, wTru_ap, wCmp_ap, wYes_ap, iA_ap, iS_ap, aNil_ap, aCons_ap, kR_ap, b2_ap, b3_ap, c1_ap, chainD_ap, lcF_ap, datE_ap, datB_ap, ownAt_ap, endO_rt, endO_nx, endO_exc, endO_bad, bn_ok, bn_exc, bn_bad, to_ok, to_exc, to_bad, sq_nx, sq_rt, sq_bk, sq_ct, sq_exc, sq_bad, andR_ok, orR_ok, notR_ok, andV_ok, orV_ok, notV_ok, ifV_ok, truD_b, boolD_b, intD_i, tupR0, tupR1, tupR2, tupR3, tupR4, lstR0, lstR1, lstR2, lstR3, lstR4, lstR5, lstR6, lstR7, lstR8, lstR9, negD_i, slA3_l, slA3_t, tupleD_l, tupleD_t, listD_l, listD_t, revD_t, addE_ii, subD_ii, leD_ii, ltD_ii, geD_ii, gtI_ii, eqD_ii, neD_ii, isi_tup_tup, isi_tup_list, isi_tup_none, isi_tup_int, isi_tup_bool, isi_tup_str, isi_tup_dict, isi_int_int, isi_int_bool, isi_int_none, isi_int_str, isi_int_list, isi_int_tup, isi_int_dict, isi_bool_int, isi_bool_bool, isi_bool_none, isi_bool_str, isi_bool_list, isi_bool_tup, isi_bool_dict, lenD_t, lenD_l, seqD_l, seqD_t, List.getElem?_cons_zero, List.getElem?_cons_succ, List.set_cons_zero, List.set_cons_succ, ↓reduceIte, Bool.false_eq_true, Bool.not_true, Bool.not_false, a1, a2, a3, a4, a5]
      rfl
    rw [e, filt_true, hks, List.map_map]
    unfold rangeL
    rw [List.map_map]
    congr 1
    refine List.map_congr_left fun i mi => ?_
    show kedD (ds.getD (2 + (0 + (i : Int)).toNat) 0 % 97, P.getD (0 + (i : Int)).toNat (0, 0)) = kedD (ds.getD (2 + i) 0 % 97, P.getD i (0, 0))
    rw [show (0 + (i : Int)).toNat = i by omega]
  obtain ⟨ks', kperm, ksort⟩ := sort_ked ks
  -- how many
  obtain ⟨m, hm⟩ : ∃ m, m = (if decide (ds.getD 1 0 % 5 = 0) = true ∧ decide ((P.length : Int) ≤ me) = true then (P.length : Int) else ds.getD 1 0 % ((if (P.length : Int) < me then (P.length : Int) else me) + 1)) := ⟨_, rfl⟩
  have mp : 0 < (if (P.length : Int) < me then (P.length : Int) else me) + 1 := by split <;> omega
  have m0 : 0 ≤ m := by
    rw [hm]
    split
    · omega
    · exact Int.emod_nonneg _ (by omega)
  have mme : m ≤ me := by
    rw [hm]
    split
    · rename_i q
      exact of_decide_eq_true q.2
    · have := Int.emod_lt_of_pos (ds.getD 1 0) mp
      have : (if (P.length : Int) < me then (P.length : Int) else me) ≤ me := by split <;> omega
      omega
  obtain ⟨qs, hqs⟩ : ∃ qs, qs = (ks'.take m.toNat).map (·.2) := ⟨_, rfl⟩
  have qsub : qs.Sublist (ks'.map (·.2)) := by
    rw [hqs]
    exact (List.take_sublist _ _).map _
  have kp : (ks'.map (·.2)).Perm P := ksP ▸ kperm.map _
  have qn : qs.Nodup := qsub.nodup (kp.symm.nodup pn)
  have qin : ∀ p ∈ qs, p ∈ P := fun p mp => kp.subset (qsub.subset mp)
  have comp2 : ∀ r12 r13 : Sl, ∀ kd : PyData, compL (gT (gsC (gN 12) (gsC (gN 13) gsN))) wYes (datE 13) (wipeE [12, 13] [.dat S, .dat (.int k), .dat (.int mv), .dat (.int me), .dat (.list (ds.map .int)), .dat (.int v), .own (P.map edgeD), x, y, .dat kd, .dat (.int m), .un, r12, r13]) ((ks'.take m.toNat).map kedD) = .ok (qs.map edgeD) := by
    intro r12 r13 kd
    have e : compL (gT (gsC (gN 12) (gsC (gN 13) gsN))) wYes (datE 13) (wipeE [12, 13] [.dat S, .dat (.int k), .dat (.int mv), .dat (.int me), .dat (.list (ds.map .int)), .dat (.int v), .own (P.map edgeD), x, y, .dat kd, .dat (.int m), .un, r12, r13]) ((ks'.take m.toNat).map kedD)
      = .ok ((((ks'.take m.toNat).map kedD).filter fun _ => true).map fun d => match d with
        | .tuple [_, e] => e
        | _ => .none) := by
      refine compL_eq _ fun z mz => ?_
      obtain ⟨q, _, rfl⟩ := List.mem_map.mp mz
      exact ⟨[.dat S, .dat (.int k), .dat (.int mv), .dat (.int me), .dat (.list (ds.map .int)), .dat (.int v), .own (P.map edgeD), x, y, .dat kd, .dat (.int m), .un, .dat (.int q.1), .dat (edgeD q.2)], rfl, rfl, fun _ => rfl⟩
    rw [e, filt_true, List.map_map, hqs, List.map_map]
    rfl
  have ss := sort_edges qs
  refine ⟨v, isort eLt qs, by omega, ?_, ⟨v1, v7, fun p mp => pin p (qin p ((isort_perm qs).subset mp)), chn_of_pw (isort_strict qn), ?_⟩, ?_⟩
  · rw [(isort_perm qs).length_eq, hqs, List.length_map, List.length_take]
    omega
  · rw [(isort_perm qs).length_eq, hqs, List.length_map, List.length_take]
    omega
  · have d0 : ixD (.list (ds.map .int)) (.int 0) = .ok (.int (ds.getD 0 0)) := ix_ints (by decide) (by omega)
    have d1 : ixD (.list (ds.map .int)) (.int 1) = .ok (.int (ds.getD 1 0)) := ix_ints (by decide) (by omega)
    have md : ∀ z : Int, modD (.int z) (.int mv) = .ok (.int (z % mv)) := fun z => modD_ii (by omega)
    have md2 : ∀ z : Int, modD (.int z) (.int ((if (P.length : Int) < me then (P.length : Int) else me) + 1)) = .ok (.int (z % ((if (P.length : Int) < me then (P.length : Int) else me) + 1))) := fun z => modD_ii mp
    have md5 : ∀ z : Int, modD (.int z) (.int 5) = .ok (.int (z % 5)) := fun z => modD_ii (by decide)
    have rv : rng1 [.int v] = .ok (rangeL 0 v.toNat) := rng_n (by omega) (by omega)
    have rP : rng1 [.int (P.length : Int)] = .ok (rangeL 0 P.length) := by
      rw [rng_n (by omega) (by omega), Int.toNat_natCast]
    have mn : min2D (.int me) (.int (P.length : Int)) = .ok (.int (if (P.length : Int) < me then (P.length : Int) else me)) := rfl
    have l0 : lstR [] = .ok (.list []) := rfl
    have lenP : lenD (.list (P.map edgeD)) = .ok (.int (P.length : Int)) := by
      show R.ok (PyData.int ((P.map edgeD).length : Int)) = _
      rw [List.length_map]
    have ct : slA3 (.list (ks'.map kedD)) none (some m) = .ok (.list ((ks'.take m.toNat).map kedD)) := by
      show R.ok (PyData.list (cutL (ks'.map kedD) none (some m))) = _
      rw [cut_to _ _ m0, List.map_take]
    have tp : ∀ es : List PyData, tupleD (.list es) = .ok (.tuple es) := fun _ => rfl
    have t2 : ∀ p q : PyData, tupR [p, q] = .ok (.tuple [p, q]) := fun p q => tupR_ok (show 2 ≤ sizeLine by decide)
    by_cases hA : ds.getD 1 0 % 5 = 0
    · by_cases hB : (P.length : Int) ≤ me
      · rw [if_pos ⟨decide_eq_true hA, decide_eq_true hB⟩] at hm
        subst hm
        simp only [f_law_graph, sSeq_ap, sIf_ap, sRet_ap, sExpr_ap, sSet_ap, sSetO_ap, sFor_ap, sFz_ap, sFzb_ap, sAsg_ap, sSetItem_ap, sAugItem_ap, sAug_ap, sRaise_ap, sNil_ap, sBad_ap, mutO_ap, cA_ap, cNot_ap, cAnd_ap, cOr_ap, cIf_ap, cTup_ap, cLst_ap, pNone_ap, pSome_ap, wAnd_ap, wOr_ap, wNot_ap, wTru_ap, wCmp_ap, wYes_ap, iA_ap, iS_ap, aNil_ap, aCons_ap, kR_ap, b2_ap, b3_ap, c1_ap, chainD_ap, lcF_ap, datE_ap, datB_ap, ownAt_ap, endO_rt, endO_nx, endO_exc, endO_bad, bn_ok, bn_exc, bn_bad, to_ok, to_exc, to_bad, sq_nx, sq_rt, sq_bk, sq_ct, sq_exc, sq_bad, andR_ok, orR_ok, notR_ok, andV_ok, orV_ok, notV_ok, ifV_ok, truD_b, boolD_b, intD_i, tupR0, tupR1, tupR2, tupR3, tupR4, lstR0, lstR1, lstR2, lstR3, lstR4, lstR5, lstR6, lstR7, lstR8, lstR9, negD_i, slA3_l, slA3_t, tupleD_l, tupleD_t, listD_l, listD_t, revD_t, addE_ii, subD_ii, leD_ii, ltD_ii, geD_ii, gtI_ii, eqD_ii, neD_ii, isi_tup_tup, isi_tup_list, isi_tup_none, isi_tup_int, isi_tup_bool, isi_tup_str, isi_tup_dict, isi_int_int, isi_int_bool, isi_int_none, isi_int_str, isi_int_list, isi_int_tup, isi_int_dict, isi_bool_int, isi_bool_bool, isi_bool_none, isi_bool_str, isi_bool_list, isi_bool_tup, isi_bool_dict, lenD_t, lenD_l, seqD_l, seqD_t, List.getElem?_cons_zero, List.getElem?_cons_succ, List.set_cons_zero, List.set_cons_succ, ↓reduceIte, Bool.false_eq_true, Bool.not_true, Bool.not_false, er, d0, d1, md, md2, md5, ← hv, l0, ownO_l, rv, lp, lenP, rP, comp1, fz9, mn, hA, hB, decide_true, ksort, ct, comp2, ss, tp, t2]
        rfl
      · rw [if_neg (fun q => hB (of_decide_eq_true q.2))] at hm
        subst hm
        simp only [f_law_graph, sSeq_ap, sIf_ap, sRet_ap, sExpr_ap, sSet_ap, sSetO_ap, sFor_ap, sFz_ap, sFzb_ap, sAsg_ap, sSetItem_ap, sAugItem_ap, sAug_ap, sRaise_ap, sNil_ap, sBad_ap, mutO_ap, cA_ap, cNot_ap, cAnd_ap, cOr_ap, cIf_ap, cTup_ap, cLst_ap, pNone_ap, pSome_ap, wAnd_ap, wOr_ap, wNot_ap, wTru_ap, wCmp_ap, wYes_ap, iA_ap, iS_ap, aNil_ap, aCons_ap, kR_ap, b2_ap, b3_ap, c1_ap, chainD_ap, lcF_ap, datE_ap, datB_ap, ownAt_ap, endO_rt, endO_nx, endO_exc, endO_bad, bn_ok, bn_exc, bn_bad, to_ok, to_exc, to_bad, sq_nx, sq_rt, sq_bk, sq_ct, sq_exc, sq_bad, andR_ok, orR_ok, notR_ok, andV_ok, orV_ok, notV_ok, ifV_ok, truD_b, boolD_b, intD_i, tupR0, tupR1, tupR2, tupR3, tupR4, lstR0, lstR1, lstR2, lstR3, lstR4, lstR5, lstR6, lstR7, lstR8, lstR9, negD_i, slA3_l, slA3_t, tupleD_l, tupleD_t, listD_l, listD_t, revD_t, addE_ii, subD_ii, leD_ii, ltD_ii, geD_ii, gtI_ii, eqD_ii, neD_ii, isi_tup_tup, isi_tup_list, isi_tup_none, isi_tup_int, isi_tup_bool, isi_tup_str, isi_tup_dict, isi_int_int, isi_int_bool, isi_int_none, isi_int_str, isi_int_list, isi_int_tup, isi_int_dict, isi_bool_int, isi_bool_bool, isi_bool_none, isi_bool_str, isi_bool_list, isi_bool_tup, isi_bool_dict, lenD_t, lenD_l, seqD_l, seqD_t, List.getElem?_cons_zero, List.getElem?_cons_succ, List.set_cons_zero, List.set_cons_succ, ↓reduceIte, Bool.false_eq_true, Bool.not_true, Bool.not_false, er, d0, d1, md, md2, md5, ← hv, l0, ownO_l, rv, lp, lenP, rP, comp1, fz9, mn, hA, hB, decide_true, decide_false, ksort, ct, comp2, ss, tp, t2]
        rfl
    · rw [if_neg (fun q => hA (of_decide_eq_true q.1))] at hm
      subst hm
      simp only [f_law_graph, sSeq_ap, sIf_ap, sRet_ap, sExpr_ap, sSet_ap, sSetO_ap, sFor_ap, sFz_ap, sFzb_ap, sAsg_ap, sSetItem_ap, sAugItem_ap, sAug_ap, sRaise_ap, sNil_ap, sBad_ap, mutO_ap, cA_ap, cNot_ap, cAnd_ap, cOr_ap, cIf_ap, cTup_ap, cLst_ap, pNone_ap, pSome_ap, wAnd_ap, wOr_ap, wNot_ap, wTru_ap, wCmp_ap, wYes_ap, iA_ap, iS_ap, aNil_ap, aCons_ap, kR_ap, b2_ap, b3_ap, c1_ap, chainD_ap, lcF_ap, datE_ap, datB_ap, ownAt_ap, endO_rt, endO_nx, endO_exc, endO_bad, bn_ok, bn_exc, bn_bad, to_ok, to_exc, to_bad, sq_nx, sq_rt, sq_bk, sq_ct, sq_exc, sq_bad, andR_ok, orR_ok, notR_ok, andV_ok, orV_ok, notV_ok, ifV_ok, truD_b, boolD_b, intD_i, tupR0, tupR1, tupR2, tupR3, tupR4, lstR0, lstR1, lstR2, lstR3, lstR4, lstR5, lstR6, lstR7, lstR8, lstR9, negD_i, slA3_l, slA3_t, tupleD_l, tupleD_t, listD_l, listD_t, revD_t, addE_ii, subD_ii, leD_ii, ltD_ii, geD_ii, gtI_ii, eqD_ii, neD_ii, isi_tup_tup, isi_tup_list, isi_tup_none, isi_tup_int, isi_tup_bool, isi_tup_str, isi_tup_dict, isi_int_int, isi_int_bool, isi_int_none, isi_int_str, isi_int_list, isi_int_tup, isi_int_dict, isi_bool_int, isi_bool_bool, isi_bool_none, isi_bool_str, isi_bool_list, isi_bool_tup, isi_bool_dict, lenD_t, lenD_l, seqD_l, seqD_t, List.getElem?_cons_zero, List.getElem?_cons_succ, List.set_cons_zero, List.set_cons_succ, ↓reduceIte, Bool.false_eq_true, Bool.not_true, Bool.not_false, er, d0, d1, md, md2, md5, ← hv, l0, ownO_l, rv, lp, lenP, rP, comp1, fz9, mn, hA, decide_false, ksort, ct, comp2, ss, tp, t2]
      rfl
end Com
namespace DL
open PySem L2
theorem sTry_exc {n : Nat} {cs : List Str} {sub : Str → Str → Bool} {cl : List (Str × (Str → Str))} {fb : En → O} {r r' : En} {c z : Str} (h : fb r = .exc c none r') (hc : c ∈ cs) (hn : n ≤ r'.length) (hp : pick sub c cl = some z) : sTry n cs sub cl fb r = .rt (.str z) := by
  unfold sTry
  rw [h]
  show (if c ∈ cs ∧ n ≤ r'.length then (match pick sub c cl with
    | some z => O.rt (.str z)
    | none => .exc c none r') else .bad) = _
  rw [if_pos ⟨hc, hn⟩, hp]
theorem sTry_rt {n : Nat} {cs : List Str} {sub : Str → Str → Bool} {cl : List (Str × (Str → Str))} {fb : En → O} {r : En} {d : PyData} (h : fb r = .rt d) : sTry n cs sub cl fb r = .rt d := by
  unfold sTry
  rw [h]
theorem ix_ex {xs : List PyData} {i : Int} (h : 0 ≤ i) (hl : i < (xs.length : Int)) : ∃ d, d ∈ xs ∧ ixD (.list xs) (.int i) = .ok d := by
  have hn : i.toNat < xs.length := by omega
  exact ⟨xs[i.toNat], List.getElem_mem hn, Com.ix_l h (List.getElem?_eq_getElem hn)⟩
end DL
namespace Com
open PySem L2 DL
theorem check_graph_eq (d : PyData) : m_check_graph [d] = if isG d = true then .ok .none else .exc "InvalidGraph" none := by
  rw [r_check_graph]
  cases h : isG d with
  | true => simp only [f_check_graph, sSeq_ap, sIf_ap, sRet_ap, sExpr_ap, sSet_ap, sSetO_ap, sFor_ap, sFz_ap, sFzb_ap, sAsg_ap, sSetItem_ap, sAugItem_ap, sAug_ap, sRaise_ap, sNil_ap, sBad_ap, mutO_ap, cA_ap, cNot_ap, cAnd_ap, cOr_ap, cIf_ap, cTup_ap, cLst_ap, pNone_ap, pSome_ap, wAnd_ap, wOr_ap, wNot_ap, wTru_ap, wCmp_ap, wYes_ap, iA_ap, iS_ap, aNil_ap, aCons_ap, kR_ap, b2_ap, b3_ap, c1_ap, chainD_ap, lcF_ap, datE_ap, datB_ap, ownAt_ap, endO_rt, endO_nx, endO_exc, endO_bad, bn_ok, bn_exc, bn_bad, to_ok, to_exc, to_bad, sq_nx, sq_rt, sq_bk, sq_ct, sq_exc, sq_bad, andR_ok, orR_ok, notR_ok, andV_ok, orV_ok, notV_ok, ifV_ok, truD_b, boolD_b, intD_i, tupR0, tupR1, tupR2, tupR3, tupR4, lstR0, lstR1, lstR2, lstR3, lstR4, lstR5, lstR6, lstR7, lstR8, lstR9, negD_i, slA3_l, slA3_t, tupleD_l, tupleD_t, listD_l, listD_t, revD_t, addE_ii, subD_ii, leD_ii, ltD_ii, geD_ii, gtI_ii, eqD_ii, neD_ii, isi_tup_tup, isi_tup_list, isi_tup_none, isi_tup_int, isi_tup_bool, isi_tup_str, isi_tup_dict, isi_int_int, isi_int_bool, isi_int_none, isi_int_str, isi_int_list, isi_int_tup, isi_int_dict, isi_bool_int, isi_bool_bool, isi_bool_none, isi_bool_str, isi_bool_list, isi_bool_tup, isi_bool_dict, lenD_t, lenD_l, seqD_l, seqD_t, List.getElem?_cons_zero, List.getElem?_cons_succ, List.set_cons_zero, List.set_cons_succ, ↓reduceIte, Bool.false_eq_true, Bool.not_true, Bool.not_false, is_graph_eq, h]
  | false => simp only [f_check_graph, sSeq_ap, sIf_ap, sRet_ap, sExpr_ap, sSet_ap, sSetO_ap, sFor_ap, sFz_ap, sFzb_ap, sAsg_ap, sSetItem_ap, sAugItem_ap, sAug_ap, sRaise_ap, sNil_ap, sBad_ap, mutO_ap, cA_ap, cNot_ap, cAnd_ap, cOr_ap, cIf_ap, cTup_ap, cLst_ap, pNone_ap, pSome_ap, wAnd_ap, wOr_ap, wNot_ap, wTru_ap, wCmp_ap, wYes_ap, iA_ap, iS_ap, aNil_ap, aCons_ap, kR_ap, b2_ap, b3_ap, c1_ap, chainD_ap, lcF_ap, datE_ap, datB_ap, ownAt_ap, endO_rt, endO_nx, endO_exc, endO_bad, bn_ok, bn_exc, bn_bad, to_ok, to_exc, to_bad, sq_nx, sq_rt, sq_bk, sq_ct, sq_exc, sq_bad, andR_ok, orR_ok, notR_ok, andV_ok, orV_ok, notV_ok, ifV_ok, truD_b, boolD_b, intD_i, tupR0, tupR1, tupR2, tupR3, tupR4, lstR0, lstR1, lstR2, lstR3, lstR4, lstR5, lstR6, lstR7, lstR8, lstR9, negD_i, slA3_l, slA3_t, tupleD_l, tupleD_t, listD_l, listD_t, revD_t, addE_ii, subD_ii, leD_ii, ltD_ii, geD_ii, gtI_ii, eqD_ii, neD_ii, isi_tup_tup, isi_tup_list, isi_tup_none, isi_tup_int, isi_tup_bool, isi_tup_str, isi_tup_dict, isi_int_int, isi_int_bool, isi_int_none, isi_int_str, isi_int_list, isi_int_tup, isi_int_dict, isi_bool_int, isi_bool_bool, isi_bool_none, isi_bool_str, isi_bool_list, isi_bool_tup, isi_bool_dict, lenD_t, lenD_l, seqD_l, seqD_t, List.getElem?_cons_zero, List.getElem?_cons_succ, List.set_cons_zero, List.set_cons_succ, ↓reduceIte, Bool.false_eq_true, Bool.not_true, Bool.not_false, is_graph_eq, h]
theorem check_graph_bad {d : PyData} (h : isG d = false) : m_check_graph [d] = .exc "InvalidGraph" none := by
  rw [check_graph_eq, h]
  rfl
theorem check_wishes_bad {d e : PyData} (h : isG d = false) : m_check_wishes [d, e] = .exc "InvalidGraph" none := by
  rw [r_check_wishes]
  simp only [f_check_wishes, sSeq_ap, sIf_ap, sRet_ap, sExpr_ap, sSet_ap, sSetO_ap, sFor_ap, sFz_ap, sFzb_ap, sAsg_ap, sSetItem_ap, sAugItem_ap, sAug_ap, sRaise_ap, sNil_ap, sBad_ap, mutO_ap, cA_ap, cNot_ap, cAnd_ap, cOr_ap, cIf_ap, cTup_ap, cLst_ap, pNone_ap, pSome_ap, wAnd_ap, wOr_ap, wNot_ap, wTru_ap, wCmp_ap, wYes_ap, iA_ap, iS_ap, aNil_ap, aCons_ap, kR_ap, b2_ap, b3_ap, c1_ap, chainD_ap, lcF_ap, datE_ap, datB_ap, ownAt_ap, endO_rt, endO_nx, endO_exc, endO_bad, bn_ok, bn_exc, bn_bad, to_ok, to_exc, to_bad, sq_nx, sq_rt, sq_bk, sq_ct, sq_exc, sq_bad, andR_ok, orR_ok, notR_ok, andV_ok, orV_ok, notV_ok, ifV_ok, truD_b, boolD_b, intD_i, tupR0, tupR1, tupR2, tupR3, tupR4, lstR0, lstR1, lstR2, lstR3, lstR4, lstR5, lstR6, lstR7, lstR8, lstR9, negD_i, slA3_l, slA3_t, tupleD_l, tupleD_t, listD_l, listD_t, revD_t, addE_ii, subD_ii, leD_ii, ltD_ii, geD_ii, gtI_ii, eqD_ii, neD_ii, isi_tup_tup, isi_tup_list, isi_tup_none, isi_tup_int, isi_tup_bool, isi_tup_str, isi_tup_dict, isi_int_int, isi_int_bool, isi_int_none, isi_int_str, isi_int_list, isi_int_tup, isi_int_dict, isi_bool_int, isi_bool_bool, isi_bool_none, isi_bool_str, isi_bool_list, isi_bool_tup, isi_bool_dict, lenD_t, lenD_l, seqD_l, seqD_t, List.getElem?_cons_zero, List.getElem?_cons_succ, List.set_cons_zero, List.set_cons_succ, ↓reduceIte, Bool.false_eq_true, Bool.not_true, Bool.not_false, check_graph_bad h]
end Com
namespace DL
open PySem L2
/-! ### equality of plain data -/
mutual
def plD : PyData → Bool
  | .none => true
  | .int _ => true
  | .str _ => true
  | .list xs => plA xs
  | .tuple xs => plA xs
  | _ => false
def plA : List PyData → Bool
  | [] => true
  | x :: xs => plD x && plA xs
end
mutual
theorem eqv_pl : ∀ (d e : PyData), plD d = true → plD e = true → (PyData.eqv d e = true ↔ d = e)
  | .none, e, h1, h2 => by cases e <;> simp_all [PyData.eqv, plD]
  | .int i, e, h1, h2 => by cases e <;> simp_all [PyData.eqv, plD]
  | .str i, e, h1, h2 => by cases e <;> simp_all [PyData.eqv, plD]
  | .list xs, e, h1, h2 => by
    cases e with
    | list ys =>
      simp only [PyData.eqv, PyData.list.injEq]
      exact eqv_plA xs ys (by simpa [plD] using h1) (by simpa [plD] using h2)
    | _ => simp_all [PyData.eqv, plD]
  | .tuple xs, e, h1, h2 => by
    cases e with
    | tuple ys =>
      simp only [PyData.eqv, PyData.tuple.injEq]
      exact eqv_plA xs ys (by simpa [plD] using h1) (by simpa [plD] using h2)
    | _ => simp_all [PyData.eqv, plD]
  | .bool _, _, h1, _ => by simp [plD] at h1
  | .dict _, _, h1, _ => by simp [plD] at h1
theorem eqv_plA : ∀ (d e : List PyData), plA d = true → plA e = true → (PyData.eqvAll d e = true ↔ d = e)
  | [], [], _, _ => by simp [PyData.eqvAll]
  | [], y :: ys, _, _ => by simp [PyData.eqvAll]
  | x :: xs, [], _, _ => by simp [PyData.eqvAll]
  | x :: xs, y :: ys, h1, h2 => by
    have a1 : plD x = true ∧ plA xs = true := by simpa [plA] using h1
    have a2 : plD y = true ∧ plA ys = true := by simpa [plA] using h2
    simp only [PyData.eqvAll, Bool.and_eq_true, List.cons.injEq]
    rw [eqv_pl x y a1.1 a2.1, eqv_plA xs ys a1.2 a2.2]
end
/-- flat enough and plain enough to be compared -/
def layD (d : PyData) : Bool := d.canLay0 && decide (d.depth ≤ 60)
theorem eqD_pl {d e : PyData} (h1 : plD d = true) (h2 : plD e = true) (l1 : layD d = true) (l2 : e.canLay0 = true) : ∃ b, eqD d e = .ok (.bool b) ∧ (b = true ↔ d = e) := by
  have l1' : d.canLay0 = true ∧ d.depth ≤ 60 := by simpa [layD] using l1
  refine ⟨PyData.eqv d e, ?_, eqv_pl d e h1 h2⟩
  unfold eqD
  rw [if_pos]
  unfold laidE
  simp [l1'.1, l2]
  omega
theorem neD_pl {d e : PyData} (h1 : plD d = true) (h2 : plD e = true) (l1 : layD d = true) (l2 : e.canLay0 = true) : ∃ b, neD d e = .ok (.bool b) ∧ (b = false ↔ d = e) := by
  have l1' : d.canLay0 = true ∧ d.depth ≤ 60 := by simpa [layD] using l1
  refine ⟨!PyData.eqv d e, ?_, ?_⟩
  · unfold neD
    rw [if_pos]
    unfold laidE
    simp [l1'.1, l2]
    omega
  · rw [← eqv_pl d e h1 h2]
    simp
/-! ### lists of whole numbers -/
theorem plA_ints : ∀ ns : List Int, plA (ns.map .int) = true
  | [] => by simp [plA]
  | n :: r => by simp [plA, plD, plA_ints r]
theorem lay_ints : ∀ ns : List Int, PyData.canLayAll0 (ns.map .int) = true
  | [] => by simp [PyData.canLayAll0]
  | n :: r => by simp [PyData.canLayAll0, PyData.canLay0, lay_ints r]
theorem dep_ints : ∀ ns : List Int, PyData.depthAll (ns.map .int) ≤ 1
  | [] => by simp [PyData.depthAll]
  | n :: r => by
    have := dep_ints r
    simp [PyData.depthAll, PyData.depth]
    omega
theorem layD_tint (ns : List Int) : layD (.tuple (ns.map .int)) = true := by
  have := dep_ints ns
  simp [layD, PyData.canLay0, PyData.depth, lay_ints]
  omega
theorem layD_lint (ns : List Int) : layD (.list (ns.map .int)) = true := by
  have := dep_ints ns
  simp [layD, PyData.canLay0, PyData.depth, lay_ints]
  omega
theorem map_int_inj {as bs : List Int} : as.map PyData.int = bs.map PyData.int ↔ as = bs := by
  constructor
  · intro h
    have e : ∀ l : List Int, (l.map PyData.int).map (fun d => match d with | .int i => i | _ => 0) = l := fun l => by
      rw [List.map_map]
      conv => rhs; rw [← List.map_id l]
      rfl
    rw [← e as, ← e bs, h]
  · intro h
    rw [h]
theorem eqD_tt {as bs : List Int} : eqD (.tuple (as.map .int)) (.tuple (bs.map .int)) = .ok (.bool (decide (as = bs))) := by
  obtain ⟨b, h1, h2⟩ := eqD_pl (d := .tuple (as.map .int)) (e := .tuple (bs.map .int)) (by simp [plD, plA_ints]) (by simp [plD, plA_ints]) (layD_tint as) (by simp [PyData.canLay0, lay_ints])
  rw [h1]
  congr 2
  rw [Bool.eq_iff_iff, h2, decide_eq_true_eq, PyData.tuple.injEq, map_int_inj]
theorem eqD_ll {as bs : List Int} : eqD (.list (as.map .int)) (.list (bs.map .int)) = .ok (.bool (decide (as = bs))) := by
  obtain ⟨b, h1, h2⟩ := eqD_pl (d := .list (as.map .int)) (e := .list (bs.map .int)) (by simp [plD, plA_ints]) (by simp [plD, plA_ints]) (layD_lint as) (by simp [PyData.canLay0, lay_ints])
  rw [h1]
  congr 2
  rw [Bool.eq_iff_iff, h2, decide_eq_true_eq, PyData.list.injEq, map_int_inj]
end DL
namespace Com
open PySem L2 DL
def f_is_choice : En → O :=
  (sSeq (sIf (wOr (wNot (wTru (c1 (isiD "tuple") (datB 1)))) (wTru (lcF (iS seqD (datE 1)) (gN 2) (wNot (wTru (cA m_in_range (aCons (datE 2) (aCons (kR (.int 0)) (aCons (b2 (c1 lenD (b2 (datB 0) (kR (.int 1)) ixD)) (kR (.int 1)) subD) aNil)))))) (datE 2) [2])))
  (sRet (kR (.bool false)))
  sNil)
  (sRet (cNot (lcF (iA zip2 (aCons (datE 1) (aCons (b3 (datB 1) (pSome (kR (.int 1))) pNone slA3) aNil))) (gT (gsC (gN 2) (gsC (gN 3) gsN))) (wCmp (b2 (datB 2) (datB 3) geD)) (kR (.int 1)) [2, 3]))))
def m_is_choice : List PyData → R PyData := runF ["graph", "value", "number", "following"] f_is_choice
theorem r_is_choice {a0 a1 : PyData} : m_is_choice [a0, a1] = endO (f_is_choice [.dat a0, .dat a1, .un, .un]) := runF_eq
def f_check_choice : En → O :=
  (sIf (wNot (wTru (cA m_is_choice (aCons (datE 0) (aCons (datE 1) aNil)))))
  (sRaise "InvalidChoice")
  sNil)
def m_check_choice : List PyData → R PyData := runF ["graph", "choice"] f_check_choice
theorem r_check_choice {a0 a1 : PyData} : m_check_choice [a0, a1] = endO (f_check_choice [.dat a0, .dat a1]) := runF_eq
def f_degrees_of : En → O :=
  (sSeq (sSetO 2 (b2 (cLst (aCons (kR (.int 0)) aNil)) (b2 (datB 0) (kR (.int 0)) ixD) repD))
  (sSeq (sFor (iS seqD (datE 1)) (gN 3)
  (sFor (iS seqD (b2 (b2 (datB 0) (kR (.int 1)) ixD) (datB 3) ixD)) (gN 4)
  (sAugItem (fun i j => i + j) 2 (datE 4) (1))))
  (sRet (c1 tupleD (datB 2)))))
def m_degrees_of : List PyData → R PyData := runF ["graph", "choice", "result", "number", "vertex"] f_degrees_of
theorem r_degrees_of {a0 a1 : PyData} : m_degrees_of [a0, a1] = endO (f_degrees_of [.dat a0, .dat a1, .un, .un, .un]) := runF_eq
def f_degrees : En → O :=
  (sSeq (sExpr (cA m_check_graph (aCons (datE 0) aNil)))
  (sSeq (sExpr (cA m_check_choice (aCons (datE 0) (aCons (datE 1) aNil))))
  (sRet (cA m_degrees_of (aCons (datE 0) (aCons (datE 1) aNil))))))
def m_degrees : List PyData → R PyData := runF ["graph", "choice"] f_degrees
theorem r_degrees {a0 a1 : PyData} : m_degrees [a0, a1] = endO (f_degrees [.dat a0, .dat a1]) := runF_eq
def f_is_complete : En → O :=
  (sSeq (sExpr (cA m_check_wishes (aCons (datE 0) (aCons (datE 1) aNil))))
  (sRet (cAnd (cA m_is_choice (aCons (datE 0) (aCons (datE 2) aNil))) (b2 (cA m_degrees_of (aCons (datE 0) (aCons (datE 2) aNil))) (datB 1) eqD))))
def m_is_complete : List PyData → R PyData := runF ["graph", "wishes", "value"] f_is_complete
theorem r_is_complete {a0 a1 a2 : PyData} : m_is_complete [a0, a1, a2] = endO (f_is_complete [.dat a0, .dat a1, .dat a2]) := runF_eq
def f_law_degrees : En → O :=
  (sSeq (sSetO 2 (b2 (cLst (aCons (kR (.int 0)) aNil)) (b2 (datB 0) (kR (.int 0)) ixD) repD))
  (sSeq (sFor (iS seqD (datE 1)) (gN 3)
  (sSeq (sAsg (b2 (b2 (datB 0) (kR (.int 1)) ixD) (datB 3) ixD) (gT (gsC (gN 4) (gsC (gN 5) gsN))))
  (sSeq (sSetItem 2 (b2 (b2 (datB 2) (datB 4) ixD) (kR (.int 1)) addE) (datE 4))
  (sSetItem 2 (b2 (b2 (datB 2) (datB 5) ixD) (kR (.int 1)) addE) (datE 5)))))
  (sRet (c1 tupleD (datB 2)))))
def m_law_degrees : List PyData → R PyData := runF ["graph", "choice", "found", "number", "one", "other"] f_law_degrees
theorem r_law_degrees {a0 a1 : PyData} : m_law_degrees [a0, a1] = endO (f_law_degrees [.dat a0, .dat a1, .un, .un, .un, .un]) := runF_eq
def f_law_wishes : En → O :=
  (sSeq (sSet 3 (cA m_law_row (aCons (datE 0) (aCons (datE 1) aNil))))
  (sSeq (sFzb 4 (sSetO 4 (lcF (iA rng1 (aCons (c1 lenD (b2 (datB 2) (kR (.int 1)) ixD)) aNil)) (gN 6) (wCmp (b2 (b2 (b2 (datB 3) (datB 6) ixD) (kR (.int 2)) modD) (kR (.int 0)) eqD)) (datE 6) [6])))
  (sSeq (sSetO 5 (c1 listD (cA m_law_degrees (aCons (datE 2) (aCons (datE 4) aNil)))))
  (sSeq (sIf (wCmp (b2 (b2 (b2 (datB 3) (kR (.int 20)) ixD) (kR (.int 3)) modD) (kR (.int 0)) eqD))
  (sSetItem 5 (b2 (b2 (datB 3) (kR (.int 22)) ixD) (kR (.int 4)) modD) (b2 (b2 (datB 3) (kR (.int 21)) ixD) (b2 (datB 2) (kR (.int 0)) ixD) modD))
  sNil)
  (sSeq (sIf (wCmp (b2 (b2 (b2 (datB 3) (kR (.int 20)) ixD) (kR (.int 6)) modD) (kR (.int 1)) eqD))
  (sSetO 5 (b2 (cLst (aCons (b2 (b2 (datB 3) (kR (.int 23)) ixD) (kR (.int 3)) modD) aNil)) (b2 (datB 2) (kR (.int 0)) ixD) repD))
  sNil)
  (sRet (c1 tupleD (datB 5))))))))
def m_law_wishes : List PyData → R PyData := runF ["script", "at", "graph", "draws", "choice", "found", "number"] f_law_wishes
theorem r_law_wishes {a0 a1 a2 : PyData} : m_law_wishes [a0, a1, a2] = endO (f_law_wishes [.dat a0, .dat a1, .dat a2, .un, .un, .un, .un]) := runF_eq
end Com
namespace Com
open PySem L2 DL
/-! ### choices -/
/-- one after another, each greater -/
def incB : List Int → Bool
  | a :: b :: r => decide (a < b) && incB (b :: r)
  | _ => true
def unI : PyData → Int
  | .int i => i
  | _ => 0
def isC (n : Nat) : PyData → Bool
  | .tuple xs => xs.all (inR 0 ((n : Int) - 1)) && incB (xs.map unI)
  | _ => false
theorem ints_of {lo hi : Int} : ∀ {xs : List PyData}, xs.all (inR lo hi) = true → ∃ ns : List Int, xs = ns.map .int ∧ ∀ k ∈ ns, lo ≤ k ∧ k ≤ hi
  | [], _ => ⟨[], rfl, fun _ m => nomatch m⟩
  | x :: r, h => by
    rw [List.all_cons, Bool.and_eq_true] at h
    obtain ⟨v, rfl, hv⟩ := inR_int h.1
    obtain ⟨ns, rfl, hs⟩ := ints_of h.2
    refine ⟨v :: ns, rfl, fun q m => ?_⟩
    rcases List.mem_cons.mp m with rfl | m
    · exact hv
    · exact hs q m
theorem map_unI (ns : List Int) : (ns.map PyData.int).map unI = ns := by
  rw [List.map_map]
  conv => rhs; rw [← List.map_id ns]
  rfl
def pairBadI : PyData → Bool
  | .tuple [a, b] => decide (unI b ≤ unI a)
  | _ => false
theorem zip_inc : ∀ ns : List Int, ((zipD (ns.map .int) ((ns.map .int).drop 1)).filter pairBadI).isEmpty = incB ns
  | [] => rfl
  | [p] => rfl
  | p :: q :: r => by
    have ih := zip_inc (q :: r)
    show (((.tuple [.int p, .int q] :: zipD ((q :: r).map PyData.int) (((q :: r).map PyData.int).drop 1)).filter pairBadI)).isEmpty = (decide (p < q) && incB (q :: r))
    rw [List.filter_cons]
    show (if decide (q ≤ p) = true then _ else _ : List PyData).isEmpty = _
    by_cases h : p < q
    · rw [if_neg (by simp; exact h), ih, decide_eq_true h]
      rfl
    · rw [if_pos (by simp; omega), decide_eq_false h]
      rfl
theorem filter_inR (lo hi : Int) (es : List PyData) : (es.filter fun e => !inR lo hi e).isEmpty = es.all (inR lo hi) := by
  induction es with
  | nil => rfl
  | cons e r ih =>
    rw [List.filter_cons, List.all_cons]
    cases h : inR lo hi e with
    | true => simpa [h] using ih
    | false => simp
theorem gix0 {v : Int} {ps : List (Int × Int)} : ixD (graphD v ps) (.int 0) = .ok (.int v) := ix_t0
theorem gix1 {v : Int} {ps : List (Int × Int)} : ixD (graphD v ps) (.int 1) = .ok (.tuple (ps.map edgeD)) := ix_t1
theorem glen {ps : List (Int × Int)} : lenD (.tuple (ps.map edgeD)) = .ok (.int (ps.length : Int)) := by
  show R.ok (PyData.int ((ps.map edgeD).length : Int)) = _
  rw [List.length_map]
theorem is_choice_eq (v : Int) (ps : List (Int × Int)) (d : PyData) : m_is_choice [graphD v ps, d] = .ok (.bool (isC ps.length d)) := by
  rw [r_is_choice]
  generalize hG : graphD v ps = G
  have g1 : ixD G (.int 1) = .ok (.tuple (ps.map edgeD)) := hG ▸ gix1
  cases d with
  | tuple xs =>
    have c1 : compL (gN 2) (wNot (wTru (cA m_in_range (aCons (datE 2) (aCons (kR (.int 0)) (aCons (b2 (c1 lenD (b2 (datB 0) (kR (.int 1)) ixD)) (kR (.int 1)) subD) aNil)))))) (datE 2) (wipeE [2] [.dat G, .dat (.tuple xs), .un, .un]) xs = .ok ((xs.filter fun e => !inR 0 ((ps.length : Int) - 1) e).map id) := by
      refine compL_eq xs fun x _ => ⟨[.dat G, .dat (.tuple xs), .dat x, .un], rfl, ?_, fun _ => ?_⟩
      · simp only [sSeq_ap, sIf_ap, sRet_ap, sExpr_ap, sSet_ap, sSetO_ap, sFor_ap, sFz_ap, sFzb_ap, sAsg_ap, sSetItem_ap, sAugItem_ap, sAug_ap, sRaise_ap, sNil_ap, sBad_ap, mutO_ap, cA_ap, cNot_ap, cAnd_ap, cOr_ap, cIf_ap, cTup_ap, cLst_ap, pNone_ap, pSome_ap, wAnd_ap, wOr_ap, wNot_ap, wTru_ap, wCmp_ap, wYes_ap, iA_ap, iS_ap, aNil_ap, aCons_ap, kR_ap, b2_ap, b3_ap, c1_ap, chainD_ap, lcF_ap, datE_ap, datB_ap, ownAt_ap, endO_rt, endO_nx, endO_exc, endO_bad, bn_ok, bn_exc, bn_bad, to_ok, to_exc, to_bad, sq_nx, sq_rt, sq_bk, sq_ct, sq_exc, sq_bad, andR_ok, orR_ok, notR_ok, andV_ok, orV_ok, notV_ok, ifV_ok, truD_b, boolD_b, intD_i, tupR0, tupR1, tupR2, tupR3, tupR4, lstR0, lstR1, lstR2, lstR3, lstR4, lstR5, lstR6, lstR7, lstR8, lstR9, negD_i, slA3_l, slA3_t, tupleD_l, tupleD_t, listD_l, listD_t, revD_t, addE_ii, subD_ii, leD_ii, ltD_ii, geD_ii, gtI_ii, eqD_ii, neD_ii, isi_tup_tup, isi_tup_list, isi_tup_none, isi_tup_int, isi_tup_bool, isi_tup_str, isi_tup_dict, isi_int_int, isi_int_bool, isi_int_none, isi_int_str, isi_int_list, isi_int_tup, isi_int_dict, isi_bool_int, isi_bool_bool, isi_bool_none, isi_bool_str, isi_bool_list, isi_bool_tup, isi_bool_dict, lenD_t, lenD_l, seqD_l, seqD_t, List.getElem?_cons_zero, List.getElem?_cons_succ, List.set_cons_zero, List.set_cons_succ, ↓reduceIte, Bool.false_eq_true, Bool.not_true, Bool.not_false, g1, List.length_map, in_range_eq]
      · simp only [sSeq_ap, sIf_ap, sRet_ap, sExpr_ap, sSet_ap, sSetO_ap, sFor_ap, sFz_ap, sFzb_ap, sAsg_ap, sSetItem_ap, sAugItem_ap, sAug_ap, sRaise_ap, sNil_ap, sBad_ap, mutO_ap, cA_ap, cNot_ap, cAnd_ap, cOr_ap, cIf_ap, cTup_ap, cLst_ap, pNone_ap, pSome_ap, wAnd_ap, wOr_ap, wNot_ap, wTru_ap, wCmp_ap, wYes_ap, iA_ap, iS_ap, aNil_ap, aCons_ap, kR_ap, b2_ap, b3_ap, c1_ap, chainD_ap, lcF_ap, datE_ap, datB_ap, ownAt_ap, endO_rt, endO_nx, endO_exc, endO_bad, bn_ok, bn_exc, bn_bad, to_ok, to_exc, to_bad, sq_nx, sq_rt, sq_bk, sq_ct, sq_exc, sq_bad, andR_ok, orR_ok, notR_ok, andV_ok, orV_ok, notV_ok, ifV_ok, truD_b, boolD_b, intD_i, tupR0, tupR1, tupR2, tupR3, tupR4, lstR0, lstR1, lstR2, lstR3, lstR4, lstR5, lstR6, lstR7, lstR8, lstR9, negD_i, slA3_l, slA3_t, tupleD_l, tupleD_t, listD_l, listD_t, revD_t, addE_ii, subD_ii, leD_ii, ltD_ii, geD_ii, gtI_ii, eqD_ii, neD_ii, isi_tup_tup, isi_tup_list, isi_tup_none, isi_tup_int, isi_tup_bool, isi_tup_str, isi_tup_dict, isi_int_int, isi_int_bool, isi_int_none, isi_int_str, isi_int_list, isi_int_tup, isi_int_dict, isi_bool_int, isi_bool_bool, isi_bool_none, isi_bool_str, isi_bool_list, isi_bool_tup, isi_bool_dict, lenD_t, lenD_l, seqD_l, seqD_t, List.getElem?_cons_zero, List.getElem?_cons_succ, List.set_cons_zero, List.set_cons_succ, ↓reduceIte, Bool.false_eq_true, Bool.not_true, Bool.not_false]
        rfl
    have c1' := filter_inR 0 ((ps.length : Int) - 1) xs
    cases ha : xs.all (inR 0 ((ps.length : Int) - 1)) with
    | false =>
      have e : isC ps.length (.tuple xs) = false := by
        show (xs.all (inR 0 ((ps.length : Int) - 1)) && incB (xs.map unI)) = false
        rw [ha]
        rfl
      rw [ha] at c1'
      simp only [f_is_choice, sSeq_ap, sIf_ap, sRet_ap, sExpr_ap, sSet_ap, sSetO_ap, sFor_ap, sFz_ap, sFzb_ap, sAsg_ap, sSetItem_ap, sAugItem_ap, sAug_ap, sRaise_ap, sNil_ap, sBad_ap, mutO_ap, cA_ap, cNot_ap, cAnd_ap, cOr_ap, cIf_ap, cTup_ap, cLst_ap, pNone_ap, pSome_ap, wAnd_ap, wOr_ap, wNot_ap, wTru_ap, wCmp_ap, wYes_ap, iA_ap, iS_ap, aNil_ap, aCons_ap, kR_ap, b2_ap, b3_ap, c1_ap, chainD_ap, lcF_ap, datE_ap, datB_ap, ownAt_ap, endO_rt, endO_nx, endO_exc, endO_bad, bn_ok, bn_exc, bn_bad, to_ok, to_exc, to_bad, sq_nx, sq_rt, sq_bk, sq_ct, sq_exc, sq_bad, andR_ok, orR_ok, notR_ok, andV_ok, orV_ok, notV_ok, ifV_ok, truD_b, boolD_b, intD_i, tupR0, tupR1, tupR2, tupR3, tupR4, lstR0, lstR1, lstR2, lstR3, lstR4, lstR5, lstR6, lstR7, lstR8, lstR9, negD_i, slA3_l, slA3_t, tupleD_l, tupleD_t, listD_l, listD_t, revD_t, addE_ii, subD_ii, leD_ii, ltD_ii, geD_ii, gtI_ii, eqD_ii, neD_ii, isi_tup_tup, isi_tup_list, isi_tup_none, isi_tup_int, isi_tup_bool, isi_tup_str, isi_tup_dict, isi_int_int, isi_int_bool, isi_int_none, isi_int_str, isi_int_list, isi_int_tup, isi_int_dict, isi_bool_int, isi_bool_bool, isi_bool_none, isi_bool_str, isi_bool_list, isi_bool_tup, isi_bool_dict, lenD_t, lenD_l, seqD_l, seqD_t, List.getElem?_cons_zero, List.getElem?_cons_succ, List.set_cons_zero, List.set_cons_succ, ↓reduceIte, Bool.false_eq_true, Bool.not_true, Bool.not_false, c1, truD_l, List.map_id, c1', e]
    | true =>
      obtain ⟨ns, he, hns⟩ := ints_of ha
      have c2 : compL (gT (gsC (gN 2) (gsC (gN 3) gsN))) (wCmp (b2 (datB 2) (datB 3) geD)) (kR (.int 1)) (wipeE [2, 3] [.dat G, .dat (.tuple xs), .un, .un]) (zipD xs (xs.drop 1)) = .ok (((zipD xs (xs.drop 1)).filter pairBadI).map fun _ => .int 1) := by
        refine compL_eq _ fun x m => ?_
        obtain ⟨a, b, ma, mb, rfl⟩ := zipD_mem m
        rw [he] at ma mb
        obtain ⟨p, _, rfl⟩ := List.mem_map.mp ma
        obtain ⟨q, _, rfl⟩ := List.mem_map.mp (List.mem_of_mem_drop mb)
        refine ⟨[.dat G, .dat (.tuple xs), .dat (.int p), .dat (.int q)], rfl, ?_, fun _ => rfl⟩
        simp only [sSeq_ap, sIf_ap, sRet_ap, sExpr_ap, sSet_ap, sSetO_ap, sFor_ap, sFz_ap, sFzb_ap, sAsg_ap, sSetItem_ap, sAugItem_ap, sAug_ap, sRaise_ap, sNil_ap, sBad_ap, mutO_ap, cA_ap, cNot_ap, cAnd_ap, cOr_ap, cIf_ap, cTup_ap, cLst_ap, pNone_ap, pSome_ap, wAnd_ap, wOr_ap, wNot_ap, wTru_ap, wCmp_ap, wYes_ap, iA_ap, iS_ap, aNil_ap, aCons_ap, kR_ap, b2_ap, b3_ap, c1_ap, chainD_ap, lcF_ap, datE_ap, datB_ap, ownAt_ap, endO_rt, endO_nx, endO_exc, endO_bad, bn_ok, bn_exc, bn_bad, to_ok, to_exc, to_bad, sq_nx, sq_rt, sq_bk, sq_ct, sq_exc, sq_bad, andR_ok, orR_ok, notR_ok, andV_ok, orV_ok, notV_ok, ifV_ok, truD_b, boolD_b, intD_i, tupR0, tupR1, tupR2, tupR3, tupR4, lstR0, lstR1, lstR2, lstR3, lstR4, lstR5, lstR6, lstR7, lstR8, lstR9, negD_i, slA3_l, slA3_t, tupleD_l, tupleD_t, listD_l, listD_t, revD_t, addE_ii, subD_ii, leD_ii, ltD_ii, geD_ii, gtI_ii, eqD_ii, neD_ii, isi_tup_tup, isi_tup_list, isi_tup_none, isi_tup_int, isi_tup_bool, isi_tup_str, isi_tup_dict, isi_int_int, isi_int_bool, isi_int_none, isi_int_str, isi_int_list, isi_int_tup, isi_int_dict, isi_bool_int, isi_bool_bool, isi_bool_none, isi_bool_str, isi_bool_list, isi_bool_tup, isi_bool_dict, lenD_t, lenD_l, seqD_l, seqD_t, List.getElem?_cons_zero, List.getElem?_cons_succ, List.set_cons_zero, List.set_cons_succ, ↓reduceIte, Bool.false_eq_true, Bool.not_true, Bool.not_false]
        rfl
      have c2' : ((zipD xs (xs.drop 1)).filter pairBadI).isEmpty = incB (xs.map unI) := by
        rw [he, map_unI]
        exact zip_inc ns
      have e : isC ps.length (.tuple xs) = incB (xs.map unI) := by
        show (xs.all (inR 0 ((ps.length : Int) - 1)) && incB (xs.map unI)) = _
        rw [ha]
        rfl
      rw [ha] at c1'
      have cf : cutL xs (some 1) none = xs.drop 1 := cut_from xs 1
      have c3 : (((zipD xs (xs.drop 1)).filter pairBadI).map fun _ => PyData.int 1).isEmpty = incB (xs.map unI) := by
        rw [List.isEmpty_map]
        exact c2'
      have z2 : zip2 [.tuple xs, .tuple (xs.drop 1)] = .ok (zipD xs (xs.drop 1)) := rfl
      simp only [f_is_choice, sSeq_ap, sIf_ap, sRet_ap, sExpr_ap, sSet_ap, sSetO_ap, sFor_ap, sFz_ap, sFzb_ap, sAsg_ap, sSetItem_ap, sAugItem_ap, sAug_ap, sRaise_ap, sNil_ap, sBad_ap, mutO_ap, cA_ap, cNot_ap, cAnd_ap, cOr_ap, cIf_ap, cTup_ap, cLst_ap, pNone_ap, pSome_ap, wAnd_ap, wOr_ap, wNot_ap, wTru_ap, wCmp_ap, wYes_ap, iA_ap, iS_ap, aNil_ap, aCons_ap, kR_ap, b2_ap, b3_ap, c1_ap, chainD_ap, lcF_ap, datE_ap, datB_ap, ownAt_ap, endO_rt, endO_nx, endO_exc, endO_bad, bn_ok, bn_exc, bn_bad, to_ok, to_exc, to_bad, sq_nx, sq_rt, sq_bk, sq_ct, sq_exc, sq_bad, andR_ok, orR_ok, notR_ok, andV_ok, orV_ok, notV_ok, ifV_ok, truD_b, boolD_b, intD_i, tupR0, tupR1, tupR2, tupR3, tupR4, lstR0, lstR1, lstR2, lstR3, lstR4, lstR5, lstR6, lstR7, lstR8, lstR9, negD_i, slA3_l, slA3_t, tupleD_l, tupleD_t, listD_l, listD_t, revD_t, addE_ii, subD_ii, leD_ii, ltD_ii, geD_ii, gtI_ii, eqD_ii, neD_ii, isi_tup_tup, isi_tup_list, isi_tup_none, isi_tup_int, isi_tup_bool, isi_tup_str, isi_tup_dict, isi_int_int, isi_int_bool, isi_int_none, isi_int_str, isi_int_list, isi_int_tup, isi_int_dict, isi_bool_int, isi_bool_bool, isi_bool_none, isi_bool_str, isi_bool_list, isi_bool_tup, isi_bool_dict, lenD_t, lenD_l, seqD_l, seqD_t, List.getElem?_cons_zero, List.getElem?_cons_succ, List.set_cons_zero, List.set_cons_succ, ↓reduceIte, Bool.false_eq_true, Bool.not_true, Bool.not_false, c1, truD_l, List.map_id, c1', e, cf, z2, c2, c3, Bool.not_not]
  | _ => simp only [f_is_choice, sSeq_ap, sIf_ap, sRet_ap, sExpr_ap, sSet_ap, sSetO_ap, sFor_ap, sFz_ap, sFzb_ap, sAsg_ap, sSetItem_ap, sAugItem_ap, sAug_ap, sRaise_ap, sNil_ap, sBad_ap, mutO_ap, cA_ap, cNot_ap, cAnd_ap, cOr_ap, cIf_ap, cTup_ap, cLst_ap, pNone_ap, pSome_ap, wAnd_ap, wOr_ap, wNot_ap, wTru_ap, wCmp_ap, wYes_ap, iA_ap, iS_ap, aNil_ap, aCons_ap, kR_ap, b2_ap, b3_ap, c1_ap, chainD_ap, lcF_ap, datE_ap, datB_ap, ownAt_ap, endO_rt, endO_nx, endO_exc, endO_bad, bn_ok, bn_exc, bn_bad, to_ok, to_exc, to_bad, sq_nx, sq_rt, sq_bk, sq_ct, sq_exc, sq_bad, andR_ok, orR_ok, notR_ok, andV_ok, orV_ok, notV_ok, ifV_ok, truD_b, boolD_b, intD_i, tupR0, tupR1, tupR2, tupR3, tupR4, lstR0, lstR1, lstR2, lstR3, lstR4, lstR5, lstR6, lstR7, lstR8, lstR9, negD_i, slA3_l, slA3_t, tupleD_l, tupleD_t, listD_l, listD_t, revD_t, addE_ii, subD_ii, leD_ii, ltD_ii, geD_ii, gtI_ii, eqD_ii, neD_ii, isi_tup_tup, isi_tup_list, isi_tup_none, isi_tup_int, isi_tup_bool, isi_tup_str, isi_tup_dict, isi_int_int, isi_int_bool, isi_int_none, isi_int_str, isi_int_list, isi_int_tup, isi_int_dict, isi_bool_int, isi_bool_bool, isi_bool_none, isi_bool_str, isi_bool_list, isi_bool_tup, isi_bool_dict, lenD_t, lenD_l, seqD_l, seqD_t, List.getElem?_cons_zero, List.getElem?_cons_succ, List.set_cons_zero, List.set_cons_succ, ↓reduceIte, Bool.false_eq_true, Bool.not_true, Bool.not_false, isC]
theorem check_choice_eq (v : Int) (ps : List (Int × Int)) (d : PyData) : m_check_choice [graphD v ps, d] = if isC ps.length d = true then .ok .none else .exc "InvalidChoice" none := by
  rw [r_check_choice]
  cases h : isC ps.length d with
  | true => simp only [f_check_choice, sSeq_ap, sIf_ap, sRet_ap, sExpr_ap, sSet_ap, sSetO_ap, sFor_ap, sFz_ap, sFzb_ap, sAsg_ap, sSetItem_ap, sAugItem_ap, sAug_ap, sRaise_ap, sNil_ap, sBad_ap, mutO_ap, cA_ap, cNot_ap, cAnd_ap, cOr_ap, cIf_ap, cTup_ap, cLst_ap, pNone_ap, pSome_ap, wAnd_ap, wOr_ap, wNot_ap, wTru_ap, wCmp_ap, wYes_ap, iA_ap, iS_ap, aNil_ap, aCons_ap, kR_ap, b2_ap, b3_ap, c1_ap, chainD_ap, lcF_ap, datE_ap, datB_ap, ownAt_ap, endO_rt, endO_nx, endO_exc, endO_bad, bn_ok, bn_exc, bn_bad, to_ok, to_exc, to_bad, sq_nx, sq_rt, sq_bk, sq_ct, sq_exc, sq_bad, andR_ok, orR_ok, notR_ok, andV_ok, orV_ok, notV_ok, ifV_ok, truD_b, boolD_b, intD_i, tupR0, tupR1, tupR2, tupR3, tupR4, lstR0, lstR1, lstR2, lstR3, lstR4, lstR5, lstR6, lstR7, lstR8, lstR9, negD_i, slA3_l, slA3_t, tupleD_l, tupleD_t, listD_l, listD_t, revD_t, addE_ii, subD_ii, leD_ii, ltD_ii, geD_ii, gtI_ii, eqD_ii, neD_ii, isi_tup_tup, isi_tup_list, isi_tup_none, isi_tup_int, isi_tup_bool, isi_tup_str, isi_tup_dict, isi_int_int, isi_int_bool, isi_int_none, isi_int_str, isi_int_list, isi_int_tup, isi_int_dict, isi_bool_int, isi_bool_bool, isi_bool_none, isi_bool_str, isi_bool_list, isi_bool_tup, isi_bool_dict, lenD_t, lenD_l, seqD_l, seqD_t, List.getElem?_cons_zero, List.getElem?_cons_succ, List.set_cons_zero, List.set_cons_succ, ↓reduceIte, Bool.false_eq_true, Bool.not_true, Bool.not_false, is_choice_eq, h]
  | false => simp only [f_check_choice, sSeq_ap, sIf_ap, sRet_ap, sExpr_ap, sSet_ap, sSetO_ap, sFor_ap, sFz_ap, sFzb_ap, sAsg_ap, sSetItem_ap, sAugItem_ap, sAug_ap, sRaise_ap, sNil_ap, sBad_ap, mutO_ap, cA_ap, cNot_ap, cAnd_ap, cOr_ap, cIf_ap, cTup_ap, cLst_ap, pNone_ap, pSome_ap, wAnd_ap, wOr_ap, wNot_ap, wTru_ap, wCmp_ap, wYes_ap, iA_ap, iS_ap, aNil_ap, aCons_ap, kR_ap, b2_ap, b3_ap, c1_ap, chainD_ap, lcF_ap, datE_ap, datB_ap, ownAt_ap, endO_rt, endO_nx, endO_exc, endO_bad, bn_ok, bn_exc, bn_bad, to_ok, to_exc, to_bad, sq_nx, sq_rt, sq_bk, sq_ct, sq_exc, sq_bad, andR_ok, orR_ok, notR_ok, andV_ok, orV_ok, notV_ok, ifV_ok, truD_b, boolD_b, intD_i, tupR0, tupR1, tupR2, tupR3, tupR4, lstR0, lstR1, lstR2, lstR3, lstR4, lstR5, lstR6, lstR7, lstR8, lstR9, negD_i, slA3_l, slA3_t, tupleD_l, tupleD_t, listD_l, listD_t, revD_t, addE_ii, subD_ii, leD_ii, ltD_ii, geD_ii, gtI_ii, eqD_ii, neD_ii, isi_tup_tup, isi_tup_list, isi_tup_none, isi_tup_int, isi_tup_bool, isi_tup_str, isi_tup_dict, isi_int_int, isi_int_bool, isi_int_none, isi_int_str, isi_int_list, isi_int_tup, isi_int_dict, isi_bool_int, isi_bool_bool, isi_bool_none, isi_bool_str, isi_bool_list, isi_bool_tup, isi_bool_dict, lenD_t, lenD_l, seqD_l, seqD_t, List.getElem?_cons_zero, List.getElem?_cons_succ, List.set_cons_zero, List.set_cons_succ, ↓reduceIte, Bool.false_eq_true, Bool.not_true, Bool.not_false, is_choice_eq, h]
/-! ### degrees -/
def bump (res : List Int) (i : Int) : List Int := res.set i.toNat (res.getD i.toNat 0 + 1)
theorem bump_len (res : List Int) (i : Int) : (bump res i).length = res.length := List.length_set
def degS (ps : List (Int × Int)) (res : List Int) (c : Int) : List Int := bump (bump res (ps.getD c.toNat (0, 0)).1) (ps.getD c.toNat (0, 0)).2
def degL (v : Int) (ps : List (Int × Int)) (cs : List Int) : List Int := cs.foldl (degS ps) (List.replicate v.toNat 0)
theorem degS_len (ps : List (Int × Int)) (res : List Int) (c : Int) : (degS ps res c).length = res.length := by
  unfold degS
  rw [bump_len, bump_len]
theorem foldS_len (ps : List (Int × Int)) : ∀ (cs : List Int) (res : List Int), (cs.foldl (degS ps) res).length = res.length
  | [], _ => rfl
  | c :: cs, res => by
    rw [List.foldl_cons, foldS_len ps cs, degS_len]
theorem degL_len (v : Int) (ps : List (Int × Int)) (cs : List Int) : (degL v ps cs).length = v.toNat := by
  unfold degL
  rw [foldS_len, List.length_replicate]
theorem ixN_ok {n : Nat} {k : Int} (h0 : 0 ≤ k) (h : k < (n : Int)) : ixN n k = some k.toNat := by
  unfold ixN
  rw [if_pos h0, if_pos h]
theorem augC_ok {i : Nat} {r : En} {res : List Int} {k : Int} (h0 : 0 ≤ k) (h : k < (res.length : Int)) : augC (fun i j => i + j) i r (res.map .int) (.int k) (.int 1) = .nx (r.set i (.own ((bump res k).map .int))) := by
  unfold augC
  have e1 : ixN (res.map PyData.int).length k = some k.toNat := ixN_ok h0 (by rw [List.length_map]; exact h)
  have e2 := getD_ints (ds := res) (i := k.toNat) (by omega)
  simp only [e1, e2]
  unfold bump
  rw [List.map_set]
theorem setC_ok {i : Nat} {r : En} {res : List Int} {k x : Int} (h0 : 0 ≤ k) (h : k < (res.length : Int)) : setC i r (res.map .int) (.int x) (.int k) = .nx (r.set i (.own ((res.set k.toNat x).map .int))) := by
  unfold setC
  have e1 : ixN (res.map PyData.int).length k = some k.toNat := ixN_ok h0 (by rw [List.length_map]; exact h)
  simp only [e1]
  rw [List.map_set]
theorem rep_zero {v : Int} (h1 : 1 ≤ v) (h7 : v ≤ 7) (x : Int) : repD (.list [.int x]) (.int v) = .ok (.list ((List.replicate v.toNat x).map .int)) := by
  rcases v_cases h1 h7 with rfl | rfl | rfl | rfl | rfl | rfl | rfl <;> kernel_rfl
theorem getD_mem {ps : List (Int × Int)} {c : Int} (h0 : 0 ≤ c) (h : c < (ps.length : Int)) : ps.getD c.toNat (0, 0) ∈ ps ∧ ps[c.toNat]? = some (ps.getD c.toNat (0, 0)) := by
  have hl : c.toNat < ps.length := by omega
  have e : ps[c.toNat]? = some ps[c.toNat] := List.getElem?_eq_getElem hl
  rw [List.getD_eq_getElem?_getD, e]
  exact ⟨List.getElem_mem hl, rfl⟩
theorem foldl_map_int {α : Type} (f : α → Int → α) : ∀ (cs : List Int) (a : α), (cs.map PyData.int).foldl (fun a x => f a (unI x)) a = cs.foldl f a
  | [], _ => rfl
  | c :: cs, a => by
    rw [List.map_cons, List.foldl_cons, List.foldl_cons, foldl_map_int f cs]
    rfl
theorem degrees_of_eq {v : Int} {ps : List (Int × Int)} (gk : Gok v ps) {cs : List Int} (hc : ∀ c ∈ cs, 0 ≤ c ∧ c < (ps.length : Int)) : m_degrees_of [graphD v ps, .tuple (cs.map .int)] = .ok (.tuple ((degL v ps cs).map .int)) := by
  rw [r_degrees_of]
  generalize hG : graphD v ps = G
  have g0 : ixD G (.int 0) = .ok (.int v) := hG ▸ gix0
  have g1 : ixD G (.int 1) = .ok (.tuple (ps.map edgeD)) := hG ▸ gix1
  obtain ⟨r', h1, a, b, rfl, _⟩ := forL_rel (ft := gN 3) (fb := sFor (iS seqD (b2 (b2 (datB 0) (kR (.int 1)) ixD) (datB 3) ixD)) (gN 4) (sAugItem (fun i j => i + j) 2 (datE 4) (1)))
    (fun (res : List Int) r => ∃ a b, r = [.dat G, .dat (.tuple (cs.map .int)), .own (res.map .int), a, b] ∧ res.length = v.toNat) (fun res x => degS ps res (unI x)) (cs.map .int) (List.replicate v.toNat 0)
    [.dat G, .dat (.tuple (cs.map .int)), .own ((List.replicate v.toNat 0).map .int), .un, .un] (by
      rintro res r x mx ⟨a, b, rfl, hl⟩
      obtain ⟨c, mc, rfl⟩ := List.mem_map.mp mx
      obtain ⟨c0, c1⟩ := hc c mc
      obtain ⟨pm, pe⟩ := getD_mem c0 c1
      generalize hp : ps.getD c.toNat (0, 0) = p at pm pe
      obtain ⟨p0, p1, p2⟩ := gk.ed p pm
      have hv := gk.lo
      refine ⟨[.dat G, .dat (.tuple (cs.map .int)), .own (res.map .int), .dat (.int c), b], rfl, [.dat G, .dat (.tuple (cs.map .int)), .own ((bump (bump res p.1) p.2).map .int), .dat (.int c), .dat (.int p.2)], ?_, .dat (.int c), .dat (.int p.2), ?_, ?_⟩
      · have ie : ixD (.tuple (ps.map edgeD)) (.int c) = .ok (edgeD p) := ix_t c0 (by rw [List.getElem?_map, pe]; rfl)
        have sq : seqD (edgeD p) = .ok [.int p.1, .int p.2] := rfl
        have s1 : sAugItem (fun i j => i + j) 2 (datE 4) (1) [.dat G, .dat (.tuple (cs.map .int)), .own (res.map .int), .dat (.int c), .dat (.int p.1)] = .nx [.dat G, .dat (.tuple (cs.map .int)), .own ((bump res p.1).map .int), .dat (.int c), .dat (.int p.1)] := by
          simp only [sSeq_ap, sIf_ap, sRet_ap, sExpr_ap, sSet_ap, sSetO_ap, sFor_ap, sFz_ap, sFzb_ap, sAsg_ap, sSetItem_ap, sAugItem_ap, sAug_ap, sRaise_ap, sNil_ap, sBad_ap, mutO_ap, cA_ap, cNot_ap, cAnd_ap, cOr_ap, cIf_ap, cTup_ap, cLst_ap, pNone_ap, pSome_ap, wAnd_ap, wOr_ap, wNot_ap, wTru_ap, wCmp_ap, wYes_ap, iA_ap, iS_ap, aNil_ap, aCons_ap, kR_ap, b2_ap, b3_ap, c1_ap, chainD_ap, lcF_ap, datE_ap, datB_ap, ownAt_ap, endO_rt, endO_nx, endO_exc, endO_bad, bn_ok, bn_exc, bn_bad, to_ok, to_exc, to_bad, sq_nx, sq_rt, sq_bk, sq_ct, sq_exc, sq_bad, andR_ok, orR_ok, notR_ok, andV_ok, orV_ok, notV_ok, ifV_ok, truD_b, boolD_b, intD_i, tupR0, tupR1, tupR2, tupR3, tupR4, lstR0, lstR1, lstR2, lstR3, lstR4, lstR5, lstR6, lstR7, lstR8, lstR9, negD_i, slA3_l, slA3_t, tupleD_l, tupleD_t, listD_l, listD_t, revD_t, addE_ii, subD_ii, leD_ii, ltD_ii, geD_ii, gtI_ii, eqD_ii, neD_ii, isi_tup_tup, isi_tup_list, isi_tup_none, isi_tup_int, isi_tup_bool, isi_tup_str, isi_tup_dict, isi_int_int, isi_int_bool, isi_int_none, isi_int_str, isi_int_list, isi_int_tup, isi_int_dict, isi_bool_int, isi_bool_bool, isi_bool_none, isi_bool_str, isi_bool_list, isi_bool_tup, isi_bool_dict, lenD_t, lenD_l, seqD_l, seqD_t, List.getElem?_cons_zero, List.getElem?_cons_succ, List.set_cons_zero, List.set_cons_succ, ↓reduceIte, Bool.false_eq_true, Bool.not_true, Bool.not_false, augC_ok p0 (show p.1 < (res.length : Int) by omega)]
        have s2 : sAugItem (fun i j => i + j) 2 (datE 4) (1) [.dat G, .dat (.tuple (cs.map .int)), .own ((bump res p.1).map .int), .dat (.int c), .dat (.int p.2)] = .nx [.dat G, .dat (.tuple (cs.map .int)), .own ((bump (bump res p.1) p.2).map .int), .dat (.int c), .dat (.int p.2)] := by
          simp only [sSeq_ap, sIf_ap, sRet_ap, sExpr_ap, sSet_ap, sSetO_ap, sFor_ap, sFz_ap, sFzb_ap, sAsg_ap, sSetItem_ap, sAugItem_ap, sAug_ap, sRaise_ap, sNil_ap, sBad_ap, mutO_ap, cA_ap, cNot_ap, cAnd_ap, cOr_ap, cIf_ap, cTup_ap, cLst_ap, pNone_ap, pSome_ap, wAnd_ap, wOr_ap, wNot_ap, wTru_ap, wCmp_ap, wYes_ap, iA_ap, iS_ap, aNil_ap, aCons_ap, kR_ap, b2_ap, b3_ap, c1_ap, chainD_ap, lcF_ap, datE_ap, datB_ap, ownAt_ap, endO_rt, endO_nx, endO_exc, endO_bad, bn_ok, bn_exc, bn_bad, to_ok, to_exc, to_bad, sq_nx, sq_rt, sq_bk, sq_ct, sq_exc, sq_bad, andR_ok, orR_ok, notR_ok, andV_ok, orV_ok, notV_ok, ifV_ok, truD_b, boolD_b, intD_i, tupR0, tupR1, tupR2, tupR3, tupR4, lstR0, lstR1, lstR2, lstR3, lstR4, lstR5, lstR6, lstR7, lstR8, lstR9, negD_i, slA3_l, slA3_t, tupleD_l, tupleD_t, listD_l, listD_t, revD_t, addE_ii, subD_ii, leD_ii, ltD_ii, geD_ii, gtI_ii, eqD_ii, neD_ii, isi_tup_tup, isi_tup_list, isi_tup_none, isi_tup_int, isi_tup_bool, isi_tup_str, isi_tup_dict, isi_int_int, isi_int_bool, isi_int_none, isi_int_str, isi_int_list, isi_int_tup, isi_int_dict, isi_bool_int, isi_bool_bool, isi_bool_none, isi_bool_str, isi_bool_list, isi_bool_tup, isi_bool_dict, lenD_t, lenD_l, seqD_l, seqD_t, List.getElem?_cons_zero, List.getElem?_cons_succ, List.set_cons_zero, List.set_cons_succ, ↓reduceIte, Bool.false_eq_true, Bool.not_true, Bool.not_false, augC_ok (show 0 ≤ p.2 by omega) (show p.2 < ((bump res p.1).length : Int) by rw [bump_len]; omega)]
        have lp : forL (gN 4) (sAugItem (fun i j => i + j) 2 (datE 4) (1)) [.int p.1, .int p.2] [.dat G, .dat (.tuple (cs.map .int)), .own (res.map .int), .dat (.int c), b] = .nx [.dat G, .dat (.tuple (cs.map .int)), .own ((bump (bump res p.1) p.2).map .int), .dat (.int c), .dat (.int p.2)] := by
          show (match sAugItem (fun i j => i + j) 2 (datE 4) (1) [.dat G, .dat (.tuple (cs.map .int)), .own (res.map .int), .dat (.int c), .dat (.int p.1)] with
            | .nx r2 => forL (gN 4) (sAugItem (fun i j => i + j) 2 (datE 4) (1)) [.int p.2] r2
            | .ct r2 => forL (gN 4) (sAugItem (fun i j => i + j) 2 (datE 4) (1)) [.int p.2] r2
            | .bk r2 => .nx r2
            | .rt d => .rt d
            | .exc c fs r2 => .exc c fs r2
            | .bad => .bad) = _
          rw [s1]
          show (match sAugItem (fun i j => i + j) 2 (datE 4) (1) [.dat G, .dat (.tuple (cs.map .int)), .own ((bump res p.1).map .int), .dat (.int c), .dat (.int p.2)] with
            | .nx r2 => forL (gN 4) (sAugItem (fun i j => i + j) 2 (datE 4) (1)) [] r2
            | .ct r2 => forL (gN 4) (sAugItem (fun i j => i + j) 2 (datE 4) (1)) [] r2
            | .bk r2 => .nx r2
            | .rt d => .rt d
            | .exc c fs r2 => .exc c fs r2
            | .bad => .bad) = _
          rw [s2]
          rfl
        simp only [sSeq_ap, sIf_ap, sRet_ap, sExpr_ap, sSet_ap, sSetO_ap, sFor_ap, sFz_ap, sFzb_ap, sAsg_ap, sSetItem_ap, sAugItem_ap, sAug_ap, sRaise_ap, sNil_ap, sBad_ap, mutO_ap, cA_ap, cNot_ap, cAnd_ap, cOr_ap, cIf_ap, cTup_ap, cLst_ap, pNone_ap, pSome_ap, wAnd_ap, wOr_ap, wNot_ap, wTru_ap, wCmp_ap, wYes_ap, iA_ap, iS_ap, aNil_ap, aCons_ap, kR_ap, b2_ap, b3_ap, c1_ap, chainD_ap, lcF_ap, datE_ap, datB_ap, ownAt_ap, endO_rt, endO_nx, endO_exc, endO_bad, bn_ok, bn_exc, bn_bad, to_ok, to_exc, to_bad, sq_nx, sq_rt, sq_bk, sq_ct, sq_exc, sq_bad, andR_ok, orR_ok, notR_ok, andV_ok, orV_ok, notV_ok, ifV_ok, truD_b, boolD_b, intD_i, tupR0, tupR1, tupR2, tupR3, tupR4, lstR0, lstR1, lstR2, lstR3, lstR4, lstR5, lstR6, lstR7, lstR8, lstR9, negD_i, slA3_l, slA3_t, tupleD_l, tupleD_t, listD_l, listD_t, revD_t, addE_ii, subD_ii, leD_ii, ltD_ii, geD_ii, gtI_ii, eqD_ii, neD_ii, isi_tup_tup, isi_tup_list, isi_tup_none, isi_tup_int, isi_tup_bool, isi_tup_str, isi_tup_dict, isi_int_int, isi_int_bool, isi_int_none, isi_int_str, isi_int_list, isi_int_tup, isi_int_dict, isi_bool_int, isi_bool_bool, isi_bool_none, isi_bool_str, isi_bool_list, isi_bool_tup, isi_bool_dict, lenD_t, lenD_l, seqD_l, seqD_t, List.getElem?_cons_zero, List.getElem?_cons_succ, List.set_cons_zero, List.set_cons_succ, ↓reduceIte, Bool.false_eq_true, Bool.not_true, Bool.not_false, g1, ie, sq, lp]
      · show _ = ([.dat G, .dat (.tuple (cs.map .int)), .own ((degS ps res c).map .int), .dat (.int c), .dat (.int p.2)] : En)
        unfold degS
        rw [hp]
      · show (degS ps res c).length = _
        rw [degS_len, hl]) ⟨_, _, rfl, List.length_replicate⟩
  rw [foldl_map_int] at h1
  have rz := rep_zero gk.lo gk.hi 0
  simp only [f_degrees_of, sSeq_ap, sIf_ap, sRet_ap, sExpr_ap, sSet_ap, sSetO_ap, sFor_ap, sFz_ap, sFzb_ap, sAsg_ap, sSetItem_ap, sAugItem_ap, sAug_ap, sRaise_ap, sNil_ap, sBad_ap, mutO_ap, cA_ap, cNot_ap, cAnd_ap, cOr_ap, cIf_ap, cTup_ap, cLst_ap, pNone_ap, pSome_ap, wAnd_ap, wOr_ap, wNot_ap, wTru_ap, wCmp_ap, wYes_ap, iA_ap, iS_ap, aNil_ap, aCons_ap, kR_ap, b2_ap, b3_ap, c1_ap, chainD_ap, lcF_ap, datE_ap, datB_ap, ownAt_ap, endO_rt, endO_nx, endO_exc, endO_bad, bn_ok, bn_exc, bn_bad, to_ok, to_exc, to_bad, sq_nx, sq_rt, sq_bk, sq_ct, sq_exc, sq_bad, andR_ok, orR_ok, notR_ok, andV_ok, orV_ok, notV_ok, ifV_ok, truD_b, boolD_b, intD_i, tupR0, tupR1, tupR2, tupR3, tupR4, lstR0, lstR1, lstR2, lstR3, lstR4, lstR5, lstR6, lstR7, lstR8, lstR9, negD_i, slA3_l, slA3_t, tupleD_l, tupleD_t, listD_l, listD_t, revD_t, addE_ii, subD_ii, leD_ii, ltD_ii, geD_ii, gtI_ii, eqD_ii, neD_ii, isi_tup_tup, isi_tup_list, isi_tup_none, isi_tup_int, isi_tup_bool, isi_tup_str, isi_tup_dict, isi_int_int, isi_int_bool, isi_int_none, isi_int_str, isi_int_list, isi_int_tup, isi_int_dict, isi_bool_int, isi_bool_bool, isi_bool_none, isi_bool_str, isi_bool_list, isi_bool_tup, isi_bool_dict, lenD_t, lenD_l, seqD_l, seqD_t, List.getElem?_cons_zero, List.getElem?_cons_succ, List.set_cons_zero, List.set_cons_succ, ↓reduceIte, Bool.false_eq_true, Bool.not_true, Bool.not_false, g0, rz, ownO_l, h1]
  rfl
/-- what may hold a choice -/
def seqI (b : Bool) (cs : List Int) : PyData := if b then .tuple (cs.map .int) else .list (cs.map .int)
theorem law_degrees_eq {v : Int} {ps : List (Int × Int)} (gk : Gok v ps) {cs : List Int} (hc : ∀ c ∈ cs, 0 ≤ c ∧ c < (ps.length : Int)) {C : PyData} (hC : seqD C = .ok (cs.map .int)) : m_law_degrees [graphD v ps, C] = .ok (.tuple ((degL v ps cs).map .int)) := by
  rw [r_law_degrees]
  generalize hG : graphD v ps = G
  have g0 : ixD G (.int 0) = .ok (.int v) := hG ▸ gix0
  have g1 : ixD G (.int 1) = .ok (.tuple (ps.map edgeD)) := hG ▸ gix1
  obtain ⟨r', h1, a, b, e, rfl, _⟩ := forL_rel (ft := gN 3) (fb := (sSeq (sAsg (b2 (b2 (datB 0) (kR (.int 1)) ixD) (datB 3) ixD) (gT (gsC (gN 4) (gsC (gN 5) gsN))))
    (sSeq (sSetItem 2 (b2 (b2 (datB 2) (datB 4) ixD) (kR (.int 1)) addE) (datE 4))
    (sSetItem 2 (b2 (b2 (datB 2) (datB 5) ixD) (kR (.int 1)) addE) (datE 5)))))
    (fun (res : List Int) r => ∃ a b e, r = [.dat G, .dat C, .own (res.map .int), a, b, e] ∧ res.length = v.toNat) (fun res x => degS ps res (unI x)) (cs.map .int) (List.replicate v.toNat 0)
    [.dat G, .dat C, .own ((List.replicate v.toNat 0).map .int), .un, .un, .un] (by
      rintro res r x mx ⟨a, b, e, rfl, hl⟩
      obtain ⟨c, mc, rfl⟩ := List.mem_map.mp mx
      obtain ⟨c0, c1⟩ := hc c mc
      obtain ⟨pm, pe⟩ := getD_mem c0 c1
      generalize hp : ps.getD c.toNat (0, 0) = p at pm pe
      obtain ⟨p0, p1, p2⟩ := gk.ed p pm
      have hv := gk.lo
      refine ⟨[.dat G, .dat C, .own (res.map .int), .dat (.int c), b, e], rfl, [.dat G, .dat C, .own ((bump (bump res p.1) p.2).map .int), .dat (.int c), .dat (.int p.1), .dat (.int p.2)], ?_, .dat (.int c), .dat (.int p.1), .dat (.int p.2), ?_, ?_⟩
      · have ie : ixD (.tuple (ps.map edgeD)) (.int c) = .ok (edgeD p) := ix_t c0 (by rw [List.getElem?_map, pe]; rfl)
        have as : ∀ r : En, asgO (gT (gsC (gN 4) (gsC (gN 5) gsN))) r (edgeD p) = .nx ((r.set 4 (.dat (.int p.1))).set 5 (.dat (.int p.2))) := fun r => rfl
        have i1 : ixD (.list (res.map .int)) (.int p.1) = .ok (.int (res.getD p.1.toNat 0)) := ix_ints p0 (by omega)
        have i2 : ixD (.list ((bump res p.1).map .int)) (.int p.2) = .ok (.int ((bump res p.1).getD p.2.toNat 0)) := ix_ints (by omega) (by rw [bump_len]; omega)
        have s1 : ∀ (r : En) (x : Int), setC 2 r (res.map .int) (.int x) (.int p.1) = .nx (r.set 2 (.own ((res.set p.1.toNat x).map .int))) := fun r x => setC_ok p0 (by omega)
        have s2 : ∀ (r : En) (x : Int), setC 2 r ((bump res p.1).map .int) (.int x) (.int p.2) = .nx (r.set 2 (.own (((bump res p.1).set p.2.toNat x).map .int))) := fun r x => setC_ok (by omega) (by rw [bump_len]; omega)
        have b1 : res.set p.1.toNat (res.getD p.1.toNat 0 + 1) = bump res p.1 := rfl
        have b2' : (bump res p.1).set p.2.toNat ((bump res p.1).getD p.2.toNat 0 + 1) = bump (bump res p.1) p.2 := rfl
        simp only [sSeq_ap, sIf_ap, sRet_ap, sExpr_ap, sSet_ap, sSetO_ap, sFor_ap, sFz_ap, sFzb_ap, sAsg_ap, sSetItem_ap, sAugItem_ap, sAug_ap, sRaise_ap, sNil_ap, sBad_ap, mutO_ap, cA_ap, cNot_ap, cAnd_ap, cOr_ap, cIf_ap, cTup_ap, cLst_ap, pNone_ap, pSome_ap, wAnd_ap, wOr_ap, wNot_ap, wTru_ap, wCmp_ap, wYes_ap, iA_ap, iS_ap, aNil_ap, aCons_ap, kR_ap, b2_ap, b3_ap, c1_ap, chainD_ap, lcF_ap, datE_ap, datB_ap, ownAt_ap, endO_rt, endO_nx, endO_exc, endO_bad, bn_ok, bn_exc, bn_bad, to_ok, to_exc, to_bad, sq_nx, sq_rt, sq_bk, sq_ct, sq_exc, sq_bad, andR_ok, orR_ok, notR_ok, andV_ok, orV_ok, notV_ok, ifV_ok, truD_b, boolD_b, intD_i, tupR0, tupR1, tupR2, tupR3, tupR4, lstR0, lstR1, lstR2, lstR3, lstR4, lstR5, lstR6, lstR7, lstR8, lstR9, negD_i, slA3_l, slA3_t, tupleD_l, tupleD_t, listD_l, listD_t, revD_t, addE_ii, subD_ii, leD_ii, ltD_ii, geD_ii, gtI_ii, eqD_ii, neD_ii, isi_tup_tup, isi_tup_list, isi_tup_none, isi_tup_int, isi_tup_bool, isi_tup_str, isi_tup_dict, isi_int_int, isi_int_bool, isi_int_none, isi_int_str, isi_int_list, isi_int_tup, isi_int_dict, isi_bool_int, isi_bool_bool, isi_bool_none, isi_bool_str, isi_bool_list, isi_bool_tup, isi_bool_dict, lenD_t, lenD_l, seqD_l, seqD_t, List.getElem?_cons_zero, List.getElem?_cons_succ, List.set_cons_zero, List.set_cons_succ, ↓reduceIte, Bool.false_eq_true, Bool.not_true, Bool.not_false, g1, ie, as, i1, s1, b1, i2, s2, b2']
      · show _ = ([.dat G, .dat C, .own ((degS ps res c).map .int), .dat (.int c), .dat (.int p.1), .dat (.int p.2)] : En)
        unfold degS
        rw [hp]
      · show (degS ps res c).length = _
        rw [degS_len, hl]) ⟨_, _, _, rfl, List.length_replicate⟩
  rw [foldl_map_int] at h1
  have rz := rep_zero gk.lo gk.hi 0
  simp only [f_law_degrees, sSeq_ap, sIf_ap, sRet_ap, sExpr_ap, sSet_ap, sSetO_ap, sFor_ap, sFz_ap, sFzb_ap, sAsg_ap, sSetItem_ap, sAugItem_ap, sAug_ap, sRaise_ap, sNil_ap, sBad_ap, mutO_ap, cA_ap, cNot_ap, cAnd_ap, cOr_ap, cIf_ap, cTup_ap, cLst_ap, pNone_ap, pSome_ap, wAnd_ap, wOr_ap, wNot_ap, wTru_ap, wCmp_ap, wYes_ap, iA_ap, iS_ap, aNil_ap, aCons_ap, kR_ap, b2_ap, b3_ap, c1_ap, chainD_ap, lcF_ap, datE_ap, datB_ap, ownAt_ap, endO_rt, endO_nx, endO_exc, endO_bad, bn_ok, bn_exc, bn_bad, to_ok, to_exc, to_bad, sq_nx, sq_rt, sq_bk, sq_ct, sq_exc, sq_bad, andR_ok, orR_ok, notR_ok, andV_ok, orV_ok, notV_ok, ifV_ok, truD_b, boolD_b, intD_i, tupR0, tupR1, tupR2, tupR3, tupR4, lstR0, lstR1, lstR2, lstR3, lstR4, lstR5, lstR6, lstR7, lstR8, lstR9, negD_i, slA3_l, slA3_t, tupleD_l, tupleD_t, listD_l, listD_t, revD_t, addE_ii, subD_ii, leD_ii, ltD_ii, geD_ii, gtI_ii, eqD_ii, neD_ii, isi_tup_tup, isi_tup_list, isi_tup_none, isi_tup_int, isi_tup_bool, isi_tup_str, isi_tup_dict, isi_int_int, isi_int_bool, isi_int_none, isi_int_str, isi_int_list, isi_int_tup, isi_int_dict, isi_bool_int, isi_bool_bool, isi_bool_none, isi_bool_str, isi_bool_list, isi_bool_tup, isi_bool_dict, lenD_t, lenD_l, seqD_l, seqD_t, List.getElem?_cons_zero, List.getElem?_cons_succ, List.set_cons_zero, List.set_cons_succ, ↓reduceIte, Bool.false_eq_true, Bool.not_true, Bool.not_false, g0, rz, ownO_l, hC, h1]
  rfl
end Com
namespace Com
open PySem L2 DL
/-! ### how large a degree may be -/
def touch (x : Nat) (p : Int × Int) : Bool := decide (p.1 = (x : Int)) || decide (p.2 = (x : Int))
theorem bump_get {res : List Int} {i : Int} {x : Nat} (h0 : 0 ≤ i) (h : i < (res.length : Int)) : (bump res i).getD x 0 = res.getD x 0 + (if i = (x : Int) then 1 else 0) := by
  unfold bump
  rw [List.getD_eq_getElem?_getD, List.getD_eq_getElem?_getD, List.getElem?_set]
  by_cases e : i = (x : Int)
  · rw [if_pos (by omega), if_pos (by omega), if_pos e, show i.toNat = x by omega, List.getD_eq_getElem?_getD]
    rfl
  · rw [if_neg (by omega), if_neg e, Int.add_zero]
    exact (List.getD_eq_getElem?_getD ..).symm
theorem foldS_get {v : Int} {ps : List (Int × Int)} (hv : 0 ≤ v) (hp : ∀ p ∈ ps, 0 ≤ p.1 ∧ p.1 < p.2 ∧ p.2 < v) (x : Nat) : ∀ (cs : List Int) (res : List Int), (∀ c ∈ cs, 0 ≤ c ∧ c < (ps.length : Int)) → res.length = v.toNat →
    (cs.foldl (degS ps) res).getD x 0 = res.getD x 0 + (((cs.map fun c => ps.getD c.toNat (0, 0)).countP (touch x) : Nat) : Int)
  | [], res, _, _ => by simp
  | c :: cs, res, hc, hl => by
    obtain ⟨c0, c1⟩ := hc c List.mem_cons_self
    obtain ⟨pm, _⟩ := getD_mem (ps := ps) c0 c1
    have ih := foldS_get hv hp x cs (degS ps res c) (fun d m => hc d (List.mem_cons_of_mem _ m)) (by rw [degS_len, hl])
    obtain ⟨p0, p1, p2⟩ := hp _ pm
    rw [List.foldl_cons, ih, List.map_cons, List.countP_cons]
    unfold degS
    rw [bump_get (by omega) (by rw [bump_len]; omega), bump_get p0 (by omega)]
    unfold touch
    simp only [Bool.or_eq_true, decide_eq_true_eq]
    split <;> split <;> split <;> omega
theorem degL_get {v : Int} {ps : List (Int × Int)} (gk : Gok v ps) {cs : List Int} (hc : ∀ c ∈ cs, 0 ≤ c ∧ c < (ps.length : Int)) (x : Nat) : (degL v ps cs).getD x 0 = (((cs.map fun c => ps.getD c.toNat (0, 0)).countP (touch x) : Nat) : Int) := by
  have hv := gk.lo
  unfold degL
  rw [foldS_get (by omega) gk.ed x cs _ hc List.length_replicate, List.getD_eq_getElem?_getD, List.getElem?_replicate]
  split <;> simp
theorem countP_le_of_nodup {α : Type} [DecidableEq α] (p : α → Bool) : ∀ {l m : List α}, l.Nodup → (∀ x ∈ l, x ∈ m) → l.countP p ≤ m.countP p
  | [], m, _, _ => Nat.zero_le _
  | a :: l, m, hn, hs => by
    obtain ⟨h1, h2⟩ := List.nodup_cons.mp hn
    have ma := hs a List.mem_cons_self
    have ih := countP_le_of_nodup p (l := l) (m := m.erase a) h2 fun x mx => by
      refine (List.mem_erase_of_ne ?_).mpr (hs x (List.mem_cons_of_mem _ mx))
      intro e
      exact h1 (e ▸ mx)
    rw [(List.perm_cons_erase ma).countP_eq, List.countP_cons, List.countP_cons]
    omega
theorem allP_all {v : Int} (h1 : 1 ≤ v) (h7 : v ≤ 7) {p : Int × Int} (h : 0 ≤ p.1 ∧ p.1 < p.2 ∧ p.2 < v) : p ∈ allP v.toNat := by
  obtain ⟨a, b⟩ := p
  obtain ⟨ha, hab, hb⟩ := h
  simp only at ha hab hb
  obtain ⟨i, rfl⟩ := Int.eq_ofNat_of_zero_le ha
  obtain ⟨j, rfl⟩ := Int.eq_ofNat_of_zero_le (show 0 ≤ b by omega)
  have key : ∀ w : Fin 8, 1 ≤ w.val → ∀ j : Fin 7, j.val < w.val → ∀ i : Fin 7, i.val < j.val → ((i.val : Int), (j.val : Int)) ∈ allP w.val := by decide
  obtain ⟨w, rfl⟩ := Int.eq_ofNat_of_zero_le (show 0 ≤ v by omega)
  exact key ⟨w, by omega⟩ (by simp; omega) ⟨j, by omega⟩ (by simp; omega) ⟨i, by omega⟩ (by simp; omega)
theorem allP_deg {v : Int} (h1 : 1 ≤ v) (h7 : v ≤ 7) (x : Nat) : (allP v.toNat).countP (touch x) ≤ 6 := by
  by_cases hx : x < 7
  · have key : ∀ w : Fin 8, ∀ x : Fin 7, (allP w.val).countP (touch x.val) ≤ 6 := by decide
    exact key ⟨v.toNat, by omega⟩ ⟨x, hx⟩
  · have : (allP v.toNat).countP (touch x) = 0 := by
      rw [List.countP_eq_zero]
      intro p m
      have := allP_in h1 h7 p m
      unfold touch
      simp
      omega
    omega
theorem chn_nodup {ps : List (Int × Int)} (h : chn ps = true) : ps.Nodup := (pw_of_chn h).imp fun {p q} e z => by
  subst z
  have := eLt_asym e
  rw [e] at this
  cases this
theorem get_inj {ps : List (Int × Int)} (hn : ps.Nodup) {a b : Int} (ha : 0 ≤ a ∧ a < (ps.length : Int)) (hb : 0 ≤ b ∧ b < (ps.length : Int)) (e : ps.getD a.toNat (0, 0) = ps.getD b.toNat (0, 0)) : a = b := by
  have h1 := (getD_mem (ps := ps) ha.1 ha.2).2
  have h2 := (getD_mem (ps := ps) hb.1 hb.2).2
  rw [e] at h1
  have := (List.getElem?_inj (i := a.toNat) (j := b.toNat) (by omega) hn).mp (h1.trans h2.symm)
  omega
theorem map_nodup {α β : Type} {f : α → β} : ∀ {l : List α}, l.Nodup → (∀ a ∈ l, ∀ b ∈ l, f a = f b → a = b) → (l.map f).Nodup
  | [], _, _ => List.nodup_nil
  | a :: l, hn, hf => by
    obtain ⟨h1, h2⟩ := List.nodup_cons.mp hn
    rw [List.map_cons, List.nodup_cons]
    refine ⟨fun m => ?_, map_nodup h2 fun x mx y my => hf x (List.mem_cons_of_mem _ mx) y (List.mem_cons_of_mem _ my)⟩
    obtain ⟨b, mb, e⟩ := List.mem_map.mp m
    have := hf b (List.mem_cons_of_mem _ mb) a List.mem_cons_self e
    exact h1 (this ▸ mb)
theorem deg_le {v : Int} {ps : List (Int × Int)} (gk : Gok v ps) {cs : List Int} (hn : cs.Nodup) (hc : ∀ c ∈ cs, 0 ≤ c ∧ c < (ps.length : Int)) : ∀ d ∈ degL v ps cs, 0 ≤ d ∧ d ≤ 6 := by
  intro d m
  obtain ⟨x, hx, rfl⟩ := List.mem_iff_getElem.mp m
  have e := degL_get gk hc x
  rw [List.getD_eq_getElem?_getD, List.getElem?_eq_getElem hx] at e
  have e2 : (degL v ps cs)[x] = (((cs.map fun c => ps.getD c.toNat (0, 0)).countP (touch x) : Nat) : Int) := e
  rw [e2]
  have nd : (cs.map fun c => ps.getD c.toNat (0, 0)).Nodup := map_nodup hn fun a ma b mb z => get_inj (chn_nodup gk.ch) (hc a ma) (hc b mb) z
  have le := countP_le_of_nodup (touch x) (m := allP v.toNat) nd fun p mp => by
    obtain ⟨c, mc, rfl⟩ := List.mem_map.mp mp
    obtain ⟨pm, _⟩ := getD_mem (ps := ps) (hc c mc).1 (hc c mc).2
    exact allP_all gk.lo gk.hi (gk.ed _ pm)
  have := allP_deg gk.lo gk.hi x
  omega
/-! ### the wishes of a script -/
theorem range_pick {n : Nat} {P : PyData → Bool} : ∃ cs : List Int, (rangeL 0 n).filter P = cs.map .int ∧ cs.Pairwise (· < ·) ∧ ∀ c ∈ cs, 0 ≤ c ∧ c < (n : Int) := by
  refine ⟨((List.range n).filter fun (i : Nat) => P (.int (0 + (i : Int)))).map fun (i : Nat) => (0 + (i : Int)), ?_, ?_, fun c m => ?_⟩
  · unfold rangeL
    rw [List.filter_map, List.map_map]
    rfl
  · rw [List.pairwise_map]
    exact (List.Pairwise.filter _ List.pairwise_lt_range).imp fun {a b} h => by omega
  · obtain ⟨i, mi, rfl⟩ := List.mem_map.mp m
    have := List.mem_range.mp (List.mem_filter.mp mi).1
    omega
theorem pw_nodup {cs : List Int} (h : cs.Pairwise (· < ·)) : cs.Nodup := h.imp fun {a b} h e => by omega
theorem wishes_ok (ns : List Int) (k : Int) (hk : 0 ≤ k) {v : Int} {ps : List (Int × Int)} (gk : Gok v ps) : ∃ ws : List Int, ws.length = v.toNat ∧ (∀ w ∈ ws, 0 ≤ w ∧ w ≤ 6) ∧ m_law_wishes [.list (ns.map .int), .int k, graphD v ps] = .ok (.tuple (ws.map .int)) := by
  rw [r_law_wishes]
  obtain ⟨ds, hd, er⟩ := row_ok ns k hk
  generalize hS : PyData.list (ns.map .int) = S at er ⊢
  have hv := gk.lo
  have pl := gk.len
  have g0 : ixD (graphD v ps) (.int 0) = .ok (.int v) := gix0
  have g1 : ixD (graphD v ps) (.int 1) = .ok (.tuple (ps.map edgeD)) := gix1
  obtain ⟨cs, hcs, hlt, hin⟩ := range_pick (n := ps.length) (P := fun d => decide (ds.getD (unI d).toNat 0 % 2 = 0))
  have deq := law_degrees_eq gk hin (C := .list (cs.map .int)) rfl
  have dle := deg_le gk (pw_nodup hlt) hin
  have dl := degL_len v ps cs
  generalize degL v ps cs = D at deq dle dl
  generalize graphD v ps = G at deq g0 g1 ⊢
  have c1 : compL (gN 6) (wCmp (b2 (b2 (b2 (datB 3) (datB 6) ixD) (kR (.int 2)) modD) (kR (.int 0)) eqD)) (datE 6) (wipeE [6] [.dat S, .dat (.int k), .dat G, .dat (.list (ds.map .int)), .un, .un, .un]) (rangeL 0 ps.length) = .ok (cs.map .int) := by
    rw [← hcs, ← List.map_id ((rangeL 0 ps.length).filter _)]
    refine compL_eq _ fun z mz => ?_
    obtain ⟨i, ei⟩ := List.mem_iff_getElem?.mp mz
    obtain ⟨hi, rfl⟩ := rangeL_get ei
    refine ⟨[.dat S, .dat (.int k), .dat G, .dat (.list (ds.map .int)), .un, .un, .dat (.int (0 + (i : Int)))], rfl, ?_, fun _ => rfl⟩
    have a1 : ixD (.list (ds.map .int)) (.int (0 + (i : Int))) = .ok (.int (ds.getD (0 + (i : Int)).toNat 0)) := ix_ints (by omega) (by omega)
    have a3 : ∀ z : Int, modD (.int z) (.int 2) = .ok (.int (z % 2)) := fun z => modD_ii (by decide)
    simp only [sSeq_ap, sIf_ap, sRet_ap, sExpr_ap, sSet_ap, sSetO_ap, sFor_ap, sFz_ap, sFzb_ap, sAsg_ap, sSetItem_ap, sAugItem_ap, sAug_ap, sRaise_ap, sNil_ap, sBad_ap, mutO_ap, cA_ap, cNot_ap, cAnd_ap, cOr_ap, cIf_ap, cTup_ap, cLst_ap, pNone_ap, pSome_ap, wAnd_ap, wOr_ap, wNot_ap, wTru_ap, wCmp_ap, wYes_ap, iA_ap, iS_ap, aNil_ap, aCons_ap, kR_ap, b2_ap, b3_ap, c1_ap, chainD_ap, lcF_ap, datE_ap, datB_ap, ownAt_ap, endO_rt, endO_nx, endO_exc, endO_bad, bn_ok, bn_exc, bn_bad, to_ok, to_exc, to_bad, sq_nx, sq_rt, sq_bk, sq_ct, sq_exc, sq_bad, andR_ok, orR_ok, notR_ok, andV_ok, orV_ok, notV_ok, ifV_ok, truD_b, boolD_b, intD_i, tupR0, tupR1, tupR2, tupR3, tupR4, lstR0, lstR1, lstR2, lstR3, lstR4, lstR5, lstR6, lstR7, lstR8, lstR9, negD_i, slA3_l, slA3_t, tupleD_l, tupleD_t, listD_l, listD_t, revD_t, addE_ii, subD_ii, leD_ii, ltD_ii, geD_ii, gtI_ii, eqD_ii, neD_ii, isi_tup_tup, isi_tup_list, isi_tup_none, isi_tup_int, isi_tup_bool, isi_tup_str, isi_tup_dict, isi_int_int, isi_int_bool, isi_int_none, isi_int_str, isi_int_list, isi_int_tup, isi_int_dict, isi_bool_int, isi_bool_bool, isi_bool_none, isi_bool_str, isi_bool_list, isi_bool_tup, isi_bool_dict, lenD_t, lenD_l, seqD_l, seqD_t, List.getElem?_cons_zero, List.getElem?_cons_succ, List.set_cons_zero, List.set_cons_succ, ↓reduceIte, Bool.false_eq_true, Bool.not_true, Bool.not_false, a1, a3]
    rfl
  have rP : rng1 [.int (ps.length : Int)] = .ok (rangeL 0 ps.length) := by
    rw [rng_n (by omega) (by omega), Int.toNat_natCast]
  have d20 : ixD (.list (ds.map .int)) (.int 20) = .ok (.int (ds.getD 20 0)) := ix_ints (by decide) (by omega)
  have d21 : ixD (.list (ds.map .int)) (.int 21) = .ok (.int (ds.getD 21 0)) := ix_ints (by decide) (by omega)
  have d22 : ixD (.list (ds.map .int)) (.int 22) = .ok (.int (ds.getD 22 0)) := ix_ints (by decide) (by omega)
  have d23 : ixD (.list (ds.map .int)) (.int 23) = .ok (.int (ds.getD 23 0)) := ix_ints (by decide) (by omega)
  have m3 : ∀ z : Int, modD (.int z) (.int 3) = .ok (.int (z % 3)) := fun z => modD_ii (by decide)
  have m4 : ∀ z : Int, modD (.int z) (.int 4) = .ok (.int (z % 4)) := fun z => modD_ii (by decide)
  have m6 : ∀ z : Int, modD (.int z) (.int 6) = .ok (.int (z % 6)) := fun z => modD_ii (by decide)
  have mv : ∀ z : Int, modD (.int z) (.int v) = .ok (.int (z % v)) := fun z => modD_ii (by omega)
  have fz4 : ∀ (a0 a1 a2 a3 : Sl) (r : En) (es : List PyData), fzE 4 (a0 :: a1 :: a2 :: a3 :: .own es :: r) = a0 :: a1 :: a2 :: a3 :: .dat (.list es) :: r := fun _ _ _ _ _ _ => nr rfl
  have i0 := Int.emod_nonneg (ds.getD 21 0) (show v ≠ 0 by omega)
  have i1 := Int.emod_lt_of_pos (ds.getD 21 0) (show 0 < v by omega)
  have s1 : ∀ (r : En) (x : Int), setC 5 r (D.map .int) (.int x) (.int (ds.getD 21 0 % v)) = .nx (r.set 5 (.own ((D.set (ds.getD 21 0 % v).toNat x).map .int))) := fun r x => setC_ok i0 (by omega)
  have rz := rep_zero gk.lo gk.hi (ds.getD 23 0 % 3)
  have w3 : ∀ w ∈ List.replicate v.toNat (ds.getD 23 0 % 3), 0 ≤ w ∧ w ≤ 6 := fun w m => by
    rw [(List.mem_replicate.mp m).2]
    omega
  have w4 : ∀ w ∈ D.set (ds.getD 21 0 % v).toNat (ds.getD 22 0 % 4), 0 ≤ w ∧ w ≤ 6 := fun w m => by
    rcases List.mem_or_eq_of_mem_set m with m | e
    · exact dle w m
    · rw [e]
      omega
  by_cases hA : ds.getD 20 0 % 3 = 0
  · by_cases hB : ds.getD 20 0 % 6 = 1
    · omega
    · refine ⟨_, ?_, w4, ?_⟩
      · rw [List.length_set, dl]
      · simp only [f_law_wishes, sSeq_ap, sIf_ap, sRet_ap, sExpr_ap, sSet_ap, sSetO_ap, sFor_ap, sFz_ap, sFzb_ap, sAsg_ap, sSetItem_ap, sAugItem_ap, sAug_ap, sRaise_ap, sNil_ap, sBad_ap, mutO_ap, cA_ap, cNot_ap, cAnd_ap, cOr_ap, cIf_ap, cTup_ap, cLst_ap, pNone_ap, pSome_ap, wAnd_ap, wOr_ap, wNot_ap, wTru_ap, wCmp_ap, wYes_ap, iA_ap, iS_ap, aNil_ap, aCons_ap, kR_ap, b2_ap, b3_ap, c1_ap, chainD_ap, lcF_ap, datE_ap, datB_ap, ownAt_ap, endO_rt, endO_nx, endO_exc, endO_bad, bn_ok, bn_exc, bn_bad, to_ok, to_exc, to_bad, sq_nx, sq_rt, sq_bk, sq_ct, sq_exc, sq_bad, andR_ok, orR_ok, notR_ok, andV_ok, orV_ok, notV_ok, ifV_ok, truD_b, boolD_b, intD_i, tupR0, tupR1, tupR2, tupR3, tupR4, lstR0, lstR1, lstR2, lstR3, lstR4, lstR5, lstR6, lstR7, lstR8, lstR9, negD_i, slA3_l, slA3_t, tupleD_l, tupleD_t, listD_l, listD_t, revD_t, addE_ii, subD_ii, leD_ii, ltD_ii, geD_ii, gtI_ii, eqD_ii, neD_ii, isi_tup_tup, isi_tup_list, isi_tup_none, isi_tup_int, isi_tup_bool, isi_tup_str, isi_tup_dict, isi_int_int, isi_int_bool, isi_int_none, isi_int_str, isi_int_list, isi_int_tup, isi_int_dict, isi_bool_int, isi_bool_bool, isi_bool_none, isi_bool_str, isi_bool_list, isi_bool_tup, isi_bool_dict, lenD_t, lenD_l, seqD_l, seqD_t, List.getElem?_cons_zero, List.getElem?_cons_succ, List.set_cons_zero, List.set_cons_succ, ↓reduceIte, Bool.false_eq_true, Bool.not_true, Bool.not_false, er, g1, List.length_map, rP, c1, ownO_l, fz4, deq, d20, m3, hA, decide_true, d22, m4, d21, g0, mv, s1, m6, hB, decide_false]
  · by_cases hB : ds.getD 20 0 % 6 = 1
    · refine ⟨_, List.length_replicate, w3, ?_⟩
      simp only [f_law_wishes, sSeq_ap, sIf_ap, sRet_ap, sExpr_ap, sSet_ap, sSetO_ap, sFor_ap, sFz_ap, sFzb_ap, sAsg_ap, sSetItem_ap, sAugItem_ap, sAug_ap, sRaise_ap, sNil_ap, sBad_ap, mutO_ap, cA_ap, cNot_ap, cAnd_ap, cOr_ap, cIf_ap, cTup_ap, cLst_ap, pNone_ap, pSome_ap, wAnd_ap, wOr_ap, wNot_ap, wTru_ap, wCmp_ap, wYes_ap, iA_ap, iS_ap, aNil_ap, aCons_ap, kR_ap, b2_ap, b3_ap, c1_ap, chainD_ap, lcF_ap, datE_ap, datB_ap, ownAt_ap, endO_rt, endO_nx, endO_exc, endO_bad, bn_ok, bn_exc, bn_bad, to_ok, to_exc, to_bad, sq_nx, sq_rt, sq_bk, sq_ct, sq_exc, sq_bad, andR_ok, orR_ok, notR_ok, andV_ok, orV_ok, notV_ok, ifV_ok, truD_b, boolD_b, intD_i, tupR0, tupR1, tupR2, tupR3, tupR4, lstR0, lstR1, lstR2, lstR3, lstR4, lstR5, lstR6, lstR7, lstR8, lstR9, negD_i, slA3_l, slA3_t, tupleD_l, tupleD_t, listD_l, listD_t, revD_t, addE_ii, subD_ii, leD_ii, ltD_ii, geD_ii, gtI_ii, eqD_ii, neD_ii, isi_tup_tup, isi_tup_list, isi_tup_none, isi_tup_int, isi_tup_bool, isi_tup_str, isi_tup_dict, isi_int_int, isi_int_bool, isi_int_none, isi_int_str, isi_int_list, isi_int_tup, isi_int_dict, isi_bool_int, isi_bool_bool, isi_bool_none, isi_bool_str, isi_bool_list, isi_bool_tup, isi_bool_dict, lenD_t, lenD_l, seqD_l, seqD_t, List.getElem?_cons_zero, List.getElem?_cons_succ, List.set_cons_zero, List.set_cons_succ, ↓reduceIte, Bool.false_eq_true, Bool.not_true, Bool.not_false, er, g1, List.length_map, rP, c1, ownO_l, fz4, deq, d20, m3, hA, decide_false, m6, hB, decide_true, d23, g0, rz]
    · refine ⟨D, dl, dle, ?_⟩
      simp only [f_law_wishes, sSeq_ap, sIf_ap, sRet_ap, sExpr_ap, sSet_ap, sSetO_ap, sFor_ap, sFz_ap, sFzb_ap, sAsg_ap, sSetItem_ap, sAugItem_ap, sAug_ap, sRaise_ap, sNil_ap, sBad_ap, mutO_ap, cA_ap, cNot_ap, cAnd_ap, cOr_ap, cIf_ap, cTup_ap, cLst_ap, pNone_ap, pSome_ap, wAnd_ap, wOr_ap, wNot_ap, wTru_ap, wCmp_ap, wYes_ap, iA_ap, iS_ap, aNil_ap, aCons_ap, kR_ap, b2_ap, b3_ap, c1_ap, chainD_ap, lcF_ap, datE_ap, datB_ap, ownAt_ap, endO_rt, endO_nx, endO_exc, endO_bad, bn_ok, bn_exc, bn_bad, to_ok, to_exc, to_bad, sq_nx, sq_rt, sq_bk, sq_ct, sq_exc, sq_bad, andR_ok, orR_ok, notR_ok, andV_ok, orV_ok, notV_ok, ifV_ok, truD_b, boolD_b, intD_i, tupR0, tupR1, tupR2, tupR3, tupR4, lstR0, lstR1, lstR2, lstR3, lstR4, lstR5, lstR6, lstR7, lstR8, lstR9, negD_i, slA3_l, slA3_t, tupleD_l, tupleD_t, listD_l, listD_t, revD_t, addE_ii, subD_ii, leD_ii, ltD_ii, geD_ii, gtI_ii, eqD_ii, neD_ii, isi_tup_tup, isi_tup_list, isi_tup_none, isi_tup_int, isi_tup_bool, isi_tup_str, isi_tup_dict, isi_int_int, isi_int_bool, isi_int_none, isi_int_str, isi_int_list, isi_int_tup, isi_int_dict, isi_bool_int, isi_bool_bool, isi_bool_none, isi_bool_str, isi_bool_list, isi_bool_tup, isi_bool_dict, lenD_t, lenD_l, seqD_l, seqD_t, List.getElem?_cons_zero, List.getElem?_cons_succ, List.set_cons_zero, List.set_cons_succ, ↓reduceIte, Bool.false_eq_true, Bool.not_true, Bool.not_false, er, g1, List.length_map, rP, c1, ownO_l, fz4, deq, d20, m3, hA, decide_false, m6, hB]
theorem filter_inR6 (v : Nat) (ws : List Int) (hw : ∀ w ∈ ws, 0 ≤ w ∧ w ≤ 6) : (ws.map PyData.int).all (inR 0 6) = true := by
  rw [List.all_eq_true]
  intro d m
  obtain ⟨w, mw, rfl⟩ := List.mem_map.mp m
  obtain ⟨h0, h6⟩ := hw w mw
  show (decide (0 ≤ w) && decide (w ≤ 6)) = true
  rw [decide_eq_true h0, decide_eq_true h6]
  rfl
/-- wishes that are wishes -/
def isW (v : Int) : PyData → Bool
  | .tuple xs => decide ((xs.length : Int) = v) && xs.all (inR 0 6)
  | _ => false
theorem are_wishes_eq {v : Int} {ps : List (Int × Int)} (d : PyData) : m_are_wishes [graphD v ps, d] = .ok (.bool (isW v d)) := by
  rw [r_are_wishes]
  have g0 : ixD (graphD v ps) (.int 0) = .ok (.int v) := gix0
  generalize graphD v ps = G at g0 ⊢
  cases d with
  | tuple xs =>
    by_cases hl : (xs.length : Int) = v
    · have c1 : compL (gN 2) (wNot (wTru (cA m_in_range (aCons (datE 2) (aCons (kR (.int 0)) (aCons (kR (.int 6)) aNil)))))) (datE 2) (wipeE [2] [.dat G, .dat (.tuple xs), .un]) xs = .ok ((xs.filter fun e => !inR 0 6 e).map id) := by
        refine compL_eq xs fun x _ => ⟨[.dat G, .dat (.tuple xs), .dat x], rfl, ?_, fun _ => rfl⟩
        simp only [sSeq_ap, sIf_ap, sRet_ap, sExpr_ap, sSet_ap, sSetO_ap, sFor_ap, sFz_ap, sFzb_ap, sAsg_ap, sSetItem_ap, sAugItem_ap, sAug_ap, sRaise_ap, sNil_ap, sBad_ap, mutO_ap, cA_ap, cNot_ap, cAnd_ap, cOr_ap, cIf_ap, cTup_ap, cLst_ap, pNone_ap, pSome_ap, wAnd_ap, wOr_ap, wNot_ap, wTru_ap, wCmp_ap, wYes_ap, iA_ap, iS_ap, aNil_ap, aCons_ap, kR_ap, b2_ap, b3_ap, c1_ap, chainD_ap, lcF_ap, datE_ap, datB_ap, ownAt_ap, endO_rt, endO_nx, endO_exc, endO_bad, bn_ok, bn_exc, bn_bad, to_ok, to_exc, to_bad, sq_nx, sq_rt, sq_bk, sq_ct, sq_exc, sq_bad, andR_ok, orR_ok, notR_ok, andV_ok, orV_ok, notV_ok, ifV_ok, truD_b, boolD_b, intD_i, tupR0, tupR1, tupR2, tupR3, tupR4, lstR0, lstR1, lstR2, lstR3, lstR4, lstR5, lstR6, lstR7, lstR8, lstR9, negD_i, slA3_l, slA3_t, tupleD_l, tupleD_t, listD_l, listD_t, revD_t, addE_ii, subD_ii, leD_ii, ltD_ii, geD_ii, gtI_ii, eqD_ii, neD_ii, isi_tup_tup, isi_tup_list, isi_tup_none, isi_tup_int, isi_tup_bool, isi_tup_str, isi_tup_dict, isi_int_int, isi_int_bool, isi_int_none, isi_int_str, isi_int_list, isi_int_tup, isi_int_dict, isi_bool_int, isi_bool_bool, isi_bool_none, isi_bool_str, isi_bool_list, isi_bool_tup, isi_bool_dict, lenD_t, lenD_l, seqD_l, seqD_t, List.getElem?_cons_zero, List.getElem?_cons_succ, List.set_cons_zero, List.set_cons_succ, ↓reduceIte, Bool.false_eq_true, Bool.not_true, Bool.not_false, in_range_eq]
      have c1' := filter_inR 0 6 xs
      have e : isW v (.tuple xs) = xs.all (inR 0 6) := by
        show (decide ((xs.length : Int) = v) && xs.all (inR 0 6)) = _
        rw [decide_eq_true hl]
        rfl
      simp only [f_are_wishes, sSeq_ap, sIf_ap, sRet_ap, sExpr_ap, sSet_ap, sSetO_ap, sFor_ap, sFz_ap, sFzb_ap, sAsg_ap, sSetItem_ap, sAugItem_ap, sAug_ap, sRaise_ap, sNil_ap, sBad_ap, mutO_ap, cA_ap, cNot_ap, cAnd_ap, cOr_ap, cIf_ap, cTup_ap, cLst_ap, pNone_ap, pSome_ap, wAnd_ap, wOr_ap, wNot_ap, wTru_ap, wCmp_ap, wYes_ap, iA_ap, iS_ap, aNil_ap, aCons_ap, kR_ap, b2_ap, b3_ap, c1_ap, chainD_ap, lcF_ap, datE_ap, datB_ap, ownAt_ap, endO_rt, endO_nx, endO_exc, endO_bad, bn_ok, bn_exc, bn_bad, to_ok, to_exc, to_bad, sq_nx, sq_rt, sq_bk, sq_ct, sq_exc, sq_bad, andR_ok, orR_ok, notR_ok, andV_ok, orV_ok, notV_ok, ifV_ok, truD_b, boolD_b, intD_i, tupR0, tupR1, tupR2, tupR3, tupR4, lstR0, lstR1, lstR2, lstR3, lstR4, lstR5, lstR6, lstR7, lstR8, lstR9, negD_i, slA3_l, slA3_t, tupleD_l, tupleD_t, listD_l, listD_t, revD_t, addE_ii, subD_ii, leD_ii, ltD_ii, geD_ii, gtI_ii, eqD_ii, neD_ii, isi_tup_tup, isi_tup_list, isi_tup_none, isi_tup_int, isi_tup_bool, isi_tup_str, isi_tup_dict, isi_int_int, isi_int_bool, isi_int_none, isi_int_str, isi_int_list, isi_int_tup, isi_int_dict, isi_bool_int, isi_bool_bool, isi_bool_none, isi_bool_str, isi_bool_list, isi_bool_tup, isi_bool_dict, lenD_t, lenD_l, seqD_l, seqD_t, List.getElem?_cons_zero, List.getElem?_cons_succ, List.set_cons_zero, List.set_cons_succ, ↓reduceIte, Bool.false_eq_true, Bool.not_true, Bool.not_false, g0, hl, decide_true, c1, truD_l, List.map_id, c1', e, Bool.not_not]
    · have e : isW v (.tuple xs) = false := by
        show (decide ((xs.length : Int) = v) && xs.all (inR 0 6)) = _
        rw [decide_eq_false hl]
        rfl
      simp only [f_are_wishes, sSeq_ap, sIf_ap, sRet_ap, sExpr_ap, sSet_ap, sSetO_ap, sFor_ap, sFz_ap, sFzb_ap, sAsg_ap, sSetItem_ap, sAugItem_ap, sAug_ap, sRaise_ap, sNil_ap, sBad_ap, mutO_ap, cA_ap, cNot_ap, cAnd_ap, cOr_ap, cIf_ap, cTup_ap, cLst_ap, pNone_ap, pSome_ap, wAnd_ap, wOr_ap, wNot_ap, wTru_ap, wCmp_ap, wYes_ap, iA_ap, iS_ap, aNil_ap, aCons_ap, kR_ap, b2_ap, b3_ap, c1_ap, chainD_ap, lcF_ap, datE_ap, datB_ap, ownAt_ap, endO_rt, endO_nx, endO_exc, endO_bad, bn_ok, bn_exc, bn_bad, to_ok, to_exc, to_bad, sq_nx, sq_rt, sq_bk, sq_ct, sq_exc, sq_bad, andR_ok, orR_ok, notR_ok, andV_ok, orV_ok, notV_ok, ifV_ok, truD_b, boolD_b, intD_i, tupR0, tupR1, tupR2, tupR3, tupR4, lstR0, lstR1, lstR2, lstR3, lstR4, lstR5, lstR6, lstR7, lstR8, lstR9, negD_i, slA3_l, slA3_t, tupleD_l, tupleD_t, listD_l, listD_t, revD_t, addE_ii, subD_ii, leD_ii, ltD_ii, geD_ii, gtI_ii, eqD_ii, neD_ii, isi_tup_tup, isi_tup_list, isi_tup_none, isi_tup_int, isi_tup_bool, isi_tup_str, isi_tup_dict, isi_int_int, isi_int_bool, isi_int_none, isi_int_str, isi_int_list, isi_int_tup, isi_int_dict, isi_bool_int, isi_bool_bool, isi_bool_none, isi_bool_str, isi_bool_list, isi_bool_tup, isi_bool_dict, lenD_t, lenD_l, seqD_l, seqD_t, List.getElem?_cons_zero, List.getElem?_cons_succ, List.set_cons_zero, List.set_cons_succ, ↓reduceIte, Bool.false_eq_true, Bool.not_true, Bool.not_false, g0, hl, decide_false, e]
  | _ => simp only [f_are_wishes, sSeq_ap, sIf_ap, sRet_ap, sExpr_ap, sSet_ap, sSetO_ap, sFor_ap, sFz_ap, sFzb_ap, sAsg_ap, sSetItem_ap, sAugItem_ap, sAug_ap, sRaise_ap, sNil_ap, sBad_ap, mutO_ap, cA_ap, cNot_ap, cAnd_ap, cOr_ap, cIf_ap, cTup_ap, cLst_ap, pNone_ap, pSome_ap, wAnd_ap, wOr_ap, wNot_ap, wTru_ap, wCmp_ap, wYes_ap, iA_ap, iS_ap, aNil_ap, aCons_ap, kR_ap, b2_ap, b3_ap, c1_ap, chainD_ap, lcF_ap, datE_ap, datB_ap, ownAt_ap, endO_rt, endO_nx, endO_exc, endO_bad, bn_ok, bn_exc, bn_bad, to_ok, to_exc, to_bad, sq_nx, sq_rt, sq_bk, sq_ct, sq_exc, sq_bad, andR_ok, orR_ok, notR_ok, andV_ok, orV_ok, notV_ok, ifV_ok, truD_b, boolD_b, intD_i, tupR0, tupR1, tupR2, tupR3, tupR4, lstR0, lstR1, lstR2, lstR3, lstR4, lstR5, lstR6, lstR7, lstR8, lstR9, negD_i, slA3_l, slA3_t, tupleD_l, tupleD_t, listD_l, listD_t, revD_t, addE_ii, subD_ii, leD_ii, ltD_ii, geD_ii, gtI_ii, eqD_ii, neD_ii, isi_tup_tup, isi_tup_list, isi_tup_none, isi_tup_int, isi_tup_bool, isi_tup_str, isi_tup_dict, isi_int_int, isi_int_bool, isi_int_none, isi_int_str, isi_int_list, isi_int_tup, isi_int_dict, isi_bool_int, isi_bool_bool, isi_bool_none, isi_bool_str, isi_bool_list, isi_bool_tup, isi_bool_dict, lenD_t, lenD_l, seqD_l, seqD_t, List.getElem?_cons_zero, List.getElem?_cons_succ, List.set_cons_zero, List.set_cons_succ, ↓reduceIte, Bool.false_eq_true, Bool.not_true, Bool.not_false, isW]
theorem check_wishes_eq {v : Int} {ps : List (Int × Int)} (gk : Gok v ps) (d : PyData) : m_check_wishes [graphD v ps, d] = if isW v d = true then .ok .none else .exc "InvalidWishes" none := by
  rw [r_check_wishes]
  have cg : m_check_graph [graphD v ps] = .ok .none := by
    rw [check_graph_eq, gk.isG]
    rfl
  cases h : isW v d with
  | true => simp only [f_check_wishes, sSeq_ap, sIf_ap, sRet_ap, sExpr_ap, sSet_ap, sSetO_ap, sFor_ap, sFz_ap, sFzb_ap, sAsg_ap, sSetItem_ap, sAugItem_ap, sAug_ap, sRaise_ap, sNil_ap, sBad_ap, mutO_ap, cA_ap, cNot_ap, cAnd_ap, cOr_ap, cIf_ap, cTup_ap, cLst_ap, pNone_ap, pSome_ap, wAnd_ap, wOr_ap, wNot_ap, wTru_ap, wCmp_ap, wYes_ap, iA_ap, iS_ap, aNil_ap, aCons_ap, kR_ap, b2_ap, b3_ap, c1_ap, chainD_ap, lcF_ap, datE_ap, datB_ap, ownAt_ap, endO_rt, endO_nx, endO_exc, endO_bad, bn_ok, bn_exc, bn_bad, to_ok, to_exc, to_bad, sq_nx, sq_rt, sq_bk, sq_ct, sq_exc, sq_bad, andR_ok, orR_ok, notR_ok, andV_ok, orV_ok, notV_ok, ifV_ok, truD_b, boolD_b, intD_i, tupR0, tupR1, tupR2, tupR3, tupR4, lstR0, lstR1, lstR2, lstR3, lstR4, lstR5, lstR6, lstR7, lstR8, lstR9, negD_i, slA3_l, slA3_t, tupleD_l, tupleD_t, listD_l, listD_t, revD_t, addE_ii, subD_ii, leD_ii, ltD_ii, geD_ii, gtI_ii, eqD_ii, neD_ii, isi_tup_tup, isi_tup_list, isi_tup_none, isi_tup_int, isi_tup_bool, isi_tup_str, isi_tup_dict, isi_int_int, isi_int_bool, isi_int_none, isi_int_str, isi_int_list, isi_int_tup, isi_int_dict, isi_bool_int, isi_bool_bool, isi_bool_none, isi_bool_str, isi_bool_list, isi_bool_tup, isi_bool_dict, lenD_t, lenD_l, seqD_l, seqD_t, List.getElem?_cons_zero, List.getElem?_cons_succ, List.set_cons_zero, List.set_cons_succ, ↓reduceIte, Bool.false_eq_true, Bool.not_true, Bool.not_false, cg, are_wishes_eq, h]
  | false => simp only [f_check_wishes, sSeq_ap, sIf_ap, sRet_ap, sExpr_ap, sSet_ap, sSetO_ap, sFor_ap, sFz_ap, sFzb_ap, sAsg_ap, sSetItem_ap, sAugItem_ap, sAug_ap, sRaise_ap, sNil_ap, sBad_ap, mutO_ap, cA_ap, cNot_ap, cAnd_ap, cOr_ap, cIf_ap, cTup_ap, cLst_ap, pNone_ap, pSome_ap, wAnd_ap, wOr_ap, wNot_ap, wTru_ap, wCmp_ap, wYes_ap, iA_ap, iS_ap, aNil_ap, aCons_ap, kR_ap, b2_ap, b3_ap, c1_ap, chainD_ap, lcF_ap, datE_ap, datB_ap, ownAt_ap, endO_rt, endO_nx, endO_exc, endO_bad, bn_ok, bn_exc, bn_bad, to_ok, to_exc, to_bad, sq_nx, sq_rt, sq_bk, sq_ct, sq_exc, sq_bad, andR_ok, orR_ok, notR_ok, andV_ok, orV_ok, notV_ok, ifV_ok, truD_b, boolD_b, intD_i, tupR0, tupR1, tupR2, tupR3, tupR4, lstR0, lstR1, lstR2, lstR3, lstR4, lstR5, lstR6, lstR7, lstR8, lstR9, negD_i, slA3_l, slA3_t, tupleD_l, tupleD_t, listD_l, listD_t, revD_t, addE_ii, subD_ii, leD_ii, ltD_ii, geD_ii, gtI_ii, eqD_ii, neD_ii, isi_tup_tup, isi_tup_list, isi_tup_none, isi_tup_int, isi_tup_bool, isi_tup_str, isi_tup_dict, isi_int_int, isi_int_bool, isi_int_none, isi_int_str, isi_int_list, isi_int_tup, isi_int_dict, isi_bool_int, isi_bool_bool, isi_bool_none, isi_bool_str, isi_bool_list, isi_bool_tup, isi_bool_dict, lenD_t, lenD_l, seqD_l, seqD_t, List.getElem?_cons_zero, List.getElem?_cons_succ, List.set_cons_zero, List.set_cons_succ, ↓reduceIte, Bool.false_eq_true, Bool.not_true, Bool.not_false, cg, are_wishes_eq, h]
end Com
namespace Com
open PySem L2 DL
def b_left_after_1 : En → O :=
  (sWq [4] (sAugItem (fun i j => i + j) 3 (datE 4) (1)))
def b_left_after_2 : En → O :=
  (sWq [2, 3, 4] (sSeq (sSetO 3 (c1 listD (b2 (datB 1) (kR (.int 0)) ixD)))
  (sSeq (sWp [4] (sFor (iS seqD (datE 2)) (gN 4) b_left_after_1))
  (sFz 3 (mutO 1 (aCons (kR (.int 0)) (aCons (datE 3) aNil)) gIns0)))))
def f_left_after : En → O :=
  (sSeq (sSetO 1 (cLst (aCons (b2 (cLst (aCons (kR (.int 0)) aNil)) (b2 (datB 0) (kR (.int 0)) ixD) repD) aNil)))
  (sSeq (sWp [2, 3, 4] (sFor (iS revdD (b2 (datB 0) (kR (.int 1)) ixD)) (gN 2) b_left_after_2))
  (sFz 1 (sRet (datE 1)))))
def m_left_after : List PyData → R PyData := runF ["graph", "result", "edge", "counts", "vertex"] f_left_after
theorem r_left_after {a0 : PyData} : m_left_after [a0] = endO (f_left_after [.dat a0, .un, .un, .un, .un]) := runF_eq
def ct_extend_1 (gg : List PyData → R PyData) : En → R Bool :=
  (wOr (wCmp (b2 (datB 9) (kR (.int 0)) ltD)) (wCmp (b2 (datB 9) (datB 10) gtI)))
def ce_extend_1 (gg : List PyData → R PyData) : En → R PyData :=
  (b2 (cTup (aCons (datE 3) aNil)) (datB 11) addE)
def f_extend (gg : List PyData → R PyData) : En → O :=
  (sSeq (sIf (wTru (lcF (iA zip2 (aCons (datE 2) (aCons (b2 (datB 1) (datB 3) ixD) aNil))) (gT (gsC (gN 9) (gsC (gN 10) gsN))) (ct_extend_1 gg) (kR (.int 1)) [9, 10]))
  (sRet (cLst aNil))
  sNil)
  (sSeq (sIf (wCmp (b2 (datB 3) (c1 lenD (b2 (datB 0) (kR (.int 1)) ixD)) eqD))
  (sRet (cLst (aCons (cTup aNil) aNil)))
  sNil)
  (sSeq (sAsg (b2 (b2 (datB 0) (kR (.int 1)) ixD) (datB 3) ixD) (gT (gsC (gN 5) (gsC (gN 6) gsN))))
  (sSeq (sSetO 7 (c1 listD (datB 2)))
  (sSeq (sAugItem (fun i j => i - j) 7 (datE 5) (1))
  (sSeq (sAugItem (fun i j => i - j) 7 (datE 6) (1))
  (sSeq (sFz 7 (sSetO 8 (lcF (iS seqD (cA gg (aCons (datE 0) (aCons (datE 1) (aCons (datE 7) (aCons (b2 (datB 3) (kR (.int 1)) addE) (aCons (datE 4) aNil))))))) (gN 11) wYes (ce_extend_1 gg) [11])))
  (sSeq (sIf (wCmp (b2 (c1 lenD (datB 8)) (datB 4) ltD))
  (mutO 8 (aCons (cA gg (aCons (datE 0) (aCons (datE 1) (aCons (datE 2) (aCons (b2 (datB 3) (kR (.int 1)) addE) (aCons (b2 (datB 4) (c1 lenD (datB 8)) subD) aNil)))))) aNil) gExt)
  sNil)
  (sFz 8 (sRet (datE 8)))))))))))
def s_extend_ (gg : List PyData → R PyData) : List PyData → R PyData := runF ["graph", "left", "needed", "number", "most", "one", "other", "fewer", "result", "need", "many", "rest"] (f_extend gg)
def m_extend : List PyData → R PyData := fuelF s_extend_ 16
theorem r_extend_ {gg : List PyData → R PyData} {a0 a1 a2 a3 a4 : PyData} : s_extend_ gg [a0, a1, a2, a3, a4] = endO (f_extend gg [.dat a0, .dat a1, .dat a2, .dat a3, .dat a4, .un, .un, .un, .un, .un, .un, .un]) := runF_eq
def f_some_choices : En → O :=
  (sRet (cA m_extend (aCons (datE 0) (aCons (cA m_left_after (aCons (datE 0) aNil)) (aCons (c1 listD (datB 1)) (aCons (kR (.int 0)) (aCons (datE 2) aNil)))))))
def m_some_choices : List PyData → R PyData := runF ["graph", "wishes", "most"] f_some_choices
theorem r_some_choices {a0 a1 a2 : PyData} : m_some_choices [a0, a1, a2] = endO (f_some_choices [.dat a0, .dat a1, .dat a2]) := runF_eq
def f_first_choice : En → O :=
  (sSeq (sExpr (cA m_check_wishes (aCons (datE 0) (aCons (datE 1) aNil))))
  (sSeq (sSet 2 (cA m_some_choices (aCons (datE 0) (aCons (datE 1) (aCons (kR (.int 1)) aNil)))))
  (sSeq (sIf (wNot (wTru (datB 2)))
  (sRaise "NoChoice")
  sNil)
  (sRet (b2 (datB 2) (kR (.int 0)) ixD)))))
def m_first_choice : List PyData → R PyData := runF ["graph", "wishes", "found"] f_first_choice
theorem r_first_choice {a0 a1 : PyData} : m_first_choice [a0, a1] = endO (f_first_choice [.dat a0, .dat a1, .un]) := runF_eq
def f_all_choices : En → O :=
  (sSeq (sExpr (cA m_check_wishes (aCons (datE 0) (aCons (datE 1) aNil))))
  (sRet (cA m_some_choices (aCons (datE 0) (aCons (datE 1) (aCons (kR (.int 4096)) aNil))))))
def m_all_choices : List PyData → R PyData := runF ["graph", "wishes"] f_all_choices
theorem r_all_choices {a0 a1 : PyData} : m_all_choices [a0, a1] = endO (f_all_choices [.dat a0, .dat a1]) := runF_eq
def f_is_possible : En → O :=
  (sSeq (sExpr (cA m_check_wishes (aCons (datE 0) (aCons (datE 1) aNil))))
  (sRet (b2 (cA m_some_choices (aCons (datE 0) (aCons (datE 1) (aCons (kR (.int 1)) aNil)))) (cLst aNil) neD)))
def m_is_possible : List PyData → R PyData := runF ["graph", "wishes"] f_is_possible
theorem r_is_possible {a0 a1 : PyData} : m_is_possible [a0, a1] = endO (f_is_possible [.dat a0, .dat a1]) := runF_eq
def ct_law_all_1 : En → R Bool :=
  (wCmp (b2 (b2 (datB 7) (datB 8) ixD) (b2 (datB 1) (datB 8) ixD) gtI))
def b_law_all_1 : En → O :=
  (sWq [5, 6, 7] (sSeq (sSet 6 (b2 (datB 5) (cTup (aCons (datE 3) aNil)) addE))
  (sSeq (sSet 7 (cA m_law_degrees (aCons (datE 0) (aCons (datE 6) aNil))))
  (sSeq (sIf (wCmp (b2 (lcF (iS seqD (b2 (b2 (datB 0) (kR (.int 1)) ixD) (datB 3) ixD)) (gN 8) ct_law_all_1 (datE 8) [8]) (cLst aNil) eqD))
  (mutO 4 (aCons (datE 6) aNil) gApp)
  sNil)
  (mutO 4 (aCons (datE 5) aNil) gApp)))))
def b_law_all_2 : En → O :=
  (sWq [3, 4, 5, 6, 7] (sSeq (sSetO 4 (cLst aNil))
  (sSeq (sWp [5, 6, 7] (sFor (iS seqD (datE 2)) (gN 5) b_law_all_1))
  (sFz 4 (sSet 2 (datE 4))))))
def ct_law_all_2 : En → R Bool :=
  (wCmp (b2 (cA m_law_degrees (aCons (datE 0) (aCons (datE 5) aNil))) (c1 tupleD (datB 1)) eqD))
def f_law_all : En → O :=
  (sSeq (sSet 2 (cLst (aCons (cTup aNil) aNil)))
  (sSeq (sWp [3, 4, 5, 6, 7] (sFor (iA rng1 (aCons (c1 lenD (b2 (datB 0) (kR (.int 1)) ixD)) aNil)) (gN 3) b_law_all_2))
  (sRet (lcF (iS seqD (datE 2)) (gN 5) ct_law_all_2 (datE 5) [5]))))
def m_law_all : List PyData → R PyData := runF ["graph", "wishes", "found", "number", "longer", "choice", "more", "reached", "vertex"] f_law_all
theorem r_law_all {a0 a1 : PyData} : m_law_all [a0, a1] = endO (f_law_all [.dat a0, .dat a1, .un, .un, .un, .un, .un, .un, .un]) := runF_eq
end Com
namespace DL
open PySem L2
section
variable {r : En} {vs : List Nat} {v i j : Nat} {d e : PyData} {s : En → O} {c : Str} {fs : Option (List (Str × PyData))} {ds es : List PyData}
theorem sWp_ap : sWp vs s r = s (wipeE vs r) := nr rfl
theorem sWq_ap : sWq vs s r = wipeO vs (s r) := nr rfl
theorem wipeO_nx : wipeO vs (.nx r) = .nx (wipeE vs r) := nr rfl
theorem wipeO_bk : wipeO vs (.bk r) = .bk (wipeE vs r) := nr rfl
theorem wipeO_ct : wipeO vs (.ct r) = .ct (wipeE vs r) := nr rfl
theorem wipeO_rt : wipeO vs (.rt d) = .rt d := nr rfl
theorem wipeO_exc : wipeO vs (.exc c fs r) = .exc c fs r := nr rfl
theorem wipeO_bad : wipeO vs .bad = .bad := nr rfl
theorem wipeE_nil : wipeE [] r = r := nr rfl
theorem wipeE_cons : wipeE (v :: vs) r = (wipeE vs r).set v .un := nr rfl
theorem fzE_ap : fzE i r = match r[i]? with
  | some (.own ds) => r.set i (.dat (.list ds))
  | _ => r := nr rfl
theorem ownO_l {i : Nat} {r : En} {ds : List PyData} : ownO i r (.list ds) = .nx (r.set i (.own ds)) := nr rfl
theorem asgO_2 : asgO (gT (gsC (gN i) (gsC (gN j) gsN))) r (.tuple [d, e]) = .nx ((r.set i (.dat d)).set j (.dat e)) := nr rfl
theorem truD_l : truD (.list ds) = .ok (!ds.isEmpty) := nr rfl
theorem truD_t : truD (.tuple ds) = .ok (!ds.isEmpty) := nr rfl
theorem gApp_ok (h : ds.length < sizeLine) : gApp ds [d] = some (ds ++ [d]) := if_pos h
theorem gExt_ok (h : ds.length + es.length ≤ sizeLine) : gExt ds [.list es] = some (ds ++ es) := if_pos h
theorem gIns_ok (h : ds.length < sizeLine) : gIns0 ds [.int 0, d] = some (d :: ds) := if_pos ⟨rfl, h⟩
theorem datI_ap {o : O} : datI i r o = match r[i]? with
  | some (.dat (.int _)) => o
  | _ => .bad := nr rfl
theorem augN_ap {p : Int → Int → Int} : augN p i r d = match r[i]?, d with
  | some (.dat (.int x)), .int y => .nx (r.set i (.dat (.int (p x y))))
  | _, _ => .bad := nr rfl
theorem zip2_ll : zip2 [.list ds, .list es] = .ok (zipD ds es) := nr rfl
theorem zip2_tt : zip2 [.tuple ds, .tuple es] = .ok (zipD ds es) := nr rfl
end
/-- a loop over encoded things, by a fold -/
theorem forM {α β : Type} {ft : PyData → En → Option En} {fb : En → O} (enc : α → PyData) (st : β → En) (step : β → α → β) (J : β → List α → Prop) : ∀ (xs : List α) (b : β),
    (∀ b x t, J b (x :: t) → ∃ r1, ft (enc x) (st b) = some r1 ∧ fb r1 = .nx (st (step b x)) ∧ J (step b x) t) → J b xs →
    forL ft fb (xs.map enc) (st b) = .nx (st (xs.foldl step b)) ∧ J (xs.foldl step b) []
  | [], b, _, h => ⟨rfl, h⟩
  | x :: t, b, hs, h => by
    obtain ⟨r1, h1, h2, h3⟩ := hs b x t h
    have ih := forM enc st step J t (step b x) hs h3
    refine ⟨?_, ih.2⟩
    rw [List.map_cons, forL, h1]
    show (match fb r1 with
      | .nx r2 => forL ft fb (t.map enc) r2
      | .ct r2 => forL ft fb (t.map enc) r2
      | .bk r2 => .nx r2
      | .rt d => .rt d
      | .exc c fs r2 => .exc c fs r2
      | .bad => .bad) = _
    rw [h2]
    exact ih.1
/-- a comprehension over encoded things -/
theorem compM {α : Type} {ft : PyData → En → Option En} {fc : En → R Bool} {fe : En → R PyData} {r0 : En} (enc : α → PyData) (P : α → Bool) (E : α → PyData) (xs : List α)
    (h : ∀ x ∈ xs, ∃ r1, ft (enc x) r0 = some r1 ∧ fc r1 = .ok (P x) ∧ (P x = true → fe r1 = .ok (E x))) : compL ft fc fe r0 (xs.map enc) = .ok ((xs.filter P).map E) := by
  induction xs with
  | nil => rfl
  | cons x xs ih =>
    obtain ⟨r1, h1, h2, h3⟩ := h x List.mem_cons_self
    have ih := ih fun y m => h y (List.mem_cons_of_mem _ m)
    rw [List.map_cons, compL, h1]
    show ((fc r1).nox.bind fun k => _) = _
    rw [h2]
    show (if P x = true then (fe r1).nox.bind fun d => (compL ft fc fe r0 (xs.map enc)).bind fun ds => .ok (d :: ds) else compL ft fc fe r0 (xs.map enc)) = _
    cases e : P x with
    | true =>
      rw [if_pos rfl, h3 e, ih, List.filter_cons, if_pos e]
      rfl
    | false =>
      rw [if_neg Bool.false_ne_true, ih, List.filter_cons, if_neg (by rw [e]; exact Bool.false_ne_true)]
end DL
namespace Com
open PySem L2 DL
def tI (cs : List Int) : PyData := .tuple (cs.map .int)
def lI (cs : List Int) : PyData := .list (cs.map .int)
theorem seq_tI (cs : List Int) : seqD (tI cs) = .ok (cs.map .int) := rfl
theorem seq_lI (cs : List Int) : seqD (lI cs) = .ok (cs.map .int) := rfl
theorem rangeL_map (n : Nat) : rangeL 0 n = (List.range n).map fun i => .int (i : Int) := by
  unfold rangeL
  exact List.map_congr_left fun i _ => by rw [Int.zero_add]
theorem sz1000000 : (1000000 : Nat) ≤ sizeLine := by decide
/-! ### degrees, vertex by vertex -/
def tc (p : Int × Int) (x : Nat) : Int := (if p.1 = (x : Int) then 1 else 0) + (if p.2 = (x : Int) then 1 else 0)
def eg (ps : List (Int × Int)) (c : Int) : Int × Int := ps.getD c.toNat (0, 0)
/-- how many chosen edges a vertex has -/
def dgx (ps : List (Int × Int)) (cs : List Int) (x : Nat) : Int := (cs.map fun c => tc (eg ps c) x).sum
theorem tc_touch {p : Int × Int} {x : Nat} (h : p.1 < p.2) : tc p x = if touch x p = true then 1 else 0 := by
  unfold tc touch
  by_cases h1 : p.1 = (x : Int)
  · rw [if_pos h1, if_neg (by omega), decide_eq_true h1]; rfl
  · by_cases h2 : p.2 = (x : Int)
    · rw [if_neg h1, if_pos h2, decide_eq_true h2, Bool.or_true]; rfl
    · rw [if_neg h1, if_neg h2, decide_eq_false h1, decide_eq_false h2]; rfl
theorem degL_dgx {v : Int} {ps : List (Int × Int)} (gk : Gok v ps) : ∀ {cs : List Int}, (∀ c ∈ cs, 0 ≤ c ∧ c < (ps.length : Int)) → ∀ x : Nat, (degL v ps cs).getD x 0 = dgx ps cs x := by
  intro cs hc x
  rw [degL_get gk hc x]
  unfold dgx eg
  induction cs with
  | nil => rfl
  | cons c cs ih =>
    have hc' := hc c List.mem_cons_self
    rw [List.map_cons, List.map_cons, List.sum_cons, List.countP_cons]
    rw [← ih fun d m => hc d (List.mem_cons_of_mem _ m)]
    rw [tc_touch (gk.ed _ (getD_mem hc'.1 hc'.2).1).2.1]
    split <;> omega
theorem list_ext {as bs : List Int} (hl : as.length = bs.length) (h : ∀ x : Nat, as.getD x 0 = bs.getD x 0) : as = bs := by
  refine List.ext_getElem hl fun i h1 h2 => ?_
  have := h i
  rw [List.getD_eq_getElem?_getD, List.getD_eq_getElem?_getD, List.getElem?_eq_getElem h1, List.getElem?_eq_getElem h2] at this
  exact this
theorem getD_out {as : List Int} {x : Nat} (h : as.length ≤ x) : as.getD x 0 = 0 := by
  rw [List.getD_eq_getElem?_getD, List.getElem?_eq_none h]
  rfl
theorem degL_eq_iff {v : Int} {ps : List (Int × Int)} (gk : Gok v ps) {cs ws : List Int} (hc : ∀ c ∈ cs, 0 ≤ c ∧ c < (ps.length : Int)) (hw : ws.length = v.toNat) : degL v ps cs = ws ↔ ∀ x : Nat, dgx ps cs x = ws.getD x 0 := by
  constructor
  · intro h x
    rw [← h, degL_dgx gk hc]
  · intro h
    exact list_ext (by rw [degL_len, hw]) fun x => by rw [degL_dgx gk hc, h x]
theorem dgx_cons (ps : List (Int × Int)) (c : Int) (cs : List Int) (x : Nat) : dgx ps (c :: cs) x = tc (eg ps c) x + dgx ps cs x := by
  unfold dgx
  rw [List.map_cons, List.sum_cons]
theorem dgx_app (ps : List (Int × Int)) (as bs : List Int) (x : Nat) : dgx ps (as ++ bs) x = dgx ps as x + dgx ps bs x := by
  unfold dgx
  rw [List.map_append, List.sum_append]
theorem tc_nn (p : Int × Int) (x : Nat) : 0 ≤ tc p x := by
  unfold tc
  split <;> split <;> omega
theorem dgx_nn (ps : List (Int × Int)) : ∀ (cs : List Int) (x : Nat), 0 ≤ dgx ps cs x
  | [], _ => Int.le_refl 0
  | c :: cs, x => by
    rw [dgx_cons]
    have := tc_nn (eg ps c) x
    have := dgx_nn ps cs x
    omega
/-! ### all choices, in order -/
/-- all ascending lists out of m numbers from k on -/
def powF : Nat → Int → List (List Int)
  | 0, _ => [[]]
  | m + 1, k => (powF m (k + 1)).map (k :: ·) ++ powF m (k + 1)
theorem powF_in : ∀ (m : Nat) (k : Int) (c : List Int), c ∈ powF m k → ∀ z ∈ c, k ≤ z ∧ z < k + (m : Int)
  | 0, k, c, h, z, hz => by
    rw [powF, List.mem_singleton] at h
    subst h
    cases hz
  | m + 1, k, c, h, z, hz => by
    rw [powF, List.mem_append, List.mem_map] at h
    rcases h with ⟨d, hd, rfl⟩ | h
    · rcases List.mem_cons.mp hz with rfl | hz
      · omega
      · have := powF_in m (k + 1) d hd z hz
        omega
    · have := powF_in m (k + 1) c h z hz
      omega
theorem powF_len : ∀ (m : Nat) (k : Int), (powF m k).length = 2 ^ m
  | 0, _ => rfl
  | m + 1, k => by
    rw [powF, List.length_append, List.length_map, powF_len m, Nat.pow_succ]
    omega
/-- the complete choices, in order -/
def allC (v : Int) (ps : List (Int × Int)) (ws : List Int) : List (List Int) := (powF ps.length 0).filter fun c => decide (degL v ps c = ws)
theorem allC_in {v : Int} {ps : List (Int × Int)} {ws c : List Int} (h : c ∈ allC v ps ws) : (∀ z ∈ c, 0 ≤ z ∧ z < (ps.length : Int)) ∧ degL v ps c = ws := by
  obtain ⟨h1, h2⟩ := List.mem_filter.mp h
  refine ⟨fun z hz => ?_, of_decide_eq_true h2⟩
  have := powF_in _ _ c h1 z hz
  omega
theorem allC_len {v : Int} {ps : List (Int × Int)} {ws : List Int} : (allC v ps ws).length ≤ 2 ^ ps.length := by
  unfold allC
  have := List.length_filter_le (fun c => decide (degL v ps c = ws)) (powF ps.length 0)
  rw [powF_len] at this
  exact this
end Com
namespace Com
open PySem L2 DL
/-! ### how many edges each vertex has from a number on -/
def cntL (v : Int) (qs : List (Int × Int)) : List Int := qs.foldr (fun p r => bump (bump r p.1) p.2) (List.replicate v.toNat 0)
theorem cntL_len (v : Int) : ∀ qs : List (Int × Int), (cntL v qs).length = v.toNat
  | [] => List.length_replicate
  | p :: qs => by
    show (bump (bump (cntL v qs) p.1) p.2).length = _
    rw [bump_len, bump_len, cntL_len v qs]
def csum (qs : List (Int × Int)) (x : Nat) : Int := (qs.map fun p => tc p x).sum
theorem csum_cons (p : Int × Int) (qs : List (Int × Int)) (x : Nat) : csum (p :: qs) x = tc p x + csum qs x := by
  unfold csum
  rw [List.map_cons, List.sum_cons]
theorem rep_get (n x : Nat) : (List.replicate n (0 : Int)).getD x 0 = 0 := by
  rw [List.getD_eq_getElem?_getD, List.getElem?_replicate]
  split <;> rfl
theorem cntL_get {v : Int} (hv : 0 ≤ v) : ∀ {qs : List (Int × Int)}, (∀ p ∈ qs, 0 ≤ p.1 ∧ p.1 < p.2 ∧ p.2 < v) → ∀ x : Nat, (cntL v qs).getD x 0 = csum qs x
  | [], _, x => rep_get _ x
  | p :: qs, h, x => by
    have hp := h p List.mem_cons_self
    have ih := cntL_get hv (fun q m => h q (List.mem_cons_of_mem _ m)) x
    show (bump (bump (cntL v qs) p.1) p.2).getD x 0 = _
    have hl := cntL_len v qs
    rw [bump_get (by omega) (by rw [bump_len]; omega), bump_get (by omega) (by omega), ih, csum_cons]
    unfold tc
    omega
def lfN (v : Int) : List (Int × Int) → List (List Int)
  | [] => [cntL v []]
  | p :: ps => cntL v (p :: ps) :: lfN v ps
theorem lfN_len (v : Int) : ∀ ps : List (Int × Int), (lfN v ps).length = ps.length + 1
  | [] => rfl
  | p :: ps => by rw [lfN, List.length_cons, lfN_len v ps, List.length_cons]
theorem lfN_get (v : Int) : ∀ (ps : List (Int × Int)) (j : Nat), j ≤ ps.length → (lfN v ps)[j]? = some (cntL v (ps.drop j))
  | [], 0, _ => rfl
  | p :: ps, 0, _ => rfl
  | p :: ps, j + 1, h => by
    rw [lfN, List.getElem?_cons_succ, lfN_get v ps j (by simpa using h)]
    rfl
theorem lfN_head (v : Int) (ps : List (Int × Int)) : ∃ t, lfN v ps = cntL v ps :: t := by
  cases ps with
  | nil => exact ⟨[], rfl⟩
  | cons p ps => exact ⟨lfN v ps, rfl⟩
def lfStep (acc : List (List Int)) (p : Int × Int) : List (List Int) := bump (bump (acc.headD []) p.1) p.2 :: acc
theorem lfN_fold (v : Int) (ps : List (Int × Int)) : ps.reverse.foldl lfStep [cntL v []] = lfN v ps := by
  rw [List.foldl_reverse]
  induction ps with
  | nil => rfl
  | cons p ps ih =>
    rw [List.foldr_cons, ih]
    obtain ⟨t, e⟩ := lfN_head v ps
    show bump (bump ((lfN v ps).headD []) p.1) p.2 :: lfN v ps = cntL v (p :: ps) :: lfN v ps
    rw [e]
    rfl
theorem left_after_eq {v : Int} {ps : List (Int × Int)} (gk : Gok v ps) : m_left_after [graphD v ps] = .ok (.list ((lfN v ps).map lI)) := by
  rw [r_left_after]
  have g0 : ixD (graphD v ps) (.int 0) = .ok (.int v) := gix0
  have g1 : ixD (graphD v ps) (.int 1) = .ok (.tuple (ps.map edgeD)) := gix1
  generalize graphD v ps = G at *
  have hv := gk.lo
  have rz := rep_zero gk.lo gk.hi 0
  have hr : revdD (.tuple (ps.map edgeD)) = .ok (ps.reverse.map edgeD) := by
    show R.ok (ps.map edgeD).reverse = _
    rw [List.map_reverse]
  have sz := sz1000000
  have lp := (forM (ft := gN 2) (fb := b_left_after_2) edgeD (fun acc : List (List Int) => [.dat G, .own (acc.map lI), .un, .un, .un]) lfStep
    (fun acc t => acc ≠ [] ∧ (∀ a ∈ acc, a.length = v.toNat) ∧ acc.length + t.length ≤ 100 ∧ ∀ p ∈ t, 0 ≤ p.1 ∧ p.1 < p.2 ∧ p.2 < v) ps.reverse [cntL v []] (by
      rintro acc p t ⟨hne, ha, hl, hp⟩
      obtain ⟨a, acc', rfl⟩ := List.exists_cons_of_ne_nil hne
      obtain ⟨p0, p1, p2⟩ := hp p List.mem_cons_self
      have al := ha a List.mem_cons_self
      refine ⟨_, rfl, ?_, by simp [lfStep], ?_, by simp [lfStep] at hl ⊢; omega, fun q m => hp q (List.mem_cons_of_mem _ m)⟩
      · have i0 : ixD (.list (lI a :: acc'.map lI)) (.int 0) = .ok (lI a) := ix_l (by decide) rfl
        have ll : listD (lI a) = .ok (.list (a.map .int)) := rfl
        have sq : seqD (edgeD p) = .ok [.int p.1, .int p.2] := rfl
        have inner := (forM (ft := gN 4) (fb := b_left_after_1) PyData.int (fun res : List Int => [.dat G, .own (lI a :: acc'.map lI), .dat (edgeD p), .own (res.map .int), .un]) bump
          (fun res t => res.length = v.toNat ∧ ∀ i ∈ t, 0 ≤ i ∧ i < v) [p.1, p.2] a (by
            rintro res i t ⟨hr, hi⟩
            have h := hi i List.mem_cons_self
            refine ⟨_, rfl, ?_, by rw [bump_len, hr], fun j m => hi j (List.mem_cons_of_mem _ m)⟩
            simp only [b_left_after_1, sSeq_ap, sIf_ap, sRet_ap, sExpr_ap, sSet_ap, sSetO_ap, sFor_ap, sFz_ap, sFzb_ap, sAsg_ap, sSetItem_ap, sAugItem_ap, sAug_ap, sRaise_ap, sNil_ap, sBad_ap, mutO_ap, cA_ap, cNot_ap, cAnd_ap, cOr_ap, cIf_ap, cTup_ap, cLst_ap, pNone_ap, pSome_ap, wAnd_ap, wOr_ap, wNot_ap, wTru_ap, wCmp_ap, wYes_ap, iA_ap, iS_ap, aNil_ap, aCons_ap, kR_ap, b2_ap, b3_ap, c1_ap, chainD_ap, lcF_ap, datE_ap, datB_ap, ownAt_ap, endO_rt, endO_nx, endO_exc, endO_bad, bn_ok, bn_exc, bn_bad, to_ok, to_exc, to_bad, sq_nx, sq_rt, sq_bk, sq_ct, sq_exc, sq_bad, andR_ok, orR_ok, notR_ok, andV_ok, orV_ok, notV_ok, ifV_ok, truD_b, boolD_b, intD_i, tupR0, tupR1, tupR2, tupR3, tupR4, lstR0, lstR1, lstR2, lstR3, lstR4, lstR5, lstR6, lstR7, lstR8, lstR9, negD_i, slA3_l, slA3_t, tupleD_l, tupleD_t, listD_l, listD_t, revD_t, addE_ii, subD_ii, leD_ii, ltD_ii, geD_ii, gtI_ii, eqD_ii, neD_ii, isi_tup_tup, isi_tup_list, isi_tup_none, isi_tup_int, isi_tup_bool, isi_tup_str, isi_tup_dict, isi_int_int, isi_int_bool, isi_int_none, isi_int_str, isi_int_list, isi_int_tup, isi_int_dict, isi_bool_int, isi_bool_bool, isi_bool_none, isi_bool_str, isi_bool_list, isi_bool_tup, isi_bool_dict, lenD_t, lenD_l, seqD_l, seqD_t, List.getElem?_cons_zero, List.getElem?_cons_succ, List.set_cons_zero, List.set_cons_succ, ↓reduceIte, Bool.false_eq_true, Bool.not_true, Bool.not_false, sWp_ap, sWq_ap, wipeO_nx, wipeO_rt, wipeO_bk, wipeO_ct, wipeO_exc, wipeO_bad, wipeE_nil, wipeE_cons, fzE_ap, ownO_l, asgO_2, truD_l, truD_t, datI_ap, augN_ap, zip2_tt, zip2_ll, augC_ok h.1 (show i < (res.length : Int) by omega)]) ⟨al, by intro i m; simp at m; omega⟩).1
        have inner' : forL (gN 4) b_left_after_1 [.int p.1, .int p.2] [.dat G, .own (lI a :: acc'.map lI), .dat (edgeD p), .own (a.map .int), .un] = .nx [.dat G, .own (lI a :: acc'.map lI), .dat (edgeD p), .own ((bump (bump a p.1) p.2).map .int), .un] := inner
        have hlen : (lI a :: acc'.map lI).length < sizeLine := by
          simp only [List.length_cons, List.length_map] at hl ⊢
          omega
        simp only [b_left_after_2, List.map_cons, sSeq_ap, sIf_ap, sRet_ap, sExpr_ap, sSet_ap, sSetO_ap, sFor_ap, sFz_ap, sFzb_ap, sAsg_ap, sSetItem_ap, sAugItem_ap, sAug_ap, sRaise_ap, sNil_ap, sBad_ap, mutO_ap, cA_ap, cNot_ap, cAnd_ap, cOr_ap, cIf_ap, cTup_ap, cLst_ap, pNone_ap, pSome_ap, wAnd_ap, wOr_ap, wNot_ap, wTru_ap, wCmp_ap, wYes_ap, iA_ap, iS_ap, aNil_ap, aCons_ap, kR_ap, b2_ap, b3_ap, c1_ap, chainD_ap, lcF_ap, datE_ap, datB_ap, ownAt_ap, endO_rt, endO_nx, endO_exc, endO_bad, bn_ok, bn_exc, bn_bad, to_ok, to_exc, to_bad, sq_nx, sq_rt, sq_bk, sq_ct, sq_exc, sq_bad, andR_ok, orR_ok, notR_ok, andV_ok, orV_ok, notV_ok, ifV_ok, truD_b, boolD_b, intD_i, tupR0, tupR1, tupR2, tupR3, tupR4, lstR0, lstR1, lstR2, lstR3, lstR4, lstR5, lstR6, lstR7, lstR8, lstR9, negD_i, slA3_l, slA3_t, tupleD_l, tupleD_t, listD_l, listD_t, revD_t, addE_ii, subD_ii, leD_ii, ltD_ii, geD_ii, gtI_ii, eqD_ii, neD_ii, isi_tup_tup, isi_tup_list, isi_tup_none, isi_tup_int, isi_tup_bool, isi_tup_str, isi_tup_dict, isi_int_int, isi_int_bool, isi_int_none, isi_int_str, isi_int_list, isi_int_tup, isi_int_dict, isi_bool_int, isi_bool_bool, isi_bool_none, isi_bool_str, isi_bool_list, isi_bool_tup, isi_bool_dict, lenD_t, lenD_l, seqD_l, seqD_t, List.getElem?_cons_zero, List.getElem?_cons_succ, List.set_cons_zero, List.set_cons_succ, ↓reduceIte, Bool.false_eq_true, Bool.not_true, Bool.not_false, sWp_ap, sWq_ap, wipeO_nx, wipeO_rt, wipeO_bk, wipeO_ct, wipeO_exc, wipeO_bad, wipeE_nil, wipeE_cons, fzE_ap, ownO_l, asgO_2, truD_l, truD_t, datI_ap, augN_ap, zip2_tt, zip2_ll, i0, ll, sq, inner', gIns_ok hlen, lfStep]
        rfl
      · intro b mb
        rcases List.mem_cons.mp mb with rfl | mb
        · simp only [List.headD_cons, bump_len, al]
        · exact ha b mb) ⟨by simp, by simp [cntL_len], by simp; have := gk.len; omega, fun p m => gk.ed p (List.mem_reverse.mp m)⟩).1
  rw [lfN_fold] at lp
  have lp' : forL (gN 2) b_left_after_2 (ps.reverse.map edgeD) [.dat G, .own [.list ((List.replicate v.toNat 0).map .int)], .un, .un, .un] = .nx [.dat G, .own ((lfN v ps).map lI), .un, .un, .un] := lp
  simp only [f_left_after, sSeq_ap, sIf_ap, sRet_ap, sExpr_ap, sSet_ap, sSetO_ap, sFor_ap, sFz_ap, sFzb_ap, sAsg_ap, sSetItem_ap, sAugItem_ap, sAug_ap, sRaise_ap, sNil_ap, sBad_ap, mutO_ap, cA_ap, cNot_ap, cAnd_ap, cOr_ap, cIf_ap, cTup_ap, cLst_ap, pNone_ap, pSome_ap, wAnd_ap, wOr_ap, wNot_ap, wTru_ap, wCmp_ap, wYes_ap, iA_ap, iS_ap, aNil_ap, aCons_ap, kR_ap, b2_ap, b3_ap, c1_ap, chainD_ap, lcF_ap, datE_ap, datB_ap, ownAt_ap, endO_rt, endO_nx, endO_exc, endO_bad, bn_ok, bn_exc, bn_bad, to_ok, to_exc, to_bad, sq_nx, sq_rt, sq_bk, sq_ct, sq_exc, sq_bad, andR_ok, orR_ok, notR_ok, andV_ok, orV_ok, notV_ok, ifV_ok, truD_b, boolD_b, intD_i, tupR0, tupR1, tupR2, tupR3, tupR4, lstR0, lstR1, lstR2, lstR3, lstR4, lstR5, lstR6, lstR7, lstR8, lstR9, negD_i, slA3_l, slA3_t, tupleD_l, tupleD_t, listD_l, listD_t, revD_t, addE_ii, subD_ii, leD_ii, ltD_ii, geD_ii, gtI_ii, eqD_ii, neD_ii, isi_tup_tup, isi_tup_list, isi_tup_none, isi_tup_int, isi_tup_bool, isi_tup_str, isi_tup_dict, isi_int_int, isi_int_bool, isi_int_none, isi_int_str, isi_int_list, isi_int_tup, isi_int_dict, isi_bool_int, isi_bool_bool, isi_bool_none, isi_bool_str, isi_bool_list, isi_bool_tup, isi_bool_dict, lenD_t, lenD_l, seqD_l, seqD_t, List.getElem?_cons_zero, List.getElem?_cons_succ, List.set_cons_zero, List.set_cons_succ, ↓reduceIte, Bool.false_eq_true, Bool.not_true, Bool.not_false, sWp_ap, sWq_ap, wipeO_nx, wipeO_rt, wipeO_bk, wipeO_ct, wipeO_exc, wipeO_bad, wipeE_nil, wipeE_cons, fzE_ap, ownO_l, asgO_2, truD_l, truD_t, datI_ap, augN_ap, zip2_tt, zip2_ll, g0, rz, g1, hr, lp']
end Com
namespace Com
open PySem L2 DL
def unb (res : List Int) (i : Int) : List Int := res.set i.toNat (res.getD i.toNat 0 - 1)
theorem unb_len (res : List Int) (i : Int) : (unb res i).length = res.length := List.length_set
theorem unb_get {res : List Int} {i : Int} {x : Nat} (h0 : 0 ≤ i) (h : i < (res.length : Int)) : (unb res i).getD x 0 = res.getD x 0 - (if i = (x : Int) then 1 else 0) := by
  unfold unb
  by_cases e : i = (x : Int)
  · subst e
    rw [if_pos rfl, Int.toNat_natCast, List.getD_eq_getElem?_getD, List.getElem?_set_self (by omega)]
    rfl
  · rw [if_neg e, List.getD_eq_getElem?_getD, List.getElem?_set_ne (by omega), List.getD_eq_getElem?_getD]
    omega
theorem augC_sub {i : Nat} {r : En} {res : List Int} {k : Int} (h0 : 0 ≤ k) (h : k < (res.length : Int)) : augC (fun i j => i - j) i r (res.map .int) (.int k) (.int 1) = .nx (r.set i (.own ((unb res k).map .int))) := by
  unfold augC
  have e1 : ixN (res.map PyData.int).length k = some k.toNat := ixN_ok h0 (by rw [List.length_map]; exact h)
  have e2 := getD_ints (ds := res) (i := k.toNat) (by omega)
  simp only [e1, e2]
  unfold unb
  rw [List.map_set]
def unb2 (nd : List Int) (p : Int × Int) : List Int := unb (unb nd p.1) p.2
theorem unb2_len (nd : List Int) (p : Int × Int) : (unb2 nd p).length = nd.length := by rw [unb2, unb_len, unb_len]
theorem unb2_get {v : Int} {nd : List Int} {p : Int × Int} (hp : 0 ≤ p.1 ∧ p.1 < p.2 ∧ p.2 < v) (hl : nd.length = v.toNat) (x : Nat) : (unb2 nd p).getD x 0 = nd.getD x 0 - tc p x := by
  unfold unb2
  rw [unb_get (by omega) (by rw [unb_len]; omega), unb_get (by omega) (by omega)]
  unfold tc
  omega
/-! ### the ways to meet what is needed -/
def chs : List (Int × Int) → Int → List Int → List (List Int)
  | [], _, nd => if nd.all (fun n => decide (n = 0)) then [[]] else []
  | q :: qs, k, nd => (chs qs (k + 1) (unb2 nd q)).map (k :: ·) ++ chs qs (k + 1) nd
theorem all0 {nd : List Int} : nd.all (fun n => decide (n = 0)) = true ↔ ∀ x : Nat, nd.getD x 0 = 0 := by
  rw [List.all_eq_true]
  constructor
  · intro h x
    by_cases hx : x < nd.length
    · have := h nd[x] (List.getElem_mem hx)
      rw [List.getD_eq_getElem?_getD, List.getElem?_eq_getElem hx]
      exact of_decide_eq_true this
    · exact getD_out (by omega)
  · intro h n m
    obtain ⟨x, hx, rfl⟩ := List.getElem_of_mem m
    have := h x
    rw [List.getD_eq_getElem?_getD, List.getElem?_eq_getElem hx] at this
    exact decide_eq_true this
theorem csum_nn : ∀ (qs : List (Int × Int)) (x : Nat), 0 ≤ csum qs x
  | [], _ => Int.le_refl 0
  | q :: qs, x => by
    rw [csum_cons]
    have := tc_nn q x
    have := csum_nn qs x
    omega
theorem chs_len : ∀ (qs : List (Int × Int)) (k : Int) (nd : List Int), ∀ c ∈ chs qs k nd, c.length ≤ qs.length
  | [], k, nd, c, h => by
    unfold chs at h
    split at h
    · rw [List.mem_singleton] at h; subst h; exact Nat.le_refl 0
    · cases h
  | q :: qs, k, nd, c, h => by
    rw [chs, List.mem_append, List.mem_map] at h
    rcases h with ⟨d, hd, rfl⟩ | h
    · have := chs_len qs _ _ d hd
      simp only [List.length_cons]; omega
    · have := chs_len qs _ _ c h
      simp only [List.length_cons]; omega
theorem chs_many : ∀ (qs : List (Int × Int)) (k : Int) (nd : List Int), (chs qs k nd).length ≤ 2 ^ qs.length
  | [], k, nd => by
    unfold chs
    split <;> simp
  | q :: qs, k, nd => by
    rw [chs, List.length_append, List.length_map, List.length_cons, Nat.pow_succ]
    have := chs_many qs (k + 1) (unb2 nd q)
    have := chs_many qs (k + 1) nd
    omega
theorem chs_no {v : Int} : ∀ (qs : List (Int × Int)) (k : Int) (nd : List Int), (∀ p ∈ qs, 0 ≤ p.1 ∧ p.1 < p.2 ∧ p.2 < v) → nd.length = v.toNat → (∃ x : Nat, nd.getD x 0 < 0 ∨ csum qs x < nd.getD x 0) → chs qs k nd = []
  | [], k, nd, _, _, ⟨x, h⟩ => by
    unfold chs
    rw [if_neg]
    intro e
    have := all0.mp e x
    have z : csum [] x = 0 := rfl
    omega
  | q :: qs, k, nd, hp, hl, ⟨x, h⟩ => by
    have hq := hp q List.mem_cons_self
    have hq' : ∀ p ∈ qs, 0 ≤ p.1 ∧ p.1 < p.2 ∧ p.2 < v := fun p m => hp p (List.mem_cons_of_mem _ m)
    rw [csum_cons] at h
    have t0 := tc_nn q x
    rw [chs, chs_no qs (k + 1) (unb2 nd q) hq' (by rw [unb2_len, hl]) ⟨x, by rw [unb2_get hq hl]; omega⟩, chs_no qs (k + 1) nd hq' hl ⟨x, by omega⟩]
    rfl
def badPair (a : Int × Int) : Bool := decide (a.1 < 0) || decide (a.2 < a.1)
def prD (a : Int × Int) : PyData := .tuple [.int a.1, .int a.2]
theorem zipD_ints (as bs : List Int) : zipD (as.map .int) (bs.map .int) = (as.zip bs).map prD := by
  unfold zipD
  induction as generalizing bs with
  | nil => rfl
  | cons a as ih =>
    cases bs with
    | nil => rfl
    | cons b bs =>
      simp only [List.map_cons, List.zip_cons_cons, ih]
      rfl
theorem zip_bad {as bs : List Int} (hl : as.length = bs.length) : ((as.zip bs).filter badPair).isEmpty = true ↔ ∀ x : Nat, 0 ≤ as.getD x 0 ∧ as.getD x 0 ≤ bs.getD x 0 := by
  rw [List.isEmpty_iff, List.filter_eq_nil_iff]
  constructor
  · intro h x
    by_cases hx : x < as.length
    · have m : (as[x], bs[x]) ∈ as.zip bs := by
        rw [List.mem_iff_getElem?]
        exact ⟨x, List.getElem?_zip_eq_some.mpr ⟨List.getElem?_eq_getElem hx, List.getElem?_eq_getElem (by omega)⟩⟩
      have := h _ m
      rw [List.getD_eq_getElem?_getD, List.getD_eq_getElem?_getD, List.getElem?_eq_getElem hx, List.getElem?_eq_getElem (show x < bs.length by omega)]
      simp [badPair] at this
      simpa using this
    · rw [getD_out (by omega), getD_out (by omega)]
      exact ⟨Int.le_refl 0, Int.le_refl 0⟩
  · rintro h ⟨a, b⟩ m e
    rw [List.mem_iff_getElem?] at m
    obtain ⟨x, hx⟩ := m
    obtain ⟨h1, h2⟩ := List.getElem?_zip_eq_some.mp hx
    have := h x
    rw [List.getD_eq_getElem?_getD, List.getD_eq_getElem?_getD, h1, h2] at this
    simp [badPair] at e
    simp at this
    omega
theorem add1_t {k : Int} {c : List Int} (h : c.length ≤ 1000) : addE (.tuple [.int k]) (tI c) = .ok (tI (k :: c)) := addE_tt (by
  have := sz1000000
  rw [List.length_cons, List.length_nil, List.length_map]; omega)
theorem extend_eq {v : Int} {ps : List (Int × Int)} (gk : Gok v ps) : ∀ (qs pre : List (Int × Int)) (nd : List Int) (most : Int) (n : Nat), ps = pre ++ qs → nd.length = v.toNat → 1 ≤ most → most ≤ 100000 → qs.length < n →
    fuelF s_extend_ n [graphD v ps, .list ((lfN v ps).map lI), lI nd, .int (pre.length : Int), .int most] = .ok (.list (((chs qs pre.length nd).take most.toNat).map tI))
  | qs, pre, nd, most, 0, _, _, _, _, hn => by omega
  | qs, pre, nd, most, n + 1, hps, hl, h1, h2, hn => by
    show s_extend_ (fuelF s_extend_ n) _ = _
    rw [r_extend_]
    have g1 : ixD (graphD v ps) (.int 1) = .ok (.tuple (ps.map edgeD)) := gix1
    have dr : ps.drop pre.length = qs := by rw [hps]; exact List.drop_left
    have pl : ps.length = pre.length + qs.length := by rw [hps, List.length_append]
    have lx : ixD (.list ((lfN v ps).map lI)) (.int (pre.length : Int)) = .ok (lI (cntL v qs)) := by
      refine ix_l (Int.natCast_nonneg _) ?_
      rw [Int.toNat_natCast, List.getElem?_map, lfN_get v ps pre.length (by omega), dr]
      rfl
    have he : ∀ p ∈ qs, 0 ≤ p.1 ∧ p.1 < p.2 ∧ p.2 < v := fun p m => gk.ed p (by rw [hps]; exact List.mem_append_right _ m)
    have hv := gk.lo
    have ep : ∀ nd' most' k', nd'.length = v.toNat → 1 ≤ most' → most' ≤ 100000 → (∀ q qs', qs = q :: qs' → k' = ((pre ++ [q]).length : Int) → fuelF s_extend_ n [graphD v ps, .list ((lfN v ps).map lI), lI nd', .int k', .int most'] = .ok (.list (((chs qs' k' nd').take most'.toNat).map tI))) := by
      intro nd' most' k' a1 a2 a3 q qs' eq ek
      subst ek
      exact extend_eq gk qs' (pre ++ [q]) nd' most' n (by rw [hps, eq, List.append_assoc]; rfl) a1 a2 a3 (by rw [eq, List.length_cons] at hn; omega)
    generalize hG : graphD v ps = G at *
    generalize hL : PyData.list ((lfN v ps).map lI) = L at *
    generalize hF : fuelF s_extend_ n = gg at *
    have z2 : zip2 [lI nd, lI (cntL v qs)] = .ok ((nd.zip (cntL v qs)).map prD) := by
      rw [← zipD_ints]
      rfl
    have cm := compM (ft := gT (gsC (gN 9) (gsC (gN 10) gsN))) (fc := ct_extend_1 gg) (fe := kR (.int 1)) (r0 := [.dat G, .dat L, .dat (lI nd), .dat (.int (pre.length : Int)), .dat (.int most), .un, .un, .un, .un, .un, .un, .un]) prD badPair (fun _ => .int 1) (nd.zip (cntL v qs)) (by
      rintro ⟨a, b⟩ _
      refine ⟨_, rfl, ?_, fun _ => rfl⟩
      unfold badPair
      by_cases h : a < 0 <;> simp [ct_extend_1, sSeq_ap, sIf_ap, sRet_ap, sExpr_ap, sSet_ap, sSetO_ap, sFor_ap, sFz_ap, sFzb_ap, sAsg_ap, sSetItem_ap, sAugItem_ap, sAug_ap, sRaise_ap, sNil_ap, sBad_ap, mutO_ap, cA_ap, cNot_ap, cAnd_ap, cOr_ap, cIf_ap, cTup_ap, cLst_ap, pNone_ap, pSome_ap, wAnd_ap, wOr_ap, wNot_ap, wTru_ap, wCmp_ap, wYes_ap, iA_ap, iS_ap, aNil_ap, aCons_ap, kR_ap, b2_ap, b3_ap, c1_ap, chainD_ap, lcF_ap, datE_ap, datB_ap, ownAt_ap, endO_rt, endO_nx, endO_exc, endO_bad, bn_ok, bn_exc, bn_bad, to_ok, to_exc, to_bad, sq_nx, sq_rt, sq_bk, sq_ct, sq_exc, sq_bad, andR_ok, orR_ok, notR_ok, andV_ok, orV_ok, notV_ok, ifV_ok, truD_b, boolD_b, intD_i, tupR0, tupR1, tupR2, tupR3, tupR4, lstR0, lstR1, lstR2, lstR3, lstR4, lstR5, lstR6, lstR7, lstR8, lstR9, negD_i, slA3_l, slA3_t, tupleD_l, tupleD_t, listD_l, listD_t, revD_t, addE_ii, subD_ii, leD_ii, ltD_ii, geD_ii, gtI_ii, eqD_ii, neD_ii, isi_tup_tup, isi_tup_list, isi_tup_none, isi_tup_int, isi_tup_bool, isi_tup_str, isi_tup_dict, isi_int_int, isi_int_bool, isi_int_none, isi_int_str, isi_int_list, isi_int_tup, isi_int_dict, isi_bool_int, isi_bool_bool, isi_bool_none, isi_bool_str, isi_bool_list, isi_bool_tup, isi_bool_dict, lenD_t, lenD_l, seqD_l, seqD_t, List.getElem?_cons_zero, List.getElem?_cons_succ, List.set_cons_zero, List.set_cons_succ, ↓reduceIte, Bool.false_eq_true, Bool.not_true, Bool.not_false, sWp_ap, sWq_ap, wipeO_nx, wipeO_rt, wipeO_bk, wipeO_ct, wipeO_exc, wipeO_bad, wipeE_nil, wipeE_cons, fzE_ap, ownO_l, asgO_2, truD_l, truD_t, datI_ap, augN_ap, zip2_tt, zip2_ll, h])
    have ce : ((nd.zip (cntL v qs)).filter badPair |>.map fun _ => PyData.int 1).isEmpty = ((nd.zip (cntL v qs)).filter badPair).isEmpty := List.isEmpty_map
    have ln : lenD (.tuple (ps.map edgeD)) = .ok (.int (ps.length : Int)) := glen
    cases hb : ((nd.zip (cntL v qs)).filter badPair).isEmpty with
    | false =>
      have : chs qs pre.length nd = [] := by
        refine chs_no qs _ nd he hl ?_
        have hh : ¬ ∀ x : Nat, 0 ≤ nd.getD x 0 ∧ nd.getD x 0 ≤ (cntL v qs).getD x 0 := fun z => by
          rw [(zip_bad (by rw [hl, cntL_len])).mpr z] at hb
          cases hb
        rw [Classical.not_forall] at hh
        obtain ⟨x, hx⟩ := hh
        rw [cntL_get (by omega) he] at hx
        exact ⟨x, by omega⟩
      rw [this]
      simp only [f_extend, sSeq_ap, sIf_ap, sRet_ap, sExpr_ap, sSet_ap, sSetO_ap, sFor_ap, sFz_ap, sFzb_ap, sAsg_ap, sSetItem_ap, sAugItem_ap, sAug_ap, sRaise_ap, sNil_ap, sBad_ap, mutO_ap, cA_ap, cNot_ap, cAnd_ap, cOr_ap, cIf_ap, cTup_ap, cLst_ap, pNone_ap, pSome_ap, wAnd_ap, wOr_ap, wNot_ap, wTru_ap, wCmp_ap, wYes_ap, iA_ap, iS_ap, aNil_ap, aCons_ap, kR_ap, b2_ap, b3_ap, c1_ap, chainD_ap, lcF_ap, datE_ap, datB_ap, ownAt_ap, endO_rt, endO_nx, endO_exc, endO_bad, bn_ok, bn_exc, bn_bad, to_ok, to_exc, to_bad, sq_nx, sq_rt, sq_bk, sq_ct, sq_exc, sq_bad, andR_ok, orR_ok, notR_ok, andV_ok, orV_ok, notV_ok, ifV_ok, truD_b, boolD_b, intD_i, tupR0, tupR1, tupR2, tupR3, tupR4, lstR0, lstR1, lstR2, lstR3, lstR4, lstR5, lstR6, lstR7, lstR8, lstR9, negD_i, slA3_l, slA3_t, tupleD_l, tupleD_t, listD_l, listD_t, revD_t, addE_ii, subD_ii, leD_ii, ltD_ii, geD_ii, gtI_ii, eqD_ii, neD_ii, isi_tup_tup, isi_tup_list, isi_tup_none, isi_tup_int, isi_tup_bool, isi_tup_str, isi_tup_dict, isi_int_int, isi_int_bool, isi_int_none, isi_int_str, isi_int_list, isi_int_tup, isi_int_dict, isi_bool_int, isi_bool_bool, isi_bool_none, isi_bool_str, isi_bool_list, isi_bool_tup, isi_bool_dict, lenD_t, lenD_l, seqD_l, seqD_t, List.getElem?_cons_zero, List.getElem?_cons_succ, List.set_cons_zero, List.set_cons_succ, ↓reduceIte, Bool.false_eq_true, Bool.not_true, Bool.not_false, sWp_ap, sWq_ap, wipeO_nx, wipeO_rt, wipeO_bk, wipeO_ct, wipeO_exc, wipeO_bad, wipeE_nil, wipeE_cons, fzE_ap, ownO_l, asgO_2, truD_l, truD_t, datI_ap, augN_ap, zip2_tt, zip2_ll, lx, z2, cm, ce, hb, List.take_nil, List.map_nil]
    | true =>
      have hb' := (zip_bad (by rw [hl, cntL_len])).mp hb
      cases hq : qs with
      | nil =>
        subst hq
        have e0 : chs [] pre.length nd = [[]] := by
          unfold chs
          rw [if_pos]
          refine all0.mpr fun x => ?_
          have := hb' x
          rw [cntL_get (by omega) he] at this
          have z : csum [] x = 0 := rfl
          omega
        have tk : ([[]] : List (List Int)).take most.toNat = [[]] := List.take_of_length_le (by simp; omega)
        have pe : decide ((pre.length : Int) = (ps.length : Int)) = true := decide_eq_true (by rw [pl]; simp)
        rw [e0, tk]
        simp only [f_extend, sSeq_ap, sIf_ap, sRet_ap, sExpr_ap, sSet_ap, sSetO_ap, sFor_ap, sFz_ap, sFzb_ap, sAsg_ap, sSetItem_ap, sAugItem_ap, sAug_ap, sRaise_ap, sNil_ap, sBad_ap, mutO_ap, cA_ap, cNot_ap, cAnd_ap, cOr_ap, cIf_ap, cTup_ap, cLst_ap, pNone_ap, pSome_ap, wAnd_ap, wOr_ap, wNot_ap, wTru_ap, wCmp_ap, wYes_ap, iA_ap, iS_ap, aNil_ap, aCons_ap, kR_ap, b2_ap, b3_ap, c1_ap, chainD_ap, lcF_ap, datE_ap, datB_ap, ownAt_ap, endO_rt, endO_nx, endO_exc, endO_bad, bn_ok, bn_exc, bn_bad, to_ok, to_exc, to_bad, sq_nx, sq_rt, sq_bk, sq_ct, sq_exc, sq_bad, andR_ok, orR_ok, notR_ok, andV_ok, orV_ok, notV_ok, ifV_ok, truD_b, boolD_b, intD_i, tupR0, tupR1, tupR2, tupR3, tupR4, lstR0, lstR1, lstR2, lstR3, lstR4, lstR5, lstR6, lstR7, lstR8, lstR9, negD_i, slA3_l, slA3_t, tupleD_l, tupleD_t, listD_l, listD_t, revD_t, addE_ii, subD_ii, leD_ii, ltD_ii, geD_ii, gtI_ii, eqD_ii, neD_ii, isi_tup_tup, isi_tup_list, isi_tup_none, isi_tup_int, isi_tup_bool, isi_tup_str, isi_tup_dict, isi_int_int, isi_int_bool, isi_int_none, isi_int_str, isi_int_list, isi_int_tup, isi_int_dict, isi_bool_int, isi_bool_bool, isi_bool_none, isi_bool_str, isi_bool_list, isi_bool_tup, isi_bool_dict, lenD_t, lenD_l, seqD_l, seqD_t, List.getElem?_cons_zero, List.getElem?_cons_succ, List.set_cons_zero, List.set_cons_succ, ↓reduceIte, Bool.false_eq_true, Bool.not_true, Bool.not_false, sWp_ap, sWq_ap, wipeO_nx, wipeO_rt, wipeO_bk, wipeO_ct, wipeO_exc, wipeO_bad, wipeE_nil, wipeE_cons, fzE_ap, ownO_l, asgO_2, truD_l, truD_t, datI_ap, augN_ap, zip2_tt, zip2_ll, lx, z2, cm, ce, hb, g1, ln, pe]
        rfl
      | cons q qs' =>
        have ne : decide ((pre.length : Int) = (ps.length : Int)) = false := decide_eq_false (by rw [pl, hq, List.length_cons]; omega)
        have hql : q ∈ qs := hq ▸ List.mem_cons_self
        obtain ⟨q0, q1, q2⟩ := he q hql
        have ie : ixD (.tuple (ps.map edgeD)) (.int (pre.length : Int)) = .ok (edgeD q) := by
          refine ix_t (Int.natCast_nonneg _) ?_
          rw [Int.toNat_natCast, List.getElem?_map, hps, hq, List.getElem?_append_right (Nat.le_refl _), Nat.sub_self]
          rfl
        have as : ∀ r : En, asgO (gT (gsC (gN 5) (gsC (gN 6) gsN))) r (edgeD q) = .nx ((r.set 5 (.dat (.int q.1))).set 6 (.dat (.int q.2))) := fun r => rfl
        have ll : listD (lI nd) = .ok (.list (nd.map .int)) := rfl
        have u1 : ∀ r, augC (fun i j => i - j) 7 r (nd.map .int) (.int q.1) (.int 1) = .nx (r.set 7 (.own ((unb nd q.1).map .int))) := fun r => augC_sub q0 (by omega)
        have u2 : ∀ r, augC (fun i j => i - j) 7 r ((unb nd q.1).map .int) (.int q.2) (.int 1) = .nx (r.set 7 (.own ((unb2 nd q).map .int))) := fun r => augC_sub (by omega) (by rw [unb_len]; omega)
        have kk : (pre.length : Int) + 1 = ((pre ++ [q]).length : Int) := by rw [List.length_append]; rfl
        have r1 := ep (unb2 nd q) most _ (by rw [unb2_len, hl]) h1 h2 q qs' hq kk
        have r1' : gg [G, L, .list ((unb2 nd q).map .int), .int ((pre.length : Int) + 1), .int most] = .ok (.list (((chs qs' ((pre.length : Int) + 1) (unb2 nd q)).take most.toNat).map tI)) := r1
        have sqA : ∀ xs : List PyData, seqD (.list xs) = .ok xs := fun _ => rfl
        have mn := chs_many qs' ((pre.length : Int) + 1) (unb2 nd q)
        have mn2 := chs_many qs' ((pre.length : Int) + 1) nd
        have q12 : qs'.length ≤ 12 := by
          have := gk.len
          rw [pl, hq, List.length_cons] at this
          omega
        have p12 : 2 ^ qs'.length ≤ 2 ^ 12 := Nat.pow_le_pow_right (by decide) q12
        have cl := chs_len qs' ((pre.length : Int) + 1) (unb2 nd q)
        have ec : chs (q :: qs') pre.length nd = (chs qs' ((pre.length : Int) + 1) (unb2 nd q)).map (((pre.length : Int)) :: ·) ++ chs qs' ((pre.length : Int) + 1) nd := rfl
        rw [ec]
        have r2o := fun m a b => ep nd m _ hl a b q qs' hq kk
        generalize hA : chs qs' ((pre.length : Int) + 1) (unb2 nd q) = A at *
        generalize hB : chs qs' ((pre.length : Int) + 1) nd = B at *
        have cm2 := compM (ft := gN 11) (fc := wYes) (fe := ce_extend_1 gg) (r0 := [.dat G, .dat L, .dat (lI nd), .dat (.int (pre.length : Int)), .dat (.int most), .dat (.int q.1), .dat (.int q.2), .dat (.list ((unb2 nd q).map .int)), .un, .un, .un, .un]) tI (fun _ => true) (fun c => tI ((pre.length : Int) :: c)) (A.take most.toNat) (by
          intro c mc
          have hc := cl c (List.mem_of_mem_take mc)
          refine ⟨_, rfl, rfl, fun _ => ?_⟩
          simp only [ce_extend_1, sSeq_ap, sIf_ap, sRet_ap, sExpr_ap, sSet_ap, sSetO_ap, sFor_ap, sFz_ap, sFzb_ap, sAsg_ap, sSetItem_ap, sAugItem_ap, sAug_ap, sRaise_ap, sNil_ap, sBad_ap, mutO_ap, cA_ap, cNot_ap, cAnd_ap, cOr_ap, cIf_ap, cTup_ap, cLst_ap, pNone_ap, pSome_ap, wAnd_ap, wOr_ap, wNot_ap, wTru_ap, wCmp_ap, wYes_ap, iA_ap, iS_ap, aNil_ap, aCons_ap, kR_ap, b2_ap, b3_ap, c1_ap, chainD_ap, lcF_ap, datE_ap, datB_ap, ownAt_ap, endO_rt, endO_nx, endO_exc, endO_bad, bn_ok, bn_exc, bn_bad, to_ok, to_exc, to_bad, sq_nx, sq_rt, sq_bk, sq_ct, sq_exc, sq_bad, andR_ok, orR_ok, notR_ok, andV_ok, orV_ok, notV_ok, ifV_ok, truD_b, boolD_b, intD_i, tupR0, tupR1, tupR2, tupR3, tupR4, lstR0, lstR1, lstR2, lstR3, lstR4, lstR5, lstR6, lstR7, lstR8, lstR9, negD_i, slA3_l, slA3_t, tupleD_l, tupleD_t, listD_l, listD_t, revD_t, addE_ii, subD_ii, leD_ii, ltD_ii, geD_ii, gtI_ii, eqD_ii, neD_ii, isi_tup_tup, isi_tup_list, isi_tup_none, isi_tup_int, isi_tup_bool, isi_tup_str, isi_tup_dict, isi_int_int, isi_int_bool, isi_int_none, isi_int_str, isi_int_list, isi_int_tup, isi_int_dict, isi_bool_int, isi_bool_bool, isi_bool_none, isi_bool_str, isi_bool_list, isi_bool_tup, isi_bool_dict, lenD_t, lenD_l, seqD_l, seqD_t, List.getElem?_cons_zero, List.getElem?_cons_succ, List.set_cons_zero, List.set_cons_succ, ↓reduceIte, Bool.false_eq_true, Bool.not_true, Bool.not_false, sWp_ap, sWq_ap, wipeO_nx, wipeO_rt, wipeO_bk, wipeO_ct, wipeO_exc, wipeO_bad, wipeE_nil, wipeE_cons, fzE_ap, ownO_l, asgO_2, truD_l, truD_t, datI_ap, augN_ap, zip2_tt, zip2_ll, add1_t (show c.length ≤ 1000 by omega)])
        rw [filt_true] at cm2
        have lt : ((A.take most.toNat).map fun c => tI ((pre.length : Int) :: c)).length = (A.take most.toNat).length := List.length_map _
        have sz := sz1000000
        by_cases hlt : ((A.take most.toNat).length : Int) < most
        · have tA : A.take most.toNat = A := by
            rw [List.length_take] at hlt
            exact List.take_of_length_le (by omega)
          rw [tA] at cm2 hlt r1' lt
          have r2 := r2o (most - (A.length : Int)) (by omega) (by omega)
          have ex : gExt (A.map fun c => tI ((pre.length : Int) :: c)) [.list ((B.take (most - (A.length : Int)).toNat).map tI)] = some (A.map (fun c => tI ((pre.length : Int) :: c)) ++ (B.take (most - (A.length : Int)).toNat).map tI) := gExt_ok (by
            rw [List.length_map, List.length_map, List.length_take]
            omega)
          have fin : (A.map (fun c => tI ((pre.length : Int) :: c)) ++ (B.take (most - (A.length : Int)).toNat).map tI) = ((A.map (((pre.length : Int)) :: ·) ++ B).take most.toNat).map tI := by
            rw [List.take_append, List.length_map, List.map_append, List.take_of_length_le (l := A.map (((pre.length : Int)) :: ·)) (by rw [List.length_map]; omega), List.map_map]
            have e : (most - (A.length : Int)).toNat = most.toNat - A.length := by omega
            rw [e]
            rfl
          simp only [f_extend, sSeq_ap, sIf_ap, sRet_ap, sExpr_ap, sSet_ap, sSetO_ap, sFor_ap, sFz_ap, sFzb_ap, sAsg_ap, sSetItem_ap, sAugItem_ap, sAug_ap, sRaise_ap, sNil_ap, sBad_ap, mutO_ap, cA_ap, cNot_ap, cAnd_ap, cOr_ap, cIf_ap, cTup_ap, cLst_ap, pNone_ap, pSome_ap, wAnd_ap, wOr_ap, wNot_ap, wTru_ap, wCmp_ap, wYes_ap, iA_ap, iS_ap, aNil_ap, aCons_ap, kR_ap, b2_ap, b3_ap, c1_ap, chainD_ap, lcF_ap, datE_ap, datB_ap, ownAt_ap, endO_rt, endO_nx, endO_exc, endO_bad, bn_ok, bn_exc, bn_bad, to_ok, to_exc, to_bad, sq_nx, sq_rt, sq_bk, sq_ct, sq_exc, sq_bad, andR_ok, orR_ok, notR_ok, andV_ok, orV_ok, notV_ok, ifV_ok, truD_b, boolD_b, intD_i, tupR0, tupR1, tupR2, tupR3, tupR4, lstR0, lstR1, lstR2, lstR3, lstR4, lstR5, lstR6, lstR7, lstR8, lstR9, negD_i, slA3_l, slA3_t, tupleD_l, tupleD_t, listD_l, listD_t, revD_t, addE_ii, subD_ii, leD_ii, ltD_ii, geD_ii, gtI_ii, eqD_ii, neD_ii, isi_tup_tup, isi_tup_list, isi_tup_none, isi_tup_int, isi_tup_bool, isi_tup_str, isi_tup_dict, isi_int_int, isi_int_bool, isi_int_none, isi_int_str, isi_int_list, isi_int_tup, isi_int_dict, isi_bool_int, isi_bool_bool, isi_bool_none, isi_bool_str, isi_bool_list, isi_bool_tup, isi_bool_dict, lenD_t, lenD_l, seqD_l, seqD_t, List.getElem?_cons_zero, List.getElem?_cons_succ, List.set_cons_zero, List.set_cons_succ, ↓reduceIte, Bool.false_eq_true, Bool.not_true, Bool.not_false, sWp_ap, sWq_ap, wipeO_nx, wipeO_rt, wipeO_bk, wipeO_ct, wipeO_exc, wipeO_bad, wipeE_nil, wipeE_cons, fzE_ap, ownO_l, asgO_2, truD_l, truD_t, datI_ap, augN_ap, zip2_tt, zip2_ll, lx, z2, cm, ce, hb, g1, ln, ne, ie, as, ll, u1, u2, r1', cm2, lt, decide_eq_true hlt, r2, ex, fin]
        · have fin : ((A.take most.toNat).map fun c => tI ((pre.length : Int) :: c)) = ((A.map (((pre.length : Int)) :: ·) ++ B).take most.toNat).map tI := by
            rw [List.take_append, List.length_map]
            have e : most.toNat - A.length = 0 := by
              rw [List.length_take] at hlt
              omega
            rw [e, List.take_zero, List.append_nil, ← List.map_take, List.map_map]
            rfl
          rw [← fin]
          simp only [f_extend, sSeq_ap, sIf_ap, sRet_ap, sExpr_ap, sSet_ap, sSetO_ap, sFor_ap, sFz_ap, sFzb_ap, sAsg_ap, sSetItem_ap, sAugItem_ap, sAug_ap, sRaise_ap, sNil_ap, sBad_ap, mutO_ap, cA_ap, cNot_ap, cAnd_ap, cOr_ap, cIf_ap, cTup_ap, cLst_ap, pNone_ap, pSome_ap, wAnd_ap, wOr_ap, wNot_ap, wTru_ap, wCmp_ap, wYes_ap, iA_ap, iS_ap, aNil_ap, aCons_ap, kR_ap, b2_ap, b3_ap, c1_ap, chainD_ap, lcF_ap, datE_ap, datB_ap, ownAt_ap, endO_rt, endO_nx, endO_exc, endO_bad, bn_ok, bn_exc, bn_bad, to_ok, to_exc, to_bad, sq_nx, sq_rt, sq_bk, sq_ct, sq_exc, sq_bad, andR_ok, orR_ok, notR_ok, andV_ok, orV_ok, notV_ok, ifV_ok, truD_b, boolD_b, intD_i, tupR0, tupR1, tupR2, tupR3, tupR4, lstR0, lstR1, lstR2, lstR3, lstR4, lstR5, lstR6, lstR7, lstR8, lstR9, negD_i, slA3_l, slA3_t, tupleD_l, tupleD_t, listD_l, listD_t, revD_t, addE_ii, subD_ii, leD_ii, ltD_ii, geD_ii, gtI_ii, eqD_ii, neD_ii, isi_tup_tup, isi_tup_list, isi_tup_none, isi_tup_int, isi_tup_bool, isi_tup_str, isi_tup_dict, isi_int_int, isi_int_bool, isi_int_none, isi_int_str, isi_int_list, isi_int_tup, isi_int_dict, isi_bool_int, isi_bool_bool, isi_bool_none, isi_bool_str, isi_bool_list, isi_bool_tup, isi_bool_dict, lenD_t, lenD_l, seqD_l, seqD_t, List.getElem?_cons_zero, List.getElem?_cons_succ, List.set_cons_zero, List.set_cons_succ, ↓reduceIte, Bool.false_eq_true, Bool.not_true, Bool.not_false, sWp_ap, sWq_ap, wipeO_nx, wipeO_rt, wipeO_bk, wipeO_ct, wipeO_exc, wipeO_bad, wipeE_nil, wipeE_cons, fzE_ap, ownO_l, asgO_2, truD_l, truD_t, datI_ap, augN_ap, zip2_tt, zip2_ll, lx, z2, cm, ce, hb, g1, ln, ne, ie, as, ll, u1, u2, r1', cm2, lt, decide_eq_false hlt]
end Com
namespace Com
open PySem L2 DL
theorem powF_clen : ∀ (m : Nat) (k : Int) (c : List Int), c ∈ powF m k → c.length ≤ m
  | 0, k, c, h => by
    rw [powF, List.mem_singleton] at h
    subst h
    exact Nat.le_refl 0
  | m + 1, k, c, h => by
    rw [powF, List.mem_append, List.mem_map] at h
    rcases h with ⟨d, hd, rfl⟩ | h
    · have := powF_clen m (k + 1) d hd
      simp only [List.length_cons]; omega
    · have := powF_clen m (k + 1) c h
      omega
theorem eg_at {ps pre qs : List (Int × Int)} {q : Int × Int} (h : ps = pre ++ q :: qs) : eg ps (pre.length : Int) = q := by
  unfold eg
  rw [Int.toNat_natCast, h, List.getD_eq_getElem?_getD, List.getElem?_append_right (Nat.le_refl _), Nat.sub_self]
  rfl
theorem chs_powF {v : Int} {ps : List (Int × Int)} (gk : Gok v ps) : ∀ (qs pre : List (Int × Int)) (nd : List Int), ps = pre ++ qs → nd.length = v.toNat →
    chs qs pre.length nd = (powF qs.length pre.length).filter fun c => decide (degL v ps c = nd)
  | [], pre, nd, hps, hl => by
    have e : degL v ps [] = nd ↔ ∀ x : Nat, nd.getD x 0 = 0 := (degL_eq_iff gk (by simp) hl).trans ⟨fun h x => (h x).symm, fun h x => (h x).symm⟩
    show (if nd.all (fun n => decide (n = 0)) = true then [[]] else []) = [[]].filter _
    rw [List.filter_cons]
    by_cases h : ∀ x : Nat, nd.getD x 0 = 0
    · rw [if_pos (all0.mpr h), if_pos (decide_eq_true (e.mpr h))]
      rfl
    · rw [if_neg (fun z => h (all0.mp z)), if_neg (fun z => h (e.mp (of_decide_eq_true z)))]
      rfl
  | q :: qs, pre, nd, hps, hl => by
    have pl : ps.length = pre.length + (qs.length + 1) := by rw [hps, List.length_append, List.length_cons]
    have hq : 0 ≤ q.1 ∧ q.1 < q.2 ∧ q.2 < v := gk.ed q (by rw [hps]; simp)
    have kk : (pre.length : Int) + 1 = ((pre ++ [q]).length : Int) := by rw [List.length_append]; rfl
    have hps' : ps = (pre ++ [q]) ++ qs := by rw [hps, List.append_assoc]; rfl
    have i1 := chs_powF gk qs (pre ++ [q]) (unb2 nd q) hps' (by rw [unb2_len, hl])
    have i2 := chs_powF gk qs (pre ++ [q]) nd hps' hl
    rw [← kk] at i1 i2
    rw [chs, i1, i2, List.length_cons, powF, List.filter_append, List.filter_map]
    refine congrArg (fun z => List.map (((pre.length : Int)) :: ·) z ++ _) (List.filter_congr fun c mc => ?_)
    have hc : ∀ z ∈ c, 0 ≤ z ∧ z < (ps.length : Int) := fun z hz => by
      have := powF_in _ _ c mc z hz
      omega
    have hc' : ∀ z ∈ (pre.length : Int) :: c, 0 ≤ z ∧ z < (ps.length : Int) := fun z hz => by
      rcases List.mem_cons.mp hz with rfl | hz
      · omega
      · exact hc z hz
    show decide (degL v ps c = unb2 nd q) = decide (degL v ps ((pre.length : Int) :: c) = nd)
    refine decide_eq_decide.mpr ?_
    rw [degL_eq_iff gk hc (by rw [unb2_len, hl]), degL_eq_iff gk hc' hl]
    refine forall_congr' fun x => ?_
    rw [unb2_get hq hl, dgx_cons, eg_at hps]
    omega
theorem chs_all {v : Int} {ps : List (Int × Int)} (gk : Gok v ps) {ws : List Int} (hl : ws.length = v.toNat) : chs ps 0 ws = allC v ps ws := chs_powF gk ps [] ws rfl hl
/-- up to so many complete choices -/
theorem some_choices_eq {v : Int} {ps : List (Int × Int)} (gk : Gok v ps) {ws : List Int} (hl : ws.length = v.toNat) {W : PyData} (hW : listD W = .ok (lI ws)) {m : Int} (h1 : 1 ≤ m) (h2 : m ≤ 100000) :
    m_some_choices [graphD v ps, W, .int m] = .ok (.list (((allC v ps ws).take m.toNat).map tI)) := by
  rw [r_some_choices]
  have e := extend_eq gk ps [] ws m 16 rfl hl h1 h2 (by have := gk.len; omega)
  have e' : m_extend [graphD v ps, .list ((lfN v ps).map lI), lI ws, .int 0, .int m] = .ok (.list (((chs ps 0 ws).take m.toNat).map tI)) := e
  rw [chs_all gk hl] at e'
  simp only [f_some_choices, sSeq_ap, sIf_ap, sRet_ap, sExpr_ap, sSet_ap, sSetO_ap, sFor_ap, sFz_ap, sFzb_ap, sAsg_ap, sSetItem_ap, sAugItem_ap, sAug_ap, sRaise_ap, sNil_ap, sBad_ap, mutO_ap, cA_ap, cNot_ap, cAnd_ap, cOr_ap, cIf_ap, cTup_ap, cLst_ap, pNone_ap, pSome_ap, wAnd_ap, wOr_ap, wNot_ap, wTru_ap, wCmp_ap, wYes_ap, iA_ap, iS_ap, aNil_ap, aCons_ap, kR_ap, b2_ap, b3_ap, c1_ap, chainD_ap, lcF_ap, datE_ap, datB_ap, ownAt_ap, endO_rt, endO_nx, endO_exc, endO_bad, bn_ok, bn_exc, bn_bad, to_ok, to_exc, to_bad, sq_nx, sq_rt, sq_bk, sq_ct, sq_exc, sq_bad, andR_ok, orR_ok, notR_ok, andV_ok, orV_ok, notV_ok, ifV_ok, truD_b, boolD_b, intD_i, tupR0, tupR1, tupR2, tupR3, tupR4, lstR0, lstR1, lstR2, lstR3, lstR4, lstR5, lstR6, lstR7, lstR8, lstR9, negD_i, slA3_l, slA3_t, tupleD_l, tupleD_t, listD_l, listD_t, revD_t, addE_ii, subD_ii, leD_ii, ltD_ii, geD_ii, gtI_ii, eqD_ii, neD_ii, isi_tup_tup, isi_tup_list, isi_tup_none, isi_tup_int, isi_tup_bool, isi_tup_str, isi_tup_dict, isi_int_int, isi_int_bool, isi_int_none, isi_int_str, isi_int_list, isi_int_tup, isi_int_dict, isi_bool_int, isi_bool_bool, isi_bool_none, isi_bool_str, isi_bool_list, isi_bool_tup, isi_bool_dict, lenD_t, lenD_l, seqD_l, seqD_t, List.getElem?_cons_zero, List.getElem?_cons_succ, List.set_cons_zero, List.set_cons_succ, ↓reduceIte, Bool.false_eq_true, Bool.not_true, Bool.not_false, sWp_ap, sWq_ap, wipeO_nx, wipeO_rt, wipeO_bk, wipeO_ct, wipeO_exc, wipeO_bad, wipeE_nil, wipeE_cons, fzE_ap, ownO_l, asgO_2, truD_l, truD_t, datI_ap, augN_ap, zip2_tt, zip2_ll, left_after_eq gk, hW, e']
theorem isW_ok {v : Int} {ws : List Int} (hv : 0 ≤ v) (hl : ws.length = v.toNat) (hw : ∀ w ∈ ws, 0 ≤ w ∧ w ≤ 6) : isW v (tI ws) = true := by
  show (decide (((ws.map PyData.int).length : Int) = v) && (ws.map PyData.int).all (inR 0 6)) = true
  rw [filter_inR6 0 ws hw, List.length_map, hl, decide_eq_true (by omega)]
  rfl
section
variable {v : Int} {ps : List (Int × Int)} (gk : Gok v ps) {ws : List Int} (hl : ws.length = v.toNat) (hw : ∀ w ∈ ws, 0 ≤ w ∧ w ≤ 6)
include gk hl hw
theorem cw_ok : m_check_wishes [graphD v ps, tI ws] = .ok .none := by
  rw [check_wishes_eq gk, isW_ok (by have := gk.lo; omega) hl hw]
  rfl
theorem all_choices_eq : m_all_choices [graphD v ps, tI ws] = .ok (.list ((allC v ps ws).map tI)) := by
  rw [r_all_choices]
  have e := some_choices_eq gk hl (W := tI ws) rfl (m := 4096) (by decide) (by decide)
  have t : (allC v ps ws).take (4096 : Int).toNat = allC v ps ws := List.take_of_length_le (by
    have := allC_len (v := v) (ps := ps) (ws := ws)
    have p : 2 ^ ps.length ≤ 2 ^ 12 := Nat.pow_le_pow_right (by decide) gk.len
    show _ ≤ 4096
    omega)
  rw [t] at e
  simp only [f_all_choices, sSeq_ap, sIf_ap, sRet_ap, sExpr_ap, sSet_ap, sSetO_ap, sFor_ap, sFz_ap, sFzb_ap, sAsg_ap, sSetItem_ap, sAugItem_ap, sAug_ap, sRaise_ap, sNil_ap, sBad_ap, mutO_ap, cA_ap, cNot_ap, cAnd_ap, cOr_ap, cIf_ap, cTup_ap, cLst_ap, pNone_ap, pSome_ap, wAnd_ap, wOr_ap, wNot_ap, wTru_ap, wCmp_ap, wYes_ap, iA_ap, iS_ap, aNil_ap, aCons_ap, kR_ap, b2_ap, b3_ap, c1_ap, chainD_ap, lcF_ap, datE_ap, datB_ap, ownAt_ap, endO_rt, endO_nx, endO_exc, endO_bad, bn_ok, bn_exc, bn_bad, to_ok, to_exc, to_bad, sq_nx, sq_rt, sq_bk, sq_ct, sq_exc, sq_bad, andR_ok, orR_ok, notR_ok, andV_ok, orV_ok, notV_ok, ifV_ok, truD_b, boolD_b, intD_i, tupR0, tupR1, tupR2, tupR3, tupR4, lstR0, lstR1, lstR2, lstR3, lstR4, lstR5, lstR6, lstR7, lstR8, lstR9, negD_i, slA3_l, slA3_t, tupleD_l, tupleD_t, listD_l, listD_t, revD_t, addE_ii, subD_ii, leD_ii, ltD_ii, geD_ii, gtI_ii, eqD_ii, neD_ii, isi_tup_tup, isi_tup_list, isi_tup_none, isi_tup_int, isi_tup_bool, isi_tup_str, isi_tup_dict, isi_int_int, isi_int_bool, isi_int_none, isi_int_str, isi_int_list, isi_int_tup, isi_int_dict, isi_bool_int, isi_bool_bool, isi_bool_none, isi_bool_str, isi_bool_list, isi_bool_tup, isi_bool_dict, lenD_t, lenD_l, seqD_l, seqD_t, List.getElem?_cons_zero, List.getElem?_cons_succ, List.set_cons_zero, List.set_cons_succ, ↓reduceIte, Bool.false_eq_true, Bool.not_true, Bool.not_false, sWp_ap, sWq_ap, wipeO_nx, wipeO_rt, wipeO_bk, wipeO_ct, wipeO_exc, wipeO_bad, wipeE_nil, wipeE_cons, fzE_ap, ownO_l, asgO_2, truD_l, truD_t, datI_ap, augN_ap, zip2_tt, zip2_ll, cw_ok gk hl hw, e]
theorem first_choice_eq : m_first_choice [graphD v ps, tI ws] = match allC v ps ws with
    | [] => .exc "NoChoice" none
    | c :: _ => .ok (tI c) := by
  rw [r_first_choice]
  have e := some_choices_eq gk hl (W := tI ws) rfl (m := 1) (by decide) (by decide)
  cases h : allC v ps ws with
  | nil =>
    rw [h] at e
    have e' : m_some_choices [graphD v ps, tI ws, .int 1] = .ok (.list []) := e
    simp only [f_first_choice, sSeq_ap, sIf_ap, sRet_ap, sExpr_ap, sSet_ap, sSetO_ap, sFor_ap, sFz_ap, sFzb_ap, sAsg_ap, sSetItem_ap, sAugItem_ap, sAug_ap, sRaise_ap, sNil_ap, sBad_ap, mutO_ap, cA_ap, cNot_ap, cAnd_ap, cOr_ap, cIf_ap, cTup_ap, cLst_ap, pNone_ap, pSome_ap, wAnd_ap, wOr_ap, wNot_ap, wTru_ap, wCmp_ap, wYes_ap, iA_ap, iS_ap, aNil_ap, aCons_ap, kR_ap, b2_ap, b3_ap, c1_ap, chainD_ap, lcF_ap, datE_ap, datB_ap, ownAt_ap, endO_rt, endO_nx, endO_exc, endO_bad, bn_ok, bn_exc, bn_bad, to_ok, to_exc, to_bad, sq_nx, sq_rt, sq_bk, sq_ct, sq_exc, sq_bad, andR_ok, orR_ok, notR_ok, andV_ok, orV_ok, notV_ok, ifV_ok, truD_b, boolD_b, intD_i, tupR0, tupR1, tupR2, tupR3, tupR4, lstR0, lstR1, lstR2, lstR3, lstR4, lstR5, lstR6, lstR7, lstR8, lstR9, negD_i, slA3_l, slA3_t, tupleD_l, tupleD_t, listD_l, listD_t, revD_t, addE_ii, subD_ii, leD_ii, ltD_ii, geD_ii, gtI_ii, eqD_ii, neD_ii, isi_tup_tup, isi_tup_list, isi_tup_none, isi_tup_int, isi_tup_bool, isi_tup_str, isi_tup_dict, isi_int_int, isi_int_bool, isi_int_none, isi_int_str, isi_int_list, isi_int_tup, isi_int_dict, isi_bool_int, isi_bool_bool, isi_bool_none, isi_bool_str, isi_bool_list, isi_bool_tup, isi_bool_dict, lenD_t, lenD_l, seqD_l, seqD_t, List.getElem?_cons_zero, List.getElem?_cons_succ, List.set_cons_zero, List.set_cons_succ, ↓reduceIte, Bool.false_eq_true, Bool.not_true, Bool.not_false, sWp_ap, sWq_ap, wipeO_nx, wipeO_rt, wipeO_bk, wipeO_ct, wipeO_exc, wipeO_bad, wipeE_nil, wipeE_cons, fzE_ap, ownO_l, asgO_2, truD_l, truD_t, datI_ap, augN_ap, zip2_tt, zip2_ll, cw_ok gk hl hw, e', List.isEmpty_nil]
  | cons c cs =>
    rw [h] at e
    have e' : m_some_choices [graphD v ps, tI ws, .int 1] = .ok (.list [tI c]) := e
    have i : ixD (.list [tI c]) (.int 0) = .ok (tI c) := ix_l (by decide) rfl
    simp only [f_first_choice, sSeq_ap, sIf_ap, sRet_ap, sExpr_ap, sSet_ap, sSetO_ap, sFor_ap, sFz_ap, sFzb_ap, sAsg_ap, sSetItem_ap, sAugItem_ap, sAug_ap, sRaise_ap, sNil_ap, sBad_ap, mutO_ap, cA_ap, cNot_ap, cAnd_ap, cOr_ap, cIf_ap, cTup_ap, cLst_ap, pNone_ap, pSome_ap, wAnd_ap, wOr_ap, wNot_ap, wTru_ap, wCmp_ap, wYes_ap, iA_ap, iS_ap, aNil_ap, aCons_ap, kR_ap, b2_ap, b3_ap, c1_ap, chainD_ap, lcF_ap, datE_ap, datB_ap, ownAt_ap, endO_rt, endO_nx, endO_exc, endO_bad, bn_ok, bn_exc, bn_bad, to_ok, to_exc, to_bad, sq_nx, sq_rt, sq_bk, sq_ct, sq_exc, sq_bad, andR_ok, orR_ok, notR_ok, andV_ok, orV_ok, notV_ok, ifV_ok, truD_b, boolD_b, intD_i, tupR0, tupR1, tupR2, tupR3, tupR4, lstR0, lstR1, lstR2, lstR3, lstR4, lstR5, lstR6, lstR7, lstR8, lstR9, negD_i, slA3_l, slA3_t, tupleD_l, tupleD_t, listD_l, listD_t, revD_t, addE_ii, subD_ii, leD_ii, ltD_ii, geD_ii, gtI_ii, eqD_ii, neD_ii, isi_tup_tup, isi_tup_list, isi_tup_none, isi_tup_int, isi_tup_bool, isi_tup_str, isi_tup_dict, isi_int_int, isi_int_bool, isi_int_none, isi_int_str, isi_int_list, isi_int_tup, isi_int_dict, isi_bool_int, isi_bool_bool, isi_bool_none, isi_bool_str, isi_bool_list, isi_bool_tup, isi_bool_dict, lenD_t, lenD_l, seqD_l, seqD_t, List.getElem?_cons_zero, List.getElem?_cons_succ, List.set_cons_zero, List.set_cons_succ, ↓reduceIte, Bool.false_eq_true, Bool.not_true, Bool.not_false, sWp_ap, sWq_ap, wipeO_nx, wipeO_rt, wipeO_bk, wipeO_ct, wipeO_exc, wipeO_bad, wipeE_nil, wipeE_cons, fzE_ap, ownO_l, asgO_2, truD_l, truD_t, datI_ap, augN_ap, zip2_tt, zip2_ll, cw_ok gk hl hw, e', List.isEmpty_cons, i]
theorem neD_nil (c : List Int) : neD (.list [tI c]) (.list []) = .ok (.bool true) := by
  obtain ⟨b, h1, h2⟩ := neD_pl (d := .list [tI c]) (e := .list []) (by simp [plD, plA, tI, plA_ints]) (by simp [plD, plA]) (by
    have := dep_ints c
    simp [layD, PyData.canLay0, PyData.canLayAll0, tI, lay_ints, PyData.depth, PyData.depthAll]; omega) (by simp [PyData.canLay0, PyData.canLayAll0])
  rw [h1]
  cases b with
  | true => rfl
  | false => cases h2.mp rfl
omit gk hl hw in
theorem neD_nn : neD (.list []) (.list []) = .ok (.bool false) := by
  obtain ⟨b, h1, h2⟩ := neD_pl (d := .list []) (e := .list []) (by simp [plD, plA]) (by simp [plD, plA]) (by simp [layD, PyData.canLay0, PyData.canLayAll0, PyData.depth, PyData.depthAll]) (by simp [PyData.canLay0, PyData.canLayAll0])
  rw [h1, h2.mpr rfl]
theorem is_possible_eq : m_is_possible [graphD v ps, tI ws] = .ok (.bool (!(allC v ps ws).isEmpty)) := by
  rw [r_is_possible]
  have e := some_choices_eq gk hl (W := tI ws) rfl (m := 1) (by decide) (by decide)
  cases h : allC v ps ws with
  | nil =>
    rw [h] at e
    have e' : m_some_choices [graphD v ps, tI ws, .int 1] = .ok (.list []) := e
    simp only [f_is_possible, sSeq_ap, sIf_ap, sRet_ap, sExpr_ap, sSet_ap, sSetO_ap, sFor_ap, sFz_ap, sFzb_ap, sAsg_ap, sSetItem_ap, sAugItem_ap, sAug_ap, sRaise_ap, sNil_ap, sBad_ap, mutO_ap, cA_ap, cNot_ap, cAnd_ap, cOr_ap, cIf_ap, cTup_ap, cLst_ap, pNone_ap, pSome_ap, wAnd_ap, wOr_ap, wNot_ap, wTru_ap, wCmp_ap, wYes_ap, iA_ap, iS_ap, aNil_ap, aCons_ap, kR_ap, b2_ap, b3_ap, c1_ap, chainD_ap, lcF_ap, datE_ap, datB_ap, ownAt_ap, endO_rt, endO_nx, endO_exc, endO_bad, bn_ok, bn_exc, bn_bad, to_ok, to_exc, to_bad, sq_nx, sq_rt, sq_bk, sq_ct, sq_exc, sq_bad, andR_ok, orR_ok, notR_ok, andV_ok, orV_ok, notV_ok, ifV_ok, truD_b, boolD_b, intD_i, tupR0, tupR1, tupR2, tupR3, tupR4, lstR0, lstR1, lstR2, lstR3, lstR4, lstR5, lstR6, lstR7, lstR8, lstR9, negD_i, slA3_l, slA3_t, tupleD_l, tupleD_t, listD_l, listD_t, revD_t, addE_ii, subD_ii, leD_ii, ltD_ii, geD_ii, gtI_ii, eqD_ii, neD_ii, isi_tup_tup, isi_tup_list, isi_tup_none, isi_tup_int, isi_tup_bool, isi_tup_str, isi_tup_dict, isi_int_int, isi_int_bool, isi_int_none, isi_int_str, isi_int_list, isi_int_tup, isi_int_dict, isi_bool_int, isi_bool_bool, isi_bool_none, isi_bool_str, isi_bool_list, isi_bool_tup, isi_bool_dict, lenD_t, lenD_l, seqD_l, seqD_t, List.getElem?_cons_zero, List.getElem?_cons_succ, List.set_cons_zero, List.set_cons_succ, ↓reduceIte, Bool.false_eq_true, Bool.not_true, Bool.not_false, sWp_ap, sWq_ap, wipeO_nx, wipeO_rt, wipeO_bk, wipeO_ct, wipeO_exc, wipeO_bad, wipeE_nil, wipeE_cons, fzE_ap, ownO_l, asgO_2, truD_l, truD_t, datI_ap, augN_ap, zip2_tt, zip2_ll, cw_ok gk hl hw, e', neD_nn, List.isEmpty_nil]
  | cons c cs =>
    rw [h] at e
    have e' : m_some_choices [graphD v ps, tI ws, .int 1] = .ok (.list [tI c]) := e
    simp only [f_is_possible, sSeq_ap, sIf_ap, sRet_ap, sExpr_ap, sSet_ap, sSetO_ap, sFor_ap, sFz_ap, sFzb_ap, sAsg_ap, sSetItem_ap, sAugItem_ap, sAug_ap, sRaise_ap, sNil_ap, sBad_ap, mutO_ap, cA_ap, cNot_ap, cAnd_ap, cOr_ap, cIf_ap, cTup_ap, cLst_ap, pNone_ap, pSome_ap, wAnd_ap, wOr_ap, wNot_ap, wTru_ap, wCmp_ap, wYes_ap, iA_ap, iS_ap, aNil_ap, aCons_ap, kR_ap, b2_ap, b3_ap, c1_ap, chainD_ap, lcF_ap, datE_ap, datB_ap, ownAt_ap, endO_rt, endO_nx, endO_exc, endO_bad, bn_ok, bn_exc, bn_bad, to_ok, to_exc, to_bad, sq_nx, sq_rt, sq_bk, sq_ct, sq_exc, sq_bad, andR_ok, orR_ok, notR_ok, andV_ok, orV_ok, notV_ok, ifV_ok, truD_b, boolD_b, intD_i, tupR0, tupR1, tupR2, tupR3, tupR4, lstR0, lstR1, lstR2, lstR3, lstR4, lstR5, lstR6, lstR7, lstR8, lstR9, negD_i, slA3_l, slA3_t, tupleD_l, tupleD_t, listD_l, listD_t, revD_t, addE_ii, subD_ii, leD_ii, ltD_ii, geD_ii, gtI_ii, eqD_ii, neD_ii, isi_tup_tup, isi_tup_list, isi_tup_none, isi_tup_int, isi_tup_bool, isi_tup_str, isi_tup_dict, isi_int_int, isi_int_bool, isi_int_none, isi_int_str, isi_int_list, isi_int_tup, isi_int_dict, isi_bool_int, isi_bool_bool, isi_bool_none, isi_bool_str, isi_bool_list, isi_bool_tup, isi_bool_dict, lenD_t, lenD_l, seqD_l, seqD_t, List.getElem?_cons_zero, List.getElem?_cons_succ, List.set_cons_zero, List.set_cons_succ, ↓reduceIte, Bool.false_eq_true, Bool.not_true, Bool.not_false, sWp_ap, sWq_ap, wipeO_nx, wipeO_rt, wipeO_bk, wipeO_ct, wipeO_exc, wipeO_bad, wipeE_nil, wipeE_cons, fzE_ap, ownO_l, asgO_2, truD_l, truD_t, datI_ap, augN_ap, zip2_tt, zip2_ll, cw_ok gk hl hw, e', neD_nil gk hl hw c, List.isEmpty_cons]
end
end Com
namespace Com
open PySem L2 DL
theorem ix_tI {ws : List Int} {i : Int} (h0 : 0 ≤ i) (h : i < (ws.length : Int)) : ixD (tI ws) (.int i) = .ok (.int (ws.getD i.toNat 0)) := ix_t h0 (getD_ints (by omega))
theorem ix_lI {ws : List Int} {i : Int} (h0 : 0 ≤ i) (h : i < (ws.length : Int)) : ixD (lI ws) (.int i) = .ok (.int (ws.getD i.toNat 0)) := ix_l h0 (getD_ints (by omega))
theorem ix_edge {ps : List (Int × Int)} {c : Int} (h0 : 0 ≤ c) (h : c < (ps.length : Int)) : ixD (.tuple (ps.map edgeD)) (.int c) = .ok (edgeD (eg ps c)) := ix_t h0 (by
  rw [List.getElem?_map, (getD_mem h0 h).2]
  rfl)
theorem eg_mem {ps : List (Int × Int)} {c : Int} (h0 : 0 ≤ c) (h : c < (ps.length : Int)) : eg ps c ∈ ps := (getD_mem h0 h).1
theorem add_t1 {c : List Int} {k : Int} (h : c.length ≤ 1000) : addE (tI c) (.tuple [.int k]) = .ok (tI (c ++ [k])) := by
  have e : addE (tI c) (.tuple [.int k]) = .ok (.tuple (c.map .int ++ [.int k])) := addE_tt (by
    have := sz1000000
    rw [List.length_cons, List.length_nil, List.length_map]; omega)
  rw [e]
  unfold tI
  rw [List.map_append]
  rfl
theorem foldl_flat {α β : Type} (f : α → List β) : ∀ (xs : List α) (a : List β), xs.foldl (fun acc c => acc ++ f c) a = a ++ xs.flatMap f
  | [], a => by simp
  | x :: xs, a => by
    rw [List.foldl_cons, foldl_flat f xs, List.flatMap_cons, List.append_assoc]
theorem eqD_nil1 (as : List Int) : eqD (.list (as.map .int)) (.list []) = .ok (.bool (decide (as = []))) := eqD_ll (bs := [])
section
variable (v : Int) (ps : List (Int × Int)) (ws : List Int)
/-- what comes of a choice begun, up to the number j -/
def cmp (j : Nat) (c : List Int) : List (List Int) := ((powF (ps.length - j) j).map (c ++ ·)).filter fun d => decide (degL v ps d = ws)
def over (x : Int) (c : List Int) : Bool := decide (ws.getD x.toNat 0 < (degL v ps c).getD x.toNat 0)
def okc (j : Nat) (c : List Int) : Bool := decide ([(eg ps j).1, (eg ps j).2].filter (fun x => over v ps ws x c) = [])
def lax (j : Nat) (c : List Int) : List (List Int) := if okc v ps ws j (c ++ [(j : Int)]) then [c ++ [(j : Int)], c] else [c]
end
section
variable {v : Int} {ps : List (Int × Int)} (gk : Gok v ps) {ws : List Int} (hl : ws.length = v.toNat)
include gk hl
theorem cmp_step {j : Nat} (hj : j < ps.length) {c : List Int} (hc : ∀ z ∈ c, 0 ≤ z ∧ z < (j : Int)) : cmp v ps ws j c = (lax v ps ws j c).flatMap (cmp v ps ws (j + 1)) := by
  have e : ps.length - j = (ps.length - (j + 1)) + 1 := by omega
  have kk : ((j + 1 : Nat) : Int) = (j : Int) + 1 := by omega
  have e1 : cmp v ps ws j c = cmp v ps ws (j + 1) (c ++ [(j : Int)]) ++ cmp v ps ws (j + 1) c := by
    unfold cmp
    rw [e, powF, List.map_append, List.filter_append, List.map_map, kk]
    have z : (fun d => c ++ ((j : Int) :: d)) = fun d => (c ++ [(j : Int)]) ++ d := by
      funext d
      rw [List.append_assoc]
      rfl
    show List.filter _ (List.map (fun d => c ++ ((j : Int) :: d)) _) ++ _ = _
    rw [z]
  rw [e1]
  unfold lax
  cases h : okc v ps ws j (c ++ [(j : Int)]) with
  | true => simp
  | false =>
    have no : cmp v ps ws (j + 1) (c ++ [(j : Int)]) = [] := by
      unfold cmp
      rw [List.filter_eq_nil_iff]
      intro d md ed
      obtain ⟨t, mt, rfl⟩ := List.mem_map.mp md
      have ed := of_decide_eq_true ed
      have hne : ¬ ([(eg ps j).1, (eg ps j).2].filter (fun x => over v ps ws x (c ++ [(j : Int)])) = []) := of_decide_eq_false h
      have hcj : ∀ z ∈ c ++ [(j : Int)], 0 ≤ z ∧ z < (ps.length : Int) := fun z hz => by
        rcases List.mem_append.mp hz with hz | hz
        · have := hc z hz; omega
        · rw [List.mem_singleton] at hz; omega
      have hct : ∀ z ∈ (c ++ [(j : Int)]) ++ t, 0 ≤ z ∧ z < (ps.length : Int) := fun z hz => by
        rcases List.mem_append.mp hz with hz | hz
        · exact hcj z hz
        · have := powF_in _ _ t mt z hz; omega
      apply hne
      rw [List.filter_eq_nil_iff]
      intro x mx ox
      have ox := of_decide_eq_true ox
      rw [degL_dgx gk hcj] at ox
      have := (degL_eq_iff gk hct hl).mp ed x.toNat
      rw [dgx_app] at this
      have := dgx_nn ps t x.toNat
      omega
    rw [no]
    simp
theorem law_all_eq : m_law_all [graphD v ps, tI ws] = .ok (.list ((allC v ps ws).map tI)) := by
  rw [r_law_all]
  have ld : ∀ {cs : List Int}, (∀ c ∈ cs, 0 ≤ c ∧ c < (ps.length : Int)) → m_law_degrees [graphD v ps, tI cs] = .ok (tI (degL v ps cs)) := fun hc => law_degrees_eq gk hc rfl
  have g1 : ixD (graphD v ps) (.int 1) = .ok (.tuple (ps.map edgeD)) := gix1
  have hv := gk.lo
  have pl := gk.len
  have sz := sz1000000
  have ln : lenD (.tuple (ps.map edgeD)) = .ok (.int (ps.length : Int)) := glen
  have rg : rng1 [.int (ps.length : Int)] = .ok ((List.range ps.length).map fun i : Nat => .int (i : Int)) := by
    rw [rng_n (by omega) (by omega), Int.toNat_natCast, rangeL_map]
  generalize hG : graphD v ps = G at *
  have ob := fun (j : Nat) (hj : j < ps.length) (found : List (List Int)) (hf : ∀ c ∈ found, (∀ z ∈ c, 0 ≤ z ∧ z < (j : Int)) ∧ c.length ≤ 100) (hfl : found.length ≤ 4096) =>
    (forM (ft := gN 5) (fb := b_law_all_1) tI (fun acc : List (List Int) => [.dat G, .dat (tI ws), .dat (.list (found.map tI)), .dat (.int (j : Int)), .own (acc.map tI), .un, .un, .un, .un]) (fun acc c => acc ++ lax v ps ws j c)
      (fun acc t => (∀ c ∈ t, (∀ z ∈ c, 0 ≤ z ∧ z < (j : Int)) ∧ c.length ≤ 100) ∧ acc.length + 2 * t.length ≤ 10000) found [] (by
        rintro acc c t ⟨ht, hal⟩
        obtain ⟨hc, hcl⟩ := ht c List.mem_cons_self
        have hcj : ∀ z ∈ c ++ [(j : Int)], 0 ≤ z ∧ z < (ps.length : Int) := fun z hz => by
          rcases List.mem_append.mp hz with hz | hz
          · have := hc z hz; omega
          · rw [List.mem_singleton] at hz; omega
        have lxl : (lax v ps ws j c).length ≤ 2 := by unfold lax; split <;> simp
        refine ⟨_, rfl, ?_, fun d m => ht d (List.mem_cons_of_mem _ m), by rw [List.length_append]; rw [List.length_cons] at hal; omega⟩
        have em := gk.ed _ (eg_mem (ps := ps) (c := (j : Int)) (by omega) (by omega))
        have ie := ix_edge (ps := ps) (c := (j : Int)) (by omega) (by omega)
        have dl := degL_len v ps (c ++ [(j : Int)])
        have cm := compM (ft := gN 8) (fc := ct_law_all_1) (fe := datE 8) (r0 := [.dat G, .dat (tI ws), .dat (.list (found.map tI)), .dat (.int (j : Int)), .own (acc.map tI), .dat (tI c), .dat (tI (c ++ [(j : Int)])), .dat (tI (degL v ps (c ++ [(j : Int)]))), .un]) PyData.int (fun x => over v ps ws x (c ++ [(j : Int)])) PyData.int [(eg ps j).1, (eg ps j).2] (by
          intro x mx
          have hx : 0 ≤ x ∧ x < v := by
            simp only [List.mem_cons, List.not_mem_nil, or_false] at mx
            rcases mx with rfl | rfl <;> omega
          refine ⟨_, rfl, ?_, fun _ => rfl⟩
          simp only [ct_law_all_1, sSeq_ap, sIf_ap, sRet_ap, sExpr_ap, sSet_ap, sSetO_ap, sFor_ap, sFz_ap, sFzb_ap, sAsg_ap, sSetItem_ap, sAugItem_ap, sAug_ap, sRaise_ap, sNil_ap, sBad_ap, mutO_ap, cA_ap, cNot_ap, cAnd_ap, cOr_ap, cIf_ap, cTup_ap, cLst_ap, pNone_ap, pSome_ap, wAnd_ap, wOr_ap, wNot_ap, wTru_ap, wCmp_ap, wYes_ap, iA_ap, iS_ap, aNil_ap, aCons_ap, kR_ap, b2_ap, b3_ap, c1_ap, chainD_ap, lcF_ap, datE_ap, datB_ap, ownAt_ap, endO_rt, endO_nx, endO_exc, endO_bad, bn_ok, bn_exc, bn_bad, to_ok, to_exc, to_bad, sq_nx, sq_rt, sq_bk, sq_ct, sq_exc, sq_bad, andR_ok, orR_ok, notR_ok, andV_ok, orV_ok, notV_ok, ifV_ok, truD_b, boolD_b, intD_i, tupR0, tupR1, tupR2, tupR3, tupR4, lstR0, lstR1, lstR2, lstR3, lstR4, lstR5, lstR6, lstR7, lstR8, lstR9, negD_i, slA3_l, slA3_t, tupleD_l, tupleD_t, listD_l, listD_t, revD_t, addE_ii, subD_ii, leD_ii, ltD_ii, geD_ii, gtI_ii, eqD_ii, neD_ii, isi_tup_tup, isi_tup_list, isi_tup_none, isi_tup_int, isi_tup_bool, isi_tup_str, isi_tup_dict, isi_int_int, isi_int_bool, isi_int_none, isi_int_str, isi_int_list, isi_int_tup, isi_int_dict, isi_bool_int, isi_bool_bool, isi_bool_none, isi_bool_str, isi_bool_list, isi_bool_tup, isi_bool_dict, lenD_t, lenD_l, seqD_l, seqD_t, List.getElem?_cons_zero, List.getElem?_cons_succ, List.set_cons_zero, List.set_cons_succ, ↓reduceIte, Bool.false_eq_true, Bool.not_true, Bool.not_false, sWp_ap, sWq_ap, wipeO_nx, wipeO_rt, wipeO_bk, wipeO_ct, wipeO_exc, wipeO_bad, wipeE_nil, wipeE_cons, fzE_ap, ownO_l, asgO_2, truD_l, truD_t, datI_ap, augN_ap, zip2_tt, zip2_ll, ix_tI hx.1 (show x < ((degL v ps (c ++ [(j : Int)])).length : Int) by omega), ix_tI hx.1 (show x < (ws.length : Int) by omega)]
          rfl)
        have sq : seqD (edgeD (eg ps j)) = .ok ([(eg ps j).1, (eg ps j).2].map .int) := rfl
        have al : (acc.map tI).length < sizeLine := by rw [List.length_map]; rw [List.length_cons] at hal; omega
        have al2 : (acc.map tI ++ [tI (c ++ [(j : Int)])]).length < sizeLine := by rw [List.length_append, List.length_map]; rw [List.length_cons] at hal; simp; omega
        unfold lax
        cases h : okc v ps ws j (c ++ [(j : Int)]) with
        | true =>
          have h' : eqD (.list (([(eg ps j).1, (eg ps j).2].filter fun x => over v ps ws x (c ++ [(j : Int)])).map .int)) (.list []) = .ok (.bool true) := by
            rw [eqD_nil1]; exact congrArg (fun b => R.ok (PyData.bool b)) h
          simp only [b_law_all_1, sSeq_ap, sIf_ap, sRet_ap, sExpr_ap, sSet_ap, sSetO_ap, sFor_ap, sFz_ap, sFzb_ap, sAsg_ap, sSetItem_ap, sAugItem_ap, sAug_ap, sRaise_ap, sNil_ap, sBad_ap, mutO_ap, cA_ap, cNot_ap, cAnd_ap, cOr_ap, cIf_ap, cTup_ap, cLst_ap, pNone_ap, pSome_ap, wAnd_ap, wOr_ap, wNot_ap, wTru_ap, wCmp_ap, wYes_ap, iA_ap, iS_ap, aNil_ap, aCons_ap, kR_ap, b2_ap, b3_ap, c1_ap, chainD_ap, lcF_ap, datE_ap, datB_ap, ownAt_ap, endO_rt, endO_nx, endO_exc, endO_bad, bn_ok, bn_exc, bn_bad, to_ok, to_exc, to_bad, sq_nx, sq_rt, sq_bk, sq_ct, sq_exc, sq_bad, andR_ok, orR_ok, notR_ok, andV_ok, orV_ok, notV_ok, ifV_ok, truD_b, boolD_b, intD_i, tupR0, tupR1, tupR2, tupR3, tupR4, lstR0, lstR1, lstR2, lstR3, lstR4, lstR5, lstR6, lstR7, lstR8, lstR9, negD_i, slA3_l, slA3_t, tupleD_l, tupleD_t, listD_l, listD_t, revD_t, addE_ii, subD_ii, leD_ii, ltD_ii, geD_ii, gtI_ii, eqD_ii, neD_ii, isi_tup_tup, isi_tup_list, isi_tup_none, isi_tup_int, isi_tup_bool, isi_tup_str, isi_tup_dict, isi_int_int, isi_int_bool, isi_int_none, isi_int_str, isi_int_list, isi_int_tup, isi_int_dict, isi_bool_int, isi_bool_bool, isi_bool_none, isi_bool_str, isi_bool_list, isi_bool_tup, isi_bool_dict, lenD_t, lenD_l, seqD_l, seqD_t, List.getElem?_cons_zero, List.getElem?_cons_succ, List.set_cons_zero, List.set_cons_succ, ↓reduceIte, Bool.false_eq_true, Bool.not_true, Bool.not_false, sWp_ap, sWq_ap, wipeO_nx, wipeO_rt, wipeO_bk, wipeO_ct, wipeO_exc, wipeO_bad, wipeE_nil, wipeE_cons, fzE_ap, ownO_l, asgO_2, truD_l, truD_t, datI_ap, augN_ap, zip2_tt, zip2_ll, add_t1 (show c.length ≤ 1000 by omega), ld hcj, g1, ie, sq, cm, h', gApp_ok al, gApp_ok al2]
          simp only [List.map_append, List.map_cons, List.map_nil, List.append_assoc, List.cons_append, List.nil_append, ↓reduceIte]
        | false =>
          have h' : eqD (.list (([(eg ps j).1, (eg ps j).2].filter fun x => over v ps ws x (c ++ [(j : Int)])).map .int)) (.list []) = .ok (.bool false) := by
            rw [eqD_nil1]; exact congrArg (fun b => R.ok (PyData.bool b)) h
          simp only [b_law_all_1, sSeq_ap, sIf_ap, sRet_ap, sExpr_ap, sSet_ap, sSetO_ap, sFor_ap, sFz_ap, sFzb_ap, sAsg_ap, sSetItem_ap, sAugItem_ap, sAug_ap, sRaise_ap, sNil_ap, sBad_ap, mutO_ap, cA_ap, cNot_ap, cAnd_ap, cOr_ap, cIf_ap, cTup_ap, cLst_ap, pNone_ap, pSome_ap, wAnd_ap, wOr_ap, wNot_ap, wTru_ap, wCmp_ap, wYes_ap, iA_ap, iS_ap, aNil_ap, aCons_ap, kR_ap, b2_ap, b3_ap, c1_ap, chainD_ap, lcF_ap, datE_ap, datB_ap, ownAt_ap, endO_rt, endO_nx, endO_exc, endO_bad, bn_ok, bn_exc, bn_bad, to_ok, to_exc, to_bad, sq_nx, sq_rt, sq_bk, sq_ct, sq_exc, sq_bad, andR_ok, orR_ok, notR_ok, andV_ok, orV_ok, notV_ok, ifV_ok, truD_b, boolD_b, intD_i, tupR0, tupR1, tupR2, tupR3, tupR4, lstR0, lstR1, lstR2, lstR3, lstR4, lstR5, lstR6, lstR7, lstR8, lstR9, negD_i, slA3_l, slA3_t, tupleD_l, tupleD_t, listD_l, listD_t, revD_t, addE_ii, subD_ii, leD_ii, ltD_ii, geD_ii, gtI_ii, eqD_ii, neD_ii, isi_tup_tup, isi_tup_list, isi_tup_none, isi_tup_int, isi_tup_bool, isi_tup_str, isi_tup_dict, isi_int_int, isi_int_bool, isi_int_none, isi_int_str, isi_int_list, isi_int_tup, isi_int_dict, isi_bool_int, isi_bool_bool, isi_bool_none, isi_bool_str, isi_bool_list, isi_bool_tup, isi_bool_dict, lenD_t, lenD_l, seqD_l, seqD_t, List.getElem?_cons_zero, List.getElem?_cons_succ, List.set_cons_zero, List.set_cons_succ, ↓reduceIte, Bool.false_eq_true, Bool.not_true, Bool.not_false, sWp_ap, sWq_ap, wipeO_nx, wipeO_rt, wipeO_bk, wipeO_ct, wipeO_exc, wipeO_bad, wipeE_nil, wipeE_cons, fzE_ap, ownO_l, asgO_2, truD_l, truD_t, datI_ap, augN_ap, zip2_tt, zip2_ll, add_t1 (show c.length ≤ 1000 by omega), ld hcj, g1, ie, sq, cm, h', gApp_ok al]
          simp only [List.map_append, List.map_cons, List.map_nil, ↓reduceIte, Bool.false_eq_true]) ⟨hf, by simp; omega⟩).1
  have oc := forM (ft := gN 3) (fb := b_law_all_2) (fun i : Nat => .int (i : Int)) (fun found : List (List Int) => [.dat G, .dat (tI ws), .dat (.list (found.map tI)), .un, .un, .un, .un, .un, .un]) (fun found j => found.flatMap (lax v ps ws j))
    (fun found t => ∃ j, j ≤ ps.length ∧ t = List.range' j (ps.length - j) ∧ (∀ c ∈ found, (∀ z ∈ c, 0 ≤ z ∧ z < (j : Int)) ∧ c.length ≤ j) ∧ found.length ≤ 2 ^ j ∧ found.flatMap (cmp v ps ws j) = allC v ps ws) (List.range ps.length) [[]] (by
      rintro found x t ⟨j, hj, ht, hf, hfl, hfc⟩
      have hj' : j < ps.length := by
        rcases Nat.lt_or_ge j ps.length with h | h
        · exact h
        · rw [Nat.sub_eq_zero_of_le h] at ht
          cases ht
      have e : ps.length - j = (ps.length - (j + 1)) + 1 := by omega
      rw [e, List.range'_succ] at ht
      obtain ⟨rfl, rfl⟩ := List.cons.inj ht
      have p12 : 2 ^ x ≤ 2 ^ 12 := Nat.pow_le_pow_right (by decide) (by omega)
      have lp := ob x hj' found (fun c m => ⟨(hf c m).1, by have := (hf c m).2; omega⟩) (by omega)
      rw [foldl_flat, List.nil_append] at lp
      have lp' : forL (gN 5) b_law_all_1 (found.map tI) [.dat G, .dat (tI ws), .dat (.list (found.map tI)), .dat (.int (x : Int)), .own [], .un, .un, .un, .un] = .nx [.dat G, .dat (tI ws), .dat (.list (found.map tI)), .dat (.int (x : Int)), .own ((found.flatMap (lax v ps ws x)).map tI), .un, .un, .un, .un] := lp
      refine ⟨_, rfl, ?_, x + 1, by omega, rfl, ?_, ?_, ?_⟩
      · simp only [b_law_all_2, sSeq_ap, sIf_ap, sRet_ap, sExpr_ap, sSet_ap, sSetO_ap, sFor_ap, sFz_ap, sFzb_ap, sAsg_ap, sSetItem_ap, sAugItem_ap, sAug_ap, sRaise_ap, sNil_ap, sBad_ap, mutO_ap, cA_ap, cNot_ap, cAnd_ap, cOr_ap, cIf_ap, cTup_ap, cLst_ap, pNone_ap, pSome_ap, wAnd_ap, wOr_ap, wNot_ap, wTru_ap, wCmp_ap, wYes_ap, iA_ap, iS_ap, aNil_ap, aCons_ap, kR_ap, b2_ap, b3_ap, c1_ap, chainD_ap, lcF_ap, datE_ap, datB_ap, ownAt_ap, endO_rt, endO_nx, endO_exc, endO_bad, bn_ok, bn_exc, bn_bad, to_ok, to_exc, to_bad, sq_nx, sq_rt, sq_bk, sq_ct, sq_exc, sq_bad, andR_ok, orR_ok, notR_ok, andV_ok, orV_ok, notV_ok, ifV_ok, truD_b, boolD_b, intD_i, tupR0, tupR1, tupR2, tupR3, tupR4, lstR0, lstR1, lstR2, lstR3, lstR4, lstR5, lstR6, lstR7, lstR8, lstR9, negD_i, slA3_l, slA3_t, tupleD_l, tupleD_t, listD_l, listD_t, revD_t, addE_ii, subD_ii, leD_ii, ltD_ii, geD_ii, gtI_ii, eqD_ii, neD_ii, isi_tup_tup, isi_tup_list, isi_tup_none, isi_tup_int, isi_tup_bool, isi_tup_str, isi_tup_dict, isi_int_int, isi_int_bool, isi_int_none, isi_int_str, isi_int_list, isi_int_tup, isi_int_dict, isi_bool_int, isi_bool_bool, isi_bool_none, isi_bool_str, isi_bool_list, isi_bool_tup, isi_bool_dict, lenD_t, lenD_l, seqD_l, seqD_t, List.getElem?_cons_zero, List.getElem?_cons_succ, List.set_cons_zero, List.set_cons_succ, ↓reduceIte, Bool.false_eq_true, Bool.not_true, Bool.not_false, sWp_ap, sWq_ap, wipeO_nx, wipeO_rt, wipeO_bk, wipeO_ct, wipeO_exc, wipeO_bad, wipeE_nil, wipeE_cons, fzE_ap, ownO_l, asgO_2, truD_l, truD_t, datI_ap, augN_ap, zip2_tt, zip2_ll, lp']
      · intro c mc
        obtain ⟨d, md, mc⟩ := List.mem_flatMap.mp mc
        obtain ⟨h1, h2⟩ := hf d md
        unfold lax at mc
        have : c = d ++ [(x : Int)] ∨ c = d := by
          split at mc
          · simpa using mc
          · rw [List.mem_singleton] at mc; exact .inr mc
        rcases this with rfl | rfl
        · refine ⟨fun z hz => ?_, by rw [List.length_append]; simp; omega⟩
          rcases List.mem_append.mp hz with hz | hz
          · have := h1 z hz; omega
          · rw [List.mem_singleton] at hz; omega
        · exact ⟨fun z hz => by have := h1 z hz; omega, by omega⟩
      · have : ∀ l : List (List Int), (l.flatMap (lax v ps ws x)).length ≤ 2 * l.length := by
          intro l
          induction l with
          | nil => simp
          | cons a l ih =>
            rw [List.flatMap_cons, List.length_append, List.length_cons]
            have lxl : (lax v ps ws x a).length ≤ 2 := by unfold lax; split <;> simp
            omega
        have := this found
        rw [Nat.pow_succ]
        omega
      · rw [← hfc, List.flatMap_assoc]
        have fc : ∀ l : List (List Int), (∀ c ∈ l, (∀ z ∈ c, 0 ≤ z ∧ z < (x : Int)) ∧ c.length ≤ x) → l.flatMap (fun c => (lax v ps ws x c).flatMap (cmp v ps ws (x + 1))) = l.flatMap (cmp v ps ws x) := by
          intro l
          induction l with
          | nil => intro _; rfl
          | cons a l ih =>
            intro h
            rw [List.flatMap_cons, List.flatMap_cons, ih fun c m => h c (List.mem_cons_of_mem _ m), cmp_step gk hl hj' (h a List.mem_cons_self).1]
        exact fc found hf) ⟨0, Nat.zero_le _, by rw [List.range_eq_range', Nat.sub_zero], by simp, by simp, by
          rw [List.flatMap_cons, List.flatMap_nil, List.append_nil]
          unfold cmp allC
          rw [Nat.sub_zero]
          have z : (fun d : List Int => [] ++ d) = id := by funext d; rfl
          rw [z, List.map_id]
          rfl⟩
  obtain ⟨lp, j, hj, ht, hf, hfl, hfc⟩ := oc
  generalize (List.range ps.length).foldl (fun found j => found.flatMap (lax v ps ws j)) [[]] = found at lp hf hfl hfc
  have hjn : j = ps.length := by
    have := congrArg List.length ht
    rw [List.length_range'] at this
    simp at this
    omega
  subst hjn
  have fin : found.flatMap (cmp v ps ws ps.length) = found.filter fun c => decide (degL v ps c = ws) := by
    clear lp hf hfl hfc
    induction found with
    | nil => rfl
    | cons a l ih =>
      rw [List.flatMap_cons, ih, List.filter_cons]
      unfold cmp
      rw [Nat.sub_self]
      show List.filter _ [a ++ []] ++ _ = _
      rw [List.append_nil, List.filter_cons]
      split <;> rfl
  rw [fin] at hfc
  have lp' : forL (gN 3) b_law_all_2 ((List.range ps.length).map fun i : Nat => .int (i : Int)) [.dat G, .dat (tI ws), .dat (.list [.tuple []]), .un, .un, .un, .un, .un, .un] = .nx [.dat G, .dat (tI ws), .dat (.list (found.map tI)), .un, .un, .un, .un, .un, .un] := lp
  have cm := compM (ft := gN 5) (fc := ct_law_all_2) (fe := datE 5) (r0 := [.dat G, .dat (tI ws), .dat (.list (found.map tI)), .un, .un, .un, .un, .un, .un]) tI (fun c => decide (degL v ps c = ws)) tI found (by
    intro c mc
    refine ⟨_, rfl, ?_, fun _ => rfl⟩
    have tt : tupleD (tI ws) = .ok (tI ws) := rfl
    have ee : eqD (tI (degL v ps c)) (tI ws) = .ok (.bool (decide (degL v ps c = ws))) := eqD_tt
    simp only [ct_law_all_2, sSeq_ap, sIf_ap, sRet_ap, sExpr_ap, sSet_ap, sSetO_ap, sFor_ap, sFz_ap, sFzb_ap, sAsg_ap, sSetItem_ap, sAugItem_ap, sAug_ap, sRaise_ap, sNil_ap, sBad_ap, mutO_ap, cA_ap, cNot_ap, cAnd_ap, cOr_ap, cIf_ap, cTup_ap, cLst_ap, pNone_ap, pSome_ap, wAnd_ap, wOr_ap, wNot_ap, wTru_ap, wCmp_ap, wYes_ap, iA_ap, iS_ap, aNil_ap, aCons_ap, kR_ap, b2_ap, b3_ap, c1_ap, chainD_ap, lcF_ap, datE_ap, datB_ap, ownAt_ap, endO_rt, endO_nx, endO_exc, endO_bad, bn_ok, bn_exc, bn_bad, to_ok, to_exc, to_bad, sq_nx, sq_rt, sq_bk, sq_ct, sq_exc, sq_bad, andR_ok, orR_ok, notR_ok, andV_ok, orV_ok, notV_ok, ifV_ok, truD_b, boolD_b, intD_i, tupR0, tupR1, tupR2, tupR3, tupR4, lstR0, lstR1, lstR2, lstR3, lstR4, lstR5, lstR6, lstR7, lstR8, lstR9, negD_i, slA3_l, slA3_t, tupleD_l, tupleD_t, listD_l, listD_t, revD_t, addE_ii, subD_ii, leD_ii, ltD_ii, geD_ii, gtI_ii, eqD_ii, neD_ii, isi_tup_tup, isi_tup_list, isi_tup_none, isi_tup_int, isi_tup_bool, isi_tup_str, isi_tup_dict, isi_int_int, isi_int_bool, isi_int_none, isi_int_str, isi_int_list, isi_int_tup, isi_int_dict, isi_bool_int, isi_bool_bool, isi_bool_none, isi_bool_str, isi_bool_list, isi_bool_tup, isi_bool_dict, lenD_t, lenD_l, seqD_l, seqD_t, List.getElem?_cons_zero, List.getElem?_cons_succ, List.set_cons_zero, List.set_cons_succ, ↓reduceIte, Bool.false_eq_true, Bool.not_true, Bool.not_false, sWp_ap, sWq_ap, wipeO_nx, wipeO_rt, wipeO_bk, wipeO_ct, wipeO_exc, wipeO_bad, wipeE_nil, wipeE_cons, fzE_ap, ownO_l, asgO_2, truD_l, truD_t, datI_ap, augN_ap, zip2_tt, zip2_ll, ld fun z hz => (hf c mc).1 z hz, tt, ee])
  rw [hfc] at cm
  simp only [f_law_all, sSeq_ap, sIf_ap, sRet_ap, sExpr_ap, sSet_ap, sSetO_ap, sFor_ap, sFz_ap, sFzb_ap, sAsg_ap, sSetItem_ap, sAugItem_ap, sAug_ap, sRaise_ap, sNil_ap, sBad_ap, mutO_ap, cA_ap, cNot_ap, cAnd_ap, cOr_ap, cIf_ap, cTup_ap, cLst_ap, pNone_ap, pSome_ap, wAnd_ap, wOr_ap, wNot_ap, wTru_ap, wCmp_ap, wYes_ap, iA_ap, iS_ap, aNil_ap, aCons_ap, kR_ap, b2_ap, b3_ap, c1_ap, chainD_ap, lcF_ap, datE_ap, datB_ap, ownAt_ap, endO_rt, endO_nx, endO_exc, endO_bad, bn_ok, bn_exc, bn_bad, to_ok, to_exc, to_bad, sq_nx, sq_rt, sq_bk, sq_ct, sq_exc, sq_bad, andR_ok, orR_ok, notR_ok, andV_ok, orV_ok, notV_ok, ifV_ok, truD_b, boolD_b, intD_i, tupR0, tupR1, tupR2, tupR3, tupR4, lstR0, lstR1, lstR2, lstR3, lstR4, lstR5, lstR6, lstR7, lstR8, lstR9, negD_i, slA3_l, slA3_t, tupleD_l, tupleD_t, listD_l, listD_t, revD_t, addE_ii, subD_ii, leD_ii, ltD_ii, geD_ii, gtI_ii, eqD_ii, neD_ii, isi_tup_tup, isi_tup_list, isi_tup_none, isi_tup_int, isi_tup_bool, isi_tup_str, isi_tup_dict, isi_int_int, isi_int_bool, isi_int_none, isi_int_str, isi_int_list, isi_int_tup, isi_int_dict, isi_bool_int, isi_bool_bool, isi_bool_none, isi_bool_str, isi_bool_list, isi_bool_tup, isi_bool_dict, lenD_t, lenD_l, seqD_l, seqD_t, List.getElem?_cons_zero, List.getElem?_cons_succ, List.set_cons_zero, List.set_cons_succ, ↓reduceIte, Bool.false_eq_true, Bool.not_true, Bool.not_false, sWp_ap, sWq_ap, wipeO_nx, wipeO_rt, wipeO_bk, wipeO_ct, wipeO_exc, wipeO_bad, wipeE_nil, wipeE_cons, fzE_ap, ownO_l, asgO_2, truD_l, truD_t, datI_ap, augN_ap, zip2_tt, zip2_ll, g1, ln, rg, lp', cm]
end
end Com
namespace DL
open PySem L2
/-! ### data that compare by being the same -/
structure Ni (n : Nat) (d : PyData) : Prop where
  p : plD d = true
  l : d.canLay0 = true
  d : d.depth ≤ n
theorem Ni.mono {n m : Nat} {d : PyData} (h : Ni n d) (hm : n ≤ m) : Ni m d := ⟨h.p, h.l, by have := h.d; omega⟩
theorem ni_int (i : Int) : Ni 1 (.int i) := ⟨rfl, by simp [PyData.canLay0], by simp [PyData.depth]⟩
theorem ni_none : Ni 1 .none := ⟨rfl, by simp [PyData.canLay0], by simp [PyData.depth]⟩
theorem ni_all {n : Nat} : ∀ {xs : List PyData}, (∀ x ∈ xs, Ni n x) → plA xs = true ∧ PyData.canLayAll0 xs = true ∧ PyData.depthAll xs ≤ n
  | [], _ => by simp [plA, PyData.canLayAll0, PyData.depthAll]
  | x :: xs, h => by
    have hx := h x List.mem_cons_self
    obtain ⟨h1, h2, h3⟩ := ni_all fun y m => h y (List.mem_cons_of_mem _ m)
    have := hx.d
    simp [plA, PyData.canLayAll0, PyData.depthAll, h1, h2, hx.p, hx.l]
    omega
theorem ni_tup {n : Nat} {xs : List PyData} (h : ∀ x ∈ xs, Ni n x) : Ni (n + 1) (.tuple xs) := by
  obtain ⟨h1, h2, h3⟩ := ni_all h
  exact ⟨by simp [plD, h1], by simp [PyData.canLay0, h2], by simp [PyData.depth]; omega⟩
theorem ni_lst {n : Nat} {xs : List PyData} (h : ∀ x ∈ xs, Ni n x) : Ni (n + 1) (.list xs) := by
  obtain ⟨h1, h2, h3⟩ := ni_all h
  exact ⟨by simp [plD, h1], by simp [PyData.canLay0, h2], by simp [PyData.depth]; omega⟩
theorem ni_map {α : Type} {n : Nat} {enc : α → PyData} (h : ∀ a, Ni n (enc a)) (xs : List α) : ∀ x ∈ xs.map enc, Ni n x := by
  intro x m
  obtain ⟨a, _, rfl⟩ := List.mem_map.mp m
  exact h a
theorem eqN_t {d : PyData} (h : Ni 50 d) : eqD d d = .ok (.bool true) := by
  obtain ⟨b, h1, h2⟩ := eqD_pl h.p h.p (by have := h.d; simp [layD, h.l]; omega) h.l
  rw [h1, h2.mpr rfl]
theorem eqN_f {d e : PyData} (h : Ni 50 d) (h' : Ni 50 e) (ne : d ≠ e) : eqD d e = .ok (.bool false) := by
  obtain ⟨b, h1, h2⟩ := eqD_pl h.p h'.p (by have := h.d; simp [layD, h.l]; omega) h'.l
  rw [h1]
  cases b with
  | true => exact absurd (h2.mp rfl) ne
  | false => rfl
theorem neN_t {d : PyData} (h : Ni 50 d) : neD d d = .ok (.bool false) := by
  obtain ⟨b, h1, h2⟩ := neD_pl h.p h.p (by have := h.d; simp [layD, h.l]; omega) h.l
  rw [h1, h2.mpr rfl]
theorem neN_f {d e : PyData} (h : Ni 50 d) (h' : Ni 50 e) (ne : d ≠ e) : neD d e = .ok (.bool true) := by
  obtain ⟨b, h1, h2⟩ := neD_pl h.p h'.p (by have := h.d; simp [layD, h.l]; omega) h'.l
  rw [h1]
  cases b with
  | false => exact absurd (h2.mp rfl) ne
  | true => rfl
section
variable {α : Type} [DecidableEq α] {enc : α → PyData} (inj : ∀ a b, enc a = enc b → a = b) (ni : ∀ a, Ni 50 (enc a))
include inj ni
theorem eqEnc (a b : α) : eqD (enc a) (enc b) = .ok (.bool (decide (a = b))) := by
  by_cases h : a = b
  · subst h
    rw [eqN_t (ni a), decide_eq_true rfl]
  · rw [eqN_f (ni a) (ni b) (fun e => h (inj a b e)), decide_eq_false h]
theorem neEnc (a b : α) : neD (enc a) (enc b) = .ok (.bool (!decide (a = b))) := by
  by_cases h : a = b
  · subst h
    rw [neN_t (ni a), decide_eq_true rfl]; rfl
  · rw [neN_f (ni a) (ni b) (fun e => h (inj a b e)), decide_eq_false h]; rfl
theorem eqvEnc (a b : α) : PyData.eqv (enc a) (enc b) = decide (a = b) := by
  rw [Bool.eq_iff_iff, eqv_pl _ _ (ni a).p (ni b).p, decide_eq_true_eq]
  exact ⟨inj a b, fun e => by rw [e]⟩
theorem anyEnc (a : α) (xs : List α) : (xs.map enc).any (fun z => PyData.eqv z (enc a)) = decide (a ∈ xs) := by
  induction xs with
  | nil => simp
  | cons x xs ih =>
    rw [List.map_cons, List.any_cons, ih, eqvEnc inj ni]
    by_cases h : x = a
    · subst h; simp
    · have h' : ¬ a = x := fun e => h e.symm
      simp [h, h']
theorem laidI_enc (a : α) (xs : List α) : laidI (enc a) (xs.map enc) = true := by
  obtain ⟨_, h2, h3⟩ := ni_all (ni_map ni xs)
  have := (ni a).d
  unfold laidI
  simp [h2, (ni a).l]
  omega
theorem inEnc_t (a : α) (xs : List α) : inD (enc a) (.tuple (xs.map enc)) = .ok (.bool (decide (a ∈ xs))) := by
  rw [← anyEnc inj ni]
  exact if_pos (laidI_enc inj ni a xs)
theorem inEnc_l (a : α) (xs : List α) : inD (enc a) (.list (xs.map enc)) = .ok (.bool (decide (a ∈ xs))) := by
  rw [← anyEnc inj ni]
  exact if_pos (laidI_enc inj ni a xs)
theorem ninEnc_t (a : α) (xs : List α) : ninD (enc a) (.tuple (xs.map enc)) = .ok (.bool (!decide (a ∈ xs))) := by
  rw [← anyEnc inj ni]
  exact if_pos (laidI_enc inj ni a xs)
theorem ninEnc_l (a : α) (xs : List α) : ninD (enc a) (.list (xs.map enc)) = .ok (.bool (!decide (a ∈ xs))) := by
  rw [← anyEnc inj ni]
  exact if_pos (laidI_enc inj ni a xs)
end
end DL
namespace Com
open PySem L2 DL
theorem int_inj (a b : Int) (h : PyData.int a = PyData.int b) : a = b := by cases h; rfl
theorem map_inj {α : Type} {enc : α → PyData} (inj : ∀ a b, enc a = enc b → a = b) : ∀ as bs : List α, as.map enc = bs.map enc → as = bs
  | [], [], _ => rfl
  | [], _ :: _, h => by cases h
  | _ :: _, [], h => by cases h
  | a :: as, b :: bs, h => by
    rw [List.map_cons, List.map_cons] at h
    obtain ⟨h1, h2⟩ := List.cons.inj h
    rw [inj a b h1, map_inj inj as bs h2]
theorem tI_inj (a b : List Int) (h : tI a = tI b) : a = b := map_inj int_inj a b (PyData.tuple.inj h)
theorem lI_inj (a b : List Int) (h : lI a = lI b) : a = b := map_inj int_inj a b (PyData.list.inj h)
theorem niI (i : Int) : Ni 50 (.int i) := (ni_int i).mono (by decide)
theorem ni_tI (a : List Int) : Ni 2 (tI a) := ni_tup (ni_map ni_int a)
theorem ni_lI (a : List Int) : Ni 2 (lI a) := ni_lst (ni_map ni_int a)
theorem niT (a : List Int) : Ni 50 (tI a) := (ni_tI a).mono (by decide)
theorem niL (a : List Int) : Ni 50 (lI a) := (ni_lI a).mono (by decide)
/-- a list of tuples of whole numbers -/
def lT (xs : List (List Int)) : PyData := .list (xs.map tI)
theorem lT_inj (a b : List (List Int)) (h : lT a = lT b) : a = b := map_inj tI_inj a b (PyData.list.inj h)
theorem ni_lT (a : List (List Int)) : Ni 3 (lT a) := ni_lst (ni_map ni_tI a)
theorem niLT (a : List (List Int)) : Ni 50 (lT a) := (ni_lT a).mono (by decide)
theorem eq_T (a b : List Int) : eqD (tI a) (tI b) = .ok (.bool (decide (a = b))) := eqEnc tI_inj niT a b
theorem ne_T (a b : List Int) : neD (tI a) (tI b) = .ok (.bool (!decide (a = b))) := neEnc tI_inj niT a b
theorem eq_LT (a b : List (List Int)) : eqD (lT a) (lT b) = .ok (.bool (decide (a = b))) := eqEnc lT_inj niLT a b
theorem ne_LT (a b : List (List Int)) : neD (lT a) (lT b) = .ok (.bool (!decide (a = b))) := neEnc lT_inj niLT a b
theorem in_tI (k : Int) (cs : List Int) : inD (.int k) (tI cs) = .ok (.bool (decide (k ∈ cs))) := inEnc_t int_inj niI k cs
theorem nin_tI (k : Int) (cs : List Int) : ninD (.int k) (tI cs) = .ok (.bool (!decide (k ∈ cs))) := ninEnc_t int_inj niI k cs
theorem in_lI (k : Int) (cs : List Int) : inD (.int k) (lI cs) = .ok (.bool (decide (k ∈ cs))) := inEnc_l int_inj niI k cs
theorem nin_lI (k : Int) (cs : List Int) : ninD (.int k) (lI cs) = .ok (.bool (!decide (k ∈ cs))) := ninEnc_l int_inj niI k cs
theorem in_lT (k : List Int) (cs : List (List Int)) : inD (tI k) (lT cs) = .ok (.bool (decide (k ∈ cs))) := (inEnc_l tI_inj niT k cs).trans (by congr)
theorem nin_lT (k : List Int) (cs : List (List Int)) : ninD (tI k) (lT cs) = .ok (.bool (!decide (k ∈ cs))) := (ninEnc_l tI_inj niT k cs).trans (by congr)
theorem ne_bb (a b : Bool) : neD (.bool a) (.bool b) = .ok (.bool (a != b)) := by
  cases a <;> cases b <;> kernel_rfl
theorem eq_bb (a b : Bool) : eqD (.bool a) (.bool b) = .ok (.bool (a == b)) := by
  cases a <;> cases b <;> kernel_rfl
theorem tru_lT (xs : List (List Int)) : truD (lT xs) = .ok (!xs.isEmpty) := by
  show R.ok (!(xs.map tI).isEmpty) = _
  rw [List.isEmpty_map]
theorem len_lT (xs : List (List Int)) : lenD (lT xs) = .ok (.int (xs.length : Int)) := by
  show R.ok (PyData.int ((xs.map tI).length : Int)) = _
  rw [List.length_map]
theorem len_tI (xs : List Int) : lenD (tI xs) = .ok (.int (xs.length : Int)) := by
  show R.ok (PyData.int ((xs.map PyData.int).length : Int)) = _
  rw [List.length_map]
theorem len_lI (xs : List Int) : lenD (lI xs) = .ok (.int (xs.length : Int)) := by
  show R.ok (PyData.int ((xs.map PyData.int).length : Int)) = _
  rw [List.length_map]
theorem rng2_n {i j : Int} (h0 : -1000 ≤ i) (h1 : i ≤ 1000) (h2 : -1000 ≤ j) (h : j ≤ 1000) : rng2 [.int i, .int j] = .ok (rangeL i (j - i).toNat) := by
  have sz := sz1000000
  exact if_pos ⟨⟨by omega, by omega, by omega, by omega⟩, by omega⟩
theorem rng1_n {n : Nat} (h : n ≤ 1000) : rng1 [.int (n : Int)] = .ok ((List.range n).map fun i : Nat => .int (i : Int)) := by
  rw [rng_n (by omega) (by omega), Int.toNat_natCast, rangeL_map]
end Com
namespace Com
open PySem L2 DL
/-! ### numbers from 0 on -/
def rg (n : Nat) : List Int := (List.range n).map fun i : Nat => (i : Int)
theorem rg_map (n : Nat) : (List.range n).map (fun i : Nat => PyData.int (i : Int)) = (rg n).map .int := by
  unfold rg
  rw [List.map_map]
  rfl
theorem rg_mem {n : Nat} {z : Int} : z ∈ rg n ↔ 0 ≤ z ∧ z < (n : Int) := by
  unfold rg
  rw [List.mem_map]
  constructor
  · rintro ⟨i, hi, rfl⟩
    rw [List.mem_range] at hi
    omega
  · intro h
    exact ⟨z.toNat, by rw [List.mem_range]; omega, by omega⟩
theorem rg_lt (n : Nat) : (rg n).Pairwise (· < ·) := by
  unfold rg
  rw [List.pairwise_map]
  exact List.pairwise_lt_range.imp fun h => by omega
theorem rng1_rg {n : Nat} (h : n ≤ 1000) : rng1 [.int (n : Int)] = .ok ((rg n).map .int) := by rw [rng1_n h, rg_map]
theorem listRg_rg {n : Nat} (h : n ≤ 1000) : listRgD (.int (n : Int)) = .ok (lI (rg n)) := by
  have hr : RgOk 0 (n : Int) := RgOk.of_le (by omega) (by omega) (by omega) (by omega)
  have e : listRgD (.int (n : Int)) = .ok (.list (rangeL 0 (n : Int).toNat)) := by
    unfold listRgD
    simp only [hr, ↓reduceIte]
  rw [e, Int.toNat_natCast, rangeL_map, rg_map]
  rfl
/-! ### ascending lists -/
theorem powF_asc : ∀ (m : Nat) (k : Int) (c : List Int), c ∈ powF m k → c.Pairwise (· < ·)
  | 0, k, c, h => by
    rw [powF, List.mem_singleton] at h
    subst h
    exact .nil
  | m + 1, k, c, h => by
    rw [powF, List.mem_append, List.mem_map] at h
    rcases h with ⟨d, hd, rfl⟩ | h
    · refine .cons (fun z hz => ?_) (powF_asc m (k + 1) d hd)
      have := powF_in m (k + 1) d hd z hz
      omega
    · exact powF_asc m (k + 1) c h
theorem powF_mem : ∀ (m : Nat) (k : Int) (c : List Int), c.Pairwise (· < ·) → (∀ z ∈ c, k ≤ z ∧ z < k + (m : Int)) → c ∈ powF m k
  | 0, k, [], _, _ => List.mem_singleton.mpr rfl
  | 0, k, z :: c, _, h => by
    have := h z List.mem_cons_self
    omega
  | m + 1, k, [], _, _ => by
    rw [powF, List.mem_append]
    exact .inr (powF_mem m (k + 1) [] .nil (by simp))
  | m + 1, k, z :: c, hp, h => by
    rw [powF, List.mem_append, List.mem_map]
    have hz := h z List.mem_cons_self
    have hc : ∀ {y : Int}, y ∈ c → z < y := fun hy => List.rel_of_pairwise_cons hp hy
    by_cases e : z = k
    · subst e
      refine .inl ⟨c, powF_mem m (z + 1) c (List.Pairwise.of_cons hp) fun y hy => ?_, rfl⟩
      have := hc hy
      have := h y (List.mem_cons_of_mem _ hy)
      omega
    · refine .inr (powF_mem m (k + 1) (z :: c) hp fun y hy => ?_)
      have := h y hy
      rcases List.mem_cons.mp hy with rfl | hy
      · omega
      · have := hc hy
        omega
theorem powF_nodup : ∀ (m : Nat) (k : Int), (powF m k).Nodup
  | 0, _ => by simp [powF]
  | m + 1, k => by
    rw [powF, List.nodup_append]
    refine ⟨?_, powF_nodup m (k + 1), ?_⟩
    · exact map_nodup (powF_nodup m (k + 1)) fun a _ b _ e => (List.cons.inj e).2
    · intro a ha b hb e
      subst e
      obtain ⟨d, _, rfl⟩ := List.mem_map.mp ha
      have := powF_in m (k + 1) _ hb k List.mem_cons_self
      omega
/-- a choice of n edges -/
def Ch (n : Nat) (c : List Int) : Prop := c.Pairwise (· < ·) ∧ ∀ z ∈ c, 0 ≤ z ∧ z < (n : Int)
theorem mem_pow {n : Nat} {c : List Int} : c ∈ powF n 0 ↔ Ch n c := by
  constructor
  · intro h
    exact ⟨powF_asc _ _ c h, fun z hz => by have := powF_in _ _ c h z hz; omega⟩
  · intro h
    exact powF_mem n 0 c h.1 fun z hz => by have := h.2 z hz; omega
theorem mem_allC {v : Int} {ps : List (Int × Int)} {ws c : List Int} : c ∈ allC v ps ws ↔ Ch ps.length c ∧ degL v ps c = ws := by
  unfold allC
  rw [List.mem_filter, mem_pow, decide_eq_true_eq]
theorem allC_nodup {v : Int} {ps : List (Int × Int)} {ws : List Int} : (allC v ps ws).Nodup := (powF_nodup _ _).filter _
theorem asc_ext {c d : List Int} (hc : c.Pairwise (· < ·)) (hd : d.Pairwise (· < ·)) (h : ∀ z, z ∈ c ↔ z ∈ d) : c = d := lt_ext hc hd h
theorem ch_rg (n : Nat) : Ch n (rg n) := ⟨rg_lt n, fun _ h => rg_mem.mp h⟩
theorem ch_filter {n : Nat} {c : List Int} (h : Ch n c) (p : Int → Bool) : Ch n (c.filter p) := ⟨h.1.filter p, fun z hz => h.2 z (List.mem_filter.mp hz).1⟩
theorem ch_as {n : Nat} {c : List Int} (h : Ch n c) : c = (rg n).filter fun z => decide (z ∈ c) := asc_ext h.1 ((rg_lt n).filter _) fun z => by
  rw [List.mem_filter, rg_mem, decide_eq_true_eq]
  exact ⟨fun hz => ⟨h.2 z hz, hz⟩, fun hz => hz.2⟩
theorem dgx_split (ps : List (Int × Int)) (p : Int → Bool) (x : Nat) : ∀ c : List Int, dgx ps c x = dgx ps (c.filter p) x + dgx ps (c.filter fun z => !p z) x
  | [] => rfl
  | z :: c => by
    rw [dgx_cons, dgx_split ps p x c, List.filter_cons, List.filter_cons]
    cases h : p z with
    | true => simp only [↓reduceIte, Bool.not_true, Bool.false_eq_true, dgx_cons]; omega
    | false => simp only [↓reduceIte, Bool.not_false, Bool.false_eq_true, dgx_cons]; omega
/-- all other edges -/
def compl (n : Nat) (c : List Int) : List Int := (rg n).filter fun z => !decide (z ∈ c)
theorem ch_compl (n : Nat) (c : List Int) : Ch n (compl n c) := ch_filter (ch_rg n) _
theorem compl_mem {n : Nat} {c : List Int} {z : Int} : z ∈ compl n c ↔ (0 ≤ z ∧ z < (n : Int)) ∧ z ∉ c := by
  unfold compl
  rw [List.mem_filter, rg_mem]
  simp
theorem compl_compl {n : Nat} {c : List Int} (h : Ch n c) : compl n (compl n c) = c := asc_ext (ch_compl _ _).1 h.1 fun z => by
  rw [compl_mem, compl_mem]
  constructor
  · rintro ⟨h1, h2⟩
    apply Classical.byContradiction
    intro h3
    exact h2 ⟨h1, h3⟩
  · intro hz
    exact ⟨h.2 z hz, fun h2 => h2.2 hz⟩
theorem dgx_compl {ps : List (Int × Int)} {c : List Int} (h : Ch ps.length c) (x : Nat) : dgx ps c x + dgx ps (compl ps.length c) x = dgx ps (rg ps.length) x := by
  have e := dgx_split ps (fun z => decide (z ∈ c)) x (rg ps.length)
  rw [← ch_as h] at e
  exact e.symm
/-! ### sorting tuples of whole numbers -/
theorem keyT_tI (c : List Int) : keyD (tI c) = some (c.map .i) := by
  show elsK (c.map .int) = _
  induction c with
  | nil => rfl
  | cons z c ih =>
    rw [List.map_cons, elsK, ih]
    rfl
theorem lexK_i : ∀ a b : List Int, lexK (a.map .i) (b.map .i) = DL.lexLt a b
  | [], [] => rfl
  | [], _ :: _ => rfl
  | _ :: _, [] => rfl
  | x :: a, y :: b => by
    rw [List.map_cons, List.map_cons, lexK, DL.lexLt, lexK_i a b]
    by_cases e : x = y
    · rw [if_pos e, if_pos (by rw [e])]
    · rw [if_neg e, if_neg (fun z => e (by cases z; rfl))]
      rfl
theorem agreeK_i : ∀ a b : List Int, agreeK (a.map .i) (b.map .i) = true
  | [], _ => by cases ‹List Int› <;> rfl
  | _ :: _, [] => rfl
  | x :: a, y :: b => by
    rw [List.map_cons, List.map_cons, agreeK, agreeK_i a b]
    rfl
theorem intsOf_tI (c : List Int) (cs : List (List Int)) : intsOf ((c :: cs).map tI) = none := rfl
theorem sort_lT {A : List (List Int)} (h : A.length ≤ 1 ∨ ∀ c ∈ A, c ≠ []) : sortE (lT A) = .ok (lT (isort DL.lexLt A)) := by
  show (if (A.map tI).length ≤ 1 then R.ok (PyData.list (A.map tI)) else sortD (.list (A.map tI))) = _
  rw [List.length_map]
  by_cases h1 : A.length ≤ 1
  · rw [if_pos h1]
    match A, h1 with
    | [], _ => rfl
    | [c], _ => rfl
  · rw [if_neg h1]
    have h2 : ∀ c ∈ A, c ≠ [] := by
      rcases h with h | h
      · exact absurd h h1
      · exact h
    have st : sortableT (A.map tI) = true := by
      unfold sortableT
      rw [List.all_eq_true]
      intro d md
      obtain ⟨c, mc, rfl⟩ := List.mem_map.mp md
      have k1 : keyT (tI c) = c.map .i := by unfold keyT; rw [keyT_tI]; rfl
      rw [keyT_tI, k1, Bool.and_eq_true, Bool.and_eq_true]
      refine ⟨⟨rfl, ?_⟩, ?_⟩
      · cases c with
        | nil => exact absurd rfl (h2 [] mc)
        | cons _ _ => rfl
      · rw [List.all_eq_true]
        intro e me
        obtain ⟨b, mb, rfl⟩ := List.mem_map.mp me
        have k2 : keyT (tI b) = b.map .i := by unfold keyT; rw [keyT_tI]; rfl
        rw [k2]
        exact agreeK_i c b
    match A, h1 with
    | c :: cs, _ =>
      show (match intsOf ((c :: cs).map tI) with
        | some ns => R.ok (PyData.list ((isort ltI ns).map PyData.int))
        | none => if sortableT ((c :: cs).map tI) = true then R.ok (PyData.list (isort ltT ((c :: cs).map tI))) else R.bad) = _
      rw [intsOf_tI]
      show (if sortableT ((c :: cs).map tI) = true then R.ok (PyData.list (isort ltT ((c :: cs).map tI))) else R.bad) = _
      rw [if_pos st, isort_map]
      have : (fun a b => ltT (tI a) (tI b)) = DL.lexLt := by
        funext a b
        unfold ltT keyT
        rw [keyT_tI, keyT_tI]
        exact lexK_i a b
      rw [this]
      rfl
theorem swo_lexLt : SrtO.Swo DL.lexLt where
  asym := fun x y h => lexLt_asym _ _ h
  tr := fun x y z h1 h2 => by
    rcases SrtO.bcase (DL.lexLt z x) with h | h
    · by_cases e : x = y
      · rw [e] at h
        rw [h2] at h; cases h
      · have h3 := lexLt_tri _ _ (fun q => e q.symm) h1
        have h4 := lexLt_trans _ _ _ h h3
        rw [h2] at h4; cases h4
    · exact h
theorem isort_of_perm {A B : List (List Int)} (h : A.Perm B) : isort DL.lexLt A = isort DL.lexLt B := by
  refine List.Perm.eq_of_pairwise (le := fun a b => DL.lexLt b a = false) (fun x y _ _ h1 h2 => ?_) (isort_srtd swo_lexLt A) (isort_srtd swo_lexLt B) ((isort_perm A).trans (h.trans (isort_perm B).symm))
  apply Classical.byContradiction
  intro ne
  have := lexLt_tri x y ne h2
  rw [h1] at this
  cases this
theorem lay_of_wish {v : Int} {ps : List (Int × Int)} (gk : Gok v ps) {ws : List Int} (hl : ws.length = v.toNat) : (allC v ps ws).length ≤ 1 ∨ ∀ c ∈ allC v ps ws, c ≠ [] := by
  by_cases h : [] ∈ allC v ps ws
  · left
    obtain ⟨_, h0⟩ := mem_allC.mp h
    have z := (degL_eq_iff gk (by simp) hl).mp h0
    have all : ∀ c ∈ allC v ps ws, c = [] := by
      intro c mc
      obtain ⟨hc, hd⟩ := mem_allC.mp mc
      have y := (degL_eq_iff gk hc.2 hl).mp hd
      cases c with
      | nil => rfl
      | cons e c =>
        have he := hc.2 e List.mem_cons_self
        have hp := gk.ed _ (eg_mem (ps := ps) he.1 he.2)
        have y1 := y (eg ps e).1.toNat
        have z1 := z (eg ps e).1.toNat
        rw [dgx_cons] at y1
        have := dgx_nn ps c (eg ps e).1.toNat
        have t : 1 ≤ tc (eg ps e) (eg ps e).1.toNat := by
          unfold tc
          rw [if_pos (by omega)]
          split <;> omega
        have zz : dgx ps [] (eg ps e).1.toNat = 0 := rfl
        omega
    have nd := allC_nodup (v := v) (ps := ps) (ws := ws)
    generalize allC v ps ws = A at *
    match A, nd, all with
    | [], _, _ => simp
    | [a], _, _ => simp
    | a :: b :: r, nd, all =>
      have e1 := all a List.mem_cons_self
      have e2 := all b (by simp)
      rw [e1, e2] at nd
      simp at nd
  · exact .inr fun c mc e => h (e ▸ mc)
theorem items_tI (c : List Int) : itemsD (tI c) = some c := intsOf_map c
theorem items_lI (c : List Int) : itemsD (lI c) = some c := intsOf_map c
theorem sum_tI (c : List Int) : sumA (tI c) = .ok (.int c.sum) := by unfold sumA; rw [items_tI]
theorem sum_lI (c : List Int) : sumA (lI c) = .ok (.int c.sum) := by unfold sumA; rw [items_lI]
theorem min_tI {c : List Int} (h : 0 < c.length) : min1D (tI c) = .ok (.int (minL c)) := by unfold min1D; rw [items_tI]; exact if_pos h
theorem max_tI {c : List Int} (h : 0 < c.length) : max1D (tI c) = .ok (.int (maxL c)) := by unfold max1D; rw [items_tI]; exact if_pos h
theorem min_lI {c : List Int} (h : 0 < c.length) : min1D (lI c) = .ok (.int (minL c)) := by unfold min1D; rw [items_lI]; exact if_pos h
theorem max_lI {c : List Int} (h : 0 < c.length) : max1D (lI c) = .ok (.int (maxL c)) := by unfold max1D; rw [items_lI]; exact if_pos h
theorem seq_lT (A : List (List Int)) : seqD (lT A) = .ok (A.map tI) := rfl
theorem filt_all {α : Type} {p : α → Bool} {l : List α} (h : ∀ x ∈ l, p x = true) : l.filter p = l := List.filter_eq_self.mpr h
theorem foldl_app1 {α β : Type} (f : α → β) : ∀ (xs : List α) (a : List β), xs.foldl (fun acc c => acc ++ [f c]) a = a ++ xs.map f
  | [], a => by simp
  | x :: xs, a => by
    rw [List.foldl_cons, foldl_app1 f xs, List.map_cons, List.append_assoc]
    rfl
end Com
namespace Com
open PySem L2 DL
def b_law_answers_1 : En → O :=
  (sWq [7, 8] (sSeq (sSet 8 (b2 (b2 (datB 3) (b2 (kR (.int 2)) (datB 7) addE) ixD) (c1 lenD (b2 (datB 1) (kR (.int 1)) ixD)) modD))
  (mutO 6 (aCons (cTup (aCons (datE 8) (aCons (b2 (b2 (datB 8) (datB 5) inD) (b2 (b2 (b2 (datB 3) (b2 (kR (.int 6)) (datB 7) addE) ixD) (kR (.int 8)) modD) (kR (.int 0)) eqD) neD) aNil))) aNil) gApp)))
def f_law_answers : En → O :=
  (sSeq (sSet 3 (cA m_law_row (aCons (datE 0) (aCons (kR (.int 7)) aNil))))
  (sSeq (sSet 4 (cA m_law_all (aCons (datE 1) (aCons (datE 2) aNil))))
  (sSeq (sIf (wCmp (b2 (b2 (datB 1) (kR (.int 1)) ixD) (cTup aNil) eqD))
  (sRet (cTup aNil))
  sNil)
  (sSeq (sSet 5 (cIf (wCmp (b2 (datB 4) (cLst aNil) neD)) (b2 (datB 4) (b2 (b2 (datB 3) (kR (.int 0)) ixD) (c1 lenD (datB 4)) modD) ixD) (cTup aNil)))
  (sSeq (sSetO 6 (cLst aNil))
  (sSeq (sWp [7, 8] (sFor (iA rng1 (aCons (b2 (b2 (datB 3) (kR (.int 1)) ixD) (kR (.int 4)) modD) aNil)) (gN 7) b_law_answers_1))
  (sRet (c1 tupleD (datB 6)))))))))
def m_law_answers : List PyData → R PyData := runF ["script", "graph", "wishes", "draws", "every", "choice", "found", "place", "number"] f_law_answers
theorem r_law_answers {a0 a1 a2 : PyData} : m_law_answers [a0, a1, a2] = endO (f_law_answers [.dat a0, .dat a1, .dat a2, .un, .un, .un, .un, .un, .un]) := runF_eq
def ct_law_agreeing_1 : En → R Bool :=
  (wCmp (b2 (b2 (datB 5) (datB 4) inD) (datB 6) neD))
def b_law_agreeing_1 : En → O :=
  (sWq [4] (sIf (wCmp (b2 (lcF (iS seqD (datE 2)) (gT (gsC (gN 5) (gsC (gN 6) gsN))) ct_law_agreeing_1 (kR (.int 1)) [5, 6]) (cLst aNil) eqD))
  (mutO 3 (aCons (datE 4) aNil) gApp)
  sNil))
def f_law_agreeing : En → O :=
  (sSeq (sSetO 3 (cLst aNil))
  (sSeq (sWp [4] (sFor (iS seqD (cA m_law_all (aCons (datE 0) (aCons (datE 1) aNil)))) (gN 4) b_law_agreeing_1))
  (sFz 3 (sRet (datE 3)))))
def m_law_agreeing : List PyData → R PyData := runF ["graph", "wishes", "answers", "found", "choice", "number", "told"] f_law_agreeing
theorem r_law_agreeing {a0 a1 a2 : PyData} : m_law_agreeing [a0, a1, a2] = endO (f_law_agreeing [.dat a0, .dat a1, .dat a2, .un, .un, .un, .un]) := runF_eq
def b_are_answers_1 : En → O :=
  (sWq [2] (sSeq (sIf (wOr (wNot (wTru (c1 (isiD "tuple") (datB 2)))) (wOr (wCmp (b2 (c1 lenD (datB 2)) (kR (.int 2)) neD)) (wNot (wTru (cA m_in_range (aCons (b2 (datB 2) (kR (.int 0)) ixD) (aCons (kR (.int 0)) (aCons (b2 (c1 lenD (b2 (datB 0) (kR (.int 1)) ixD)) (kR (.int 1)) subD) aNil))))))))
  (sRet (kR (.bool false)))
  sNil)
  (sIf (wNot (wTru (c1 (isiD "bool") (b2 (datB 2) (kR (.int 1)) ixD))))
  (sRet (kR (.bool false)))
  sNil)))
def f_are_answers : En → O :=
  (sSeq (sIf (wNot (wTru (c1 (isiD "tuple") (datB 1))))
  (sRet (kR (.bool false)))
  sNil)
  (sSeq (sWp [2] (sFor (iS seqD (datE 1)) (gN 2) b_are_answers_1))
  (sRet (kR (.bool true)))))
def m_are_answers : List PyData → R PyData := runF ["graph", "value", "answer"] f_are_answers
theorem r_are_answers {a0 a1 : PyData} : m_are_answers [a0, a1] = endO (f_are_answers [.dat a0, .dat a1, .un]) := runF_eq
def ct_candidates_1 : En → R Bool :=
  (wCmp (b2 (b2 (datB 5) (datB 4) inD) (datB 6) neD))
def ct_candidates_2 : En → R Bool :=
  (wNot (wTru (lcF (iS seqD (datE 2)) (gT (gsC (gN 5) (gsC (gN 6) gsN))) ct_candidates_1 (kR (.int 1)) [5, 6])))
def f_candidates : En → O :=
  (sSeq (sSet 3 (cA m_all_choices (aCons (datE 0) (aCons (datE 1) aNil))))
  (sSeq (sIf (wNot (wTru (cA m_are_answers (aCons (datE 0) (aCons (datE 2) aNil)))))
  (sRaise "InvalidAnswers")
  sNil)
  (sRet (lcF (iS seqD (datE 3)) (gN 4) ct_candidates_2 (datE 4) [4]))))
def m_candidates : List PyData → R PyData := runF ["graph", "wishes", "answers", "every", "choice", "number", "told"] f_candidates
theorem r_candidates {a0 a1 a2 : PyData} : m_candidates [a0, a1, a2] = endO (f_candidates [.dat a0, .dat a1, .dat a2, .un, .un, .un, .un]) := runF_eq
def f_found_choices : En → O :=
  (sSeq (sSet 3 (cA m_candidates (aCons (datE 0) (aCons (datE 1) (aCons (datE 2) aNil)))))
  (sSeq (sIf (wNot (wTru (datB 3)))
  (sRaise "NoChoice")
  sNil)
  (sRet (datE 3))))
def m_found_choices : List PyData → R PyData := runF ["graph", "wishes", "answers", "result"] f_found_choices
theorem r_found_choices {a0 a1 a2 : PyData} : m_found_choices [a0, a1, a2] = endO (f_found_choices [.dat a0, .dat a1, .dat a2, .un]) := runF_eq
def ct_best_question_1 : En → R Bool :=
  (wCmp (b2 (datB 5) (datB 8) inD))
def b_best_question_1 : En → O :=
  (sWq [5, 6, 7] (sSeq (sSet 6 (c1 lenD (lcF (iS seqD (datE 3)) (gN 8) ct_best_question_1 (datE 8) [8])))
  (sSeq (sSet 7 (b2 (datB 6) (b2 (c1 lenD (datB 3)) (datB 6) subD) max2D))
  (sIf (wAnd (wCmp (b2 (datB 7) (c1 lenD (datB 3)) ltD)) (wOr (wCmp (b2 (datB 4) (kR .none) isNoneD)) (wCmp (b2 (datB 7) (b2 (datB 4) (kR (.int 0)) ixD) ltD))))
  (sSet 4 (cTup (aCons (datE 7) (aCons (datE 5) aNil))))
  sNil))))
def f_best_question : En → O :=
  (sSeq (sSet 3 (cA m_found_choices (aCons (datE 0) (aCons (datE 1) (aCons (datE 2) aNil)))))
  (sSeq (sSet 4 (kR .none))
  (sSeq (sWp [5, 6, 7] (sFor (iA rng1 (aCons (c1 lenD (b2 (datB 0) (kR (.int 1)) ixD)) aNil)) (gN 5) b_best_question_1))
  (sRet (cIf (wCmp (b2 (datB 4) (kR .none) isNoneD)) (kR .none) (b2 (datB 4) (kR (.int 1)) ixD))))))
def m_best_question : List PyData → R PyData := runF ["graph", "wishes", "answers", "found", "best", "number", "many", "worst", "choice"] f_best_question
theorem r_best_question {a0 a1 a2 : PyData} : m_best_question [a0, a1, a2] = endO (f_best_question [.dat a0, .dat a1, .dat a2, .un, .un, .un, .un, .un, .un]) := runF_eq
end Com
namespace Com
open PySem L2 DL
/-! ### answers -/
def ansD (a : Int × Bool) : PyData := .tuple [.int a.1, .bool a.2]
def tA (as : List (Int × Bool)) : PyData := .tuple (as.map ansD)
def isAn (n : Nat) : PyData → Bool
  | .tuple [a, .bool _] => inR 0 ((n : Int) - 1) a
  | _ => false
def isAns (n : Nat) : PyData → Bool
  | .tuple xs => xs.all (isAn n)
  | _ => false
theorem goL_all {P : PyData → Bool} : ∀ (xs : List PyData), goL (fun (_ : Unit) x => if P x = true then some () else none) xs () = if xs.all P = true then some () else none
  | [] => rfl
  | x :: xs => by
    rw [goL, List.all_cons]
    cases h : P x with
    | true =>
      show goL _ xs () = _
      rw [goL_all xs]
      rfl
    | false => rfl
theorem are_answers_eq (v : Int) (ps : List (Int × Int)) (d : PyData) : m_are_answers [graphD v ps, d] = .ok (.bool (isAns ps.length d)) := by
  rw [r_are_answers]
  have g1 : ixD (graphD v ps) (.int 1) = .ok (.tuple (ps.map edgeD)) := gix1
  have ln : lenD (.tuple (ps.map edgeD)) = .ok (.int (ps.length : Int)) := glen
  generalize graphD v ps = G at *
  cases d with
  | tuple xs =>
    have body : ∀ x : PyData, b_are_answers_1 [.dat G, .dat (.tuple xs), .dat x] = if isAn ps.length x = true then .nx [.dat G, .dat (.tuple xs), .un] else .rt (.bool false) := by
      intro x
      cases x with
      | tuple ys =>
        by_cases h : ∃ a b, ys = [a, b]
        · obtain ⟨a, b, rfl⟩ := h
          cases hr : inR 0 ((ps.length : Int) - 1) a with
          | true =>
            cases b with
            | bool k => simp [b_are_answers_1, sSeq_ap, sIf_ap, sRet_ap, sExpr_ap, sSet_ap, sSetO_ap, sFor_ap, sFz_ap, sFzb_ap, sAsg_ap, sSetItem_ap, sAugItem_ap, sAug_ap, sRaise_ap, sNil_ap, sBad_ap, mutO_ap, cA_ap, cNot_ap, cAnd_ap, cOr_ap, cIf_ap, cTup_ap, cLst_ap, pNone_ap, pSome_ap, wAnd_ap, wOr_ap, wNot_ap, wTru_ap, wCmp_ap, wYes_ap, iA_ap, iS_ap, aNil_ap, aCons_ap, kR_ap, b2_ap, b3_ap, c1_ap, chainD_ap, lcF_ap, datE_ap, datB_ap, ownAt_ap, endO_rt, endO_nx, endO_exc, endO_bad, bn_ok, bn_exc, bn_bad, to_ok, to_exc, to_bad, sq_nx, sq_rt, sq_bk, sq_ct, sq_exc, sq_bad, andR_ok, orR_ok, notR_ok, andV_ok, orV_ok, notV_ok, ifV_ok, truD_b, boolD_b, intD_i, tupR0, tupR1, tupR2, tupR3, tupR4, lstR0, lstR1, lstR2, lstR3, lstR4, lstR5, lstR6, lstR7, lstR8, lstR9, negD_i, slA3_l, slA3_t, tupleD_l, tupleD_t, listD_l, listD_t, revD_t, addE_ii, subD_ii, leD_ii, ltD_ii, geD_ii, gtI_ii, eqD_ii, neD_ii, isi_tup_tup, isi_tup_list, isi_tup_none, isi_tup_int, isi_tup_bool, isi_tup_str, isi_tup_dict, isi_int_int, isi_int_bool, isi_int_none, isi_int_str, isi_int_list, isi_int_tup, isi_int_dict, isi_bool_int, isi_bool_bool, isi_bool_none, isi_bool_str, isi_bool_list, isi_bool_tup, isi_bool_dict, lenD_t, lenD_l, seqD_l, seqD_t, List.getElem?_cons_zero, List.getElem?_cons_succ, List.set_cons_zero, List.set_cons_succ, ↓reduceIte, Bool.false_eq_true, Bool.not_true, Bool.not_false, sWp_ap, sWq_ap, wipeO_nx, wipeO_rt, wipeO_bk, wipeO_ct, wipeO_exc, wipeO_bad, wipeE_nil, wipeE_cons, fzE_ap, DL.ownO_l, asgO_2, DL.truD_l, DL.truD_t, datI_ap, augN_ap, zip2_tt, zip2_ll, in_range_eq, ix_t0, ix_t1, g1, ln, hr, isAn]
            | _ => simp [b_are_answers_1, sSeq_ap, sIf_ap, sRet_ap, sExpr_ap, sSet_ap, sSetO_ap, sFor_ap, sFz_ap, sFzb_ap, sAsg_ap, sSetItem_ap, sAugItem_ap, sAug_ap, sRaise_ap, sNil_ap, sBad_ap, mutO_ap, cA_ap, cNot_ap, cAnd_ap, cOr_ap, cIf_ap, cTup_ap, cLst_ap, pNone_ap, pSome_ap, wAnd_ap, wOr_ap, wNot_ap, wTru_ap, wCmp_ap, wYes_ap, iA_ap, iS_ap, aNil_ap, aCons_ap, kR_ap, b2_ap, b3_ap, c1_ap, chainD_ap, lcF_ap, datE_ap, datB_ap, ownAt_ap, endO_rt, endO_nx, endO_exc, endO_bad, bn_ok, bn_exc, bn_bad, to_ok, to_exc, to_bad, sq_nx, sq_rt, sq_bk, sq_ct, sq_exc, sq_bad, andR_ok, orR_ok, notR_ok, andV_ok, orV_ok, notV_ok, ifV_ok, truD_b, boolD_b, intD_i, tupR0, tupR1, tupR2, tupR3, tupR4, lstR0, lstR1, lstR2, lstR3, lstR4, lstR5, lstR6, lstR7, lstR8, lstR9, negD_i, slA3_l, slA3_t, tupleD_l, tupleD_t, listD_l, listD_t, revD_t, addE_ii, subD_ii, leD_ii, ltD_ii, geD_ii, gtI_ii, eqD_ii, neD_ii, isi_tup_tup, isi_tup_list, isi_tup_none, isi_tup_int, isi_tup_bool, isi_tup_str, isi_tup_dict, isi_int_int, isi_int_bool, isi_int_none, isi_int_str, isi_int_list, isi_int_tup, isi_int_dict, isi_bool_int, isi_bool_bool, isi_bool_none, isi_bool_str, isi_bool_list, isi_bool_tup, isi_bool_dict, lenD_t, lenD_l, seqD_l, seqD_t, List.getElem?_cons_zero, List.getElem?_cons_succ, List.set_cons_zero, List.set_cons_succ, ↓reduceIte, Bool.false_eq_true, Bool.not_true, Bool.not_false, sWp_ap, sWq_ap, wipeO_nx, wipeO_rt, wipeO_bk, wipeO_ct, wipeO_exc, wipeO_bad, wipeE_nil, wipeE_cons, fzE_ap, DL.ownO_l, asgO_2, DL.truD_l, DL.truD_t, datI_ap, augN_ap, zip2_tt, zip2_ll, in_range_eq, ix_t0, ix_t1, g1, ln, hr, isAn]
          | false =>
            have e : isAn ps.length (.tuple [a, b]) = false := by
              cases b <;> simp [isAn, hr]
            simp [b_are_answers_1, sSeq_ap, sIf_ap, sRet_ap, sExpr_ap, sSet_ap, sSetO_ap, sFor_ap, sFz_ap, sFzb_ap, sAsg_ap, sSetItem_ap, sAugItem_ap, sAug_ap, sRaise_ap, sNil_ap, sBad_ap, mutO_ap, cA_ap, cNot_ap, cAnd_ap, cOr_ap, cIf_ap, cTup_ap, cLst_ap, pNone_ap, pSome_ap, wAnd_ap, wOr_ap, wNot_ap, wTru_ap, wCmp_ap, wYes_ap, iA_ap, iS_ap, aNil_ap, aCons_ap, kR_ap, b2_ap, b3_ap, c1_ap, chainD_ap, lcF_ap, datE_ap, datB_ap, ownAt_ap, endO_rt, endO_nx, endO_exc, endO_bad, bn_ok, bn_exc, bn_bad, to_ok, to_exc, to_bad, sq_nx, sq_rt, sq_bk, sq_ct, sq_exc, sq_bad, andR_ok, orR_ok, notR_ok, andV_ok, orV_ok, notV_ok, ifV_ok, truD_b, boolD_b, intD_i, tupR0, tupR1, tupR2, tupR3, tupR4, lstR0, lstR1, lstR2, lstR3, lstR4, lstR5, lstR6, lstR7, lstR8, lstR9, negD_i, slA3_l, slA3_t, tupleD_l, tupleD_t, listD_l, listD_t, revD_t, addE_ii, subD_ii, leD_ii, ltD_ii, geD_ii, gtI_ii, eqD_ii, neD_ii, isi_tup_tup, isi_tup_list, isi_tup_none, isi_tup_int, isi_tup_bool, isi_tup_str, isi_tup_dict, isi_int_int, isi_int_bool, isi_int_none, isi_int_str, isi_int_list, isi_int_tup, isi_int_dict, isi_bool_int, isi_bool_bool, isi_bool_none, isi_bool_str, isi_bool_list, isi_bool_tup, isi_bool_dict, lenD_t, lenD_l, seqD_l, seqD_t, List.getElem?_cons_zero, List.getElem?_cons_succ, List.set_cons_zero, List.set_cons_succ, ↓reduceIte, Bool.false_eq_true, Bool.not_true, Bool.not_false, sWp_ap, sWq_ap, wipeO_nx, wipeO_rt, wipeO_bk, wipeO_ct, wipeO_exc, wipeO_bad, wipeE_nil, wipeE_cons, fzE_ap, DL.ownO_l, asgO_2, DL.truD_l, DL.truD_t, datI_ap, augN_ap, zip2_tt, zip2_ll, in_range_eq, ix_t0, ix_t1, g1, ln, hr, e]
        · have h2 := len_ne2 fun a b e => h ⟨a, b, e⟩
          have e : isAn ps.length (.tuple ys) = false := by
            unfold isAn
            split
            · rename_i x b e
              cases e
              exact (h ⟨_, _, rfl⟩).elim
            · rfl
          simp [b_are_answers_1, sSeq_ap, sIf_ap, sRet_ap, sExpr_ap, sSet_ap, sSetO_ap, sFor_ap, sFz_ap, sFzb_ap, sAsg_ap, sSetItem_ap, sAugItem_ap, sAug_ap, sRaise_ap, sNil_ap, sBad_ap, mutO_ap, cA_ap, cNot_ap, cAnd_ap, cOr_ap, cIf_ap, cTup_ap, cLst_ap, pNone_ap, pSome_ap, wAnd_ap, wOr_ap, wNot_ap, wTru_ap, wCmp_ap, wYes_ap, iA_ap, iS_ap, aNil_ap, aCons_ap, kR_ap, b2_ap, b3_ap, c1_ap, chainD_ap, lcF_ap, datE_ap, datB_ap, ownAt_ap, endO_rt, endO_nx, endO_exc, endO_bad, bn_ok, bn_exc, bn_bad, to_ok, to_exc, to_bad, sq_nx, sq_rt, sq_bk, sq_ct, sq_exc, sq_bad, andR_ok, orR_ok, notR_ok, andV_ok, orV_ok, notV_ok, ifV_ok, truD_b, boolD_b, intD_i, tupR0, tupR1, tupR2, tupR3, tupR4, lstR0, lstR1, lstR2, lstR3, lstR4, lstR5, lstR6, lstR7, lstR8, lstR9, negD_i, slA3_l, slA3_t, tupleD_l, tupleD_t, listD_l, listD_t, revD_t, addE_ii, subD_ii, leD_ii, ltD_ii, geD_ii, gtI_ii, eqD_ii, neD_ii, isi_tup_tup, isi_tup_list, isi_tup_none, isi_tup_int, isi_tup_bool, isi_tup_str, isi_tup_dict, isi_int_int, isi_int_bool, isi_int_none, isi_int_str, isi_int_list, isi_int_tup, isi_int_dict, isi_bool_int, isi_bool_bool, isi_bool_none, isi_bool_str, isi_bool_list, isi_bool_tup, isi_bool_dict, lenD_t, lenD_l, seqD_l, seqD_t, List.getElem?_cons_zero, List.getElem?_cons_succ, List.set_cons_zero, List.set_cons_succ, ↓reduceIte, Bool.false_eq_true, Bool.not_true, Bool.not_false, sWp_ap, sWq_ap, wipeO_nx, wipeO_rt, wipeO_bk, wipeO_ct, wipeO_exc, wipeO_bad, wipeE_nil, wipeE_cons, fzE_ap, DL.ownO_l, asgO_2, DL.truD_l, DL.truD_t, datI_ap, augN_ap, zip2_tt, zip2_ll, h2, e]
      | _ => simp only [b_are_answers_1, sSeq_ap, sIf_ap, sRet_ap, sExpr_ap, sSet_ap, sSetO_ap, sFor_ap, sFz_ap, sFzb_ap, sAsg_ap, sSetItem_ap, sAugItem_ap, sAug_ap, sRaise_ap, sNil_ap, sBad_ap, mutO_ap, cA_ap, cNot_ap, cAnd_ap, cOr_ap, cIf_ap, cTup_ap, cLst_ap, pNone_ap, pSome_ap, wAnd_ap, wOr_ap, wNot_ap, wTru_ap, wCmp_ap, wYes_ap, iA_ap, iS_ap, aNil_ap, aCons_ap, kR_ap, b2_ap, b3_ap, c1_ap, chainD_ap, lcF_ap, datE_ap, datB_ap, ownAt_ap, endO_rt, endO_nx, endO_exc, endO_bad, bn_ok, bn_exc, bn_bad, to_ok, to_exc, to_bad, sq_nx, sq_rt, sq_bk, sq_ct, sq_exc, sq_bad, andR_ok, orR_ok, notR_ok, andV_ok, orV_ok, notV_ok, ifV_ok, truD_b, boolD_b, intD_i, tupR0, tupR1, tupR2, tupR3, tupR4, lstR0, lstR1, lstR2, lstR3, lstR4, lstR5, lstR6, lstR7, lstR8, lstR9, negD_i, slA3_l, slA3_t, tupleD_l, tupleD_t, listD_l, listD_t, revD_t, addE_ii, subD_ii, leD_ii, ltD_ii, geD_ii, gtI_ii, eqD_ii, neD_ii, isi_tup_tup, isi_tup_list, isi_tup_none, isi_tup_int, isi_tup_bool, isi_tup_str, isi_tup_dict, isi_int_int, isi_int_bool, isi_int_none, isi_int_str, isi_int_list, isi_int_tup, isi_int_dict, isi_bool_int, isi_bool_bool, isi_bool_none, isi_bool_str, isi_bool_list, isi_bool_tup, isi_bool_dict, lenD_t, lenD_l, seqD_l, seqD_t, List.getElem?_cons_zero, List.getElem?_cons_succ, List.set_cons_zero, List.set_cons_succ, ↓reduceIte, Bool.false_eq_true, Bool.not_true, Bool.not_false, sWp_ap, sWq_ap, wipeO_nx, wipeO_rt, wipeO_bk, wipeO_ct, wipeO_exc, wipeO_bad, wipeE_nil, wipeE_cons, fzE_ap, DL.ownO_l, asgO_2, DL.truD_l, DL.truD_t, datI_ap, augN_ap, zip2_tt, zip2_ll, isAn]
    have lp := forL_ret (ft := gN 2) (fb := b_are_answers_1) (fun (_ : Unit) r => r = [.dat G, .dat (.tuple xs), .un]) (fun _ x => if isAn ps.length x = true then some () else none) (.bool false) xs () [.dat G, .dat (.tuple xs), .un] (by
      rintro _ r x mx rfl
      refine ⟨[.dat G, .dat (.tuple xs), .dat x], rfl, ?_⟩
      rw [body x]
      cases isAn ps.length x with
      | true => exact ⟨_, rfl, rfl⟩
      | false => rfl) rfl
    rw [goL_all] at lp
    have ei : isAns ps.length (.tuple xs) = xs.all (isAn ps.length) := rfl
    rw [ei]
    cases ha : xs.all (isAn ps.length) with
    | true =>
      rw [ha] at lp
      obtain ⟨r', h1, rfl⟩ := lp
      simp only [f_are_answers, sSeq_ap, sIf_ap, sRet_ap, sExpr_ap, sSet_ap, sSetO_ap, sFor_ap, sFz_ap, sFzb_ap, sAsg_ap, sSetItem_ap, sAugItem_ap, sAug_ap, sRaise_ap, sNil_ap, sBad_ap, mutO_ap, cA_ap, cNot_ap, cAnd_ap, cOr_ap, cIf_ap, cTup_ap, cLst_ap, pNone_ap, pSome_ap, wAnd_ap, wOr_ap, wNot_ap, wTru_ap, wCmp_ap, wYes_ap, iA_ap, iS_ap, aNil_ap, aCons_ap, kR_ap, b2_ap, b3_ap, c1_ap, chainD_ap, lcF_ap, datE_ap, datB_ap, ownAt_ap, endO_rt, endO_nx, endO_exc, endO_bad, bn_ok, bn_exc, bn_bad, to_ok, to_exc, to_bad, sq_nx, sq_rt, sq_bk, sq_ct, sq_exc, sq_bad, andR_ok, orR_ok, notR_ok, andV_ok, orV_ok, notV_ok, ifV_ok, truD_b, boolD_b, intD_i, tupR0, tupR1, tupR2, tupR3, tupR4, lstR0, lstR1, lstR2, lstR3, lstR4, lstR5, lstR6, lstR7, lstR8, lstR9, negD_i, slA3_l, slA3_t, tupleD_l, tupleD_t, listD_l, listD_t, revD_t, addE_ii, subD_ii, leD_ii, ltD_ii, geD_ii, gtI_ii, eqD_ii, neD_ii, isi_tup_tup, isi_tup_list, isi_tup_none, isi_tup_int, isi_tup_bool, isi_tup_str, isi_tup_dict, isi_int_int, isi_int_bool, isi_int_none, isi_int_str, isi_int_list, isi_int_tup, isi_int_dict, isi_bool_int, isi_bool_bool, isi_bool_none, isi_bool_str, isi_bool_list, isi_bool_tup, isi_bool_dict, lenD_t, lenD_l, seqD_l, seqD_t, List.getElem?_cons_zero, List.getElem?_cons_succ, List.set_cons_zero, List.set_cons_succ, ↓reduceIte, Bool.false_eq_true, Bool.not_true, Bool.not_false, sWp_ap, sWq_ap, wipeO_nx, wipeO_rt, wipeO_bk, wipeO_ct, wipeO_exc, wipeO_bad, wipeE_nil, wipeE_cons, fzE_ap, DL.ownO_l, asgO_2, DL.truD_l, DL.truD_t, datI_ap, augN_ap, zip2_tt, zip2_ll, h1]
    | false =>
      rw [ha] at lp
      have lp : forL (gN 2) b_are_answers_1 xs [.dat G, .dat (.tuple xs), .un] = .rt (.bool false) := lp
      simp only [f_are_answers, sSeq_ap, sIf_ap, sRet_ap, sExpr_ap, sSet_ap, sSetO_ap, sFor_ap, sFz_ap, sFzb_ap, sAsg_ap, sSetItem_ap, sAugItem_ap, sAug_ap, sRaise_ap, sNil_ap, sBad_ap, mutO_ap, cA_ap, cNot_ap, cAnd_ap, cOr_ap, cIf_ap, cTup_ap, cLst_ap, pNone_ap, pSome_ap, wAnd_ap, wOr_ap, wNot_ap, wTru_ap, wCmp_ap, wYes_ap, iA_ap, iS_ap, aNil_ap, aCons_ap, kR_ap, b2_ap, b3_ap, c1_ap, chainD_ap, lcF_ap, datE_ap, datB_ap, ownAt_ap, endO_rt, endO_nx, endO_exc, endO_bad, bn_ok, bn_exc, bn_bad, to_ok, to_exc, to_bad, sq_nx, sq_rt, sq_bk, sq_ct, sq_exc, sq_bad, andR_ok, orR_ok, notR_ok, andV_ok, orV_ok, notV_ok, ifV_ok, truD_b, boolD_b, intD_i, tupR0, tupR1, tupR2, tupR3, tupR4, lstR0, lstR1, lstR2, lstR3, lstR4, lstR5, lstR6, lstR7, lstR8, lstR9, negD_i, slA3_l, slA3_t, tupleD_l, tupleD_t, listD_l, listD_t, revD_t, addE_ii, subD_ii, leD_ii, ltD_ii, geD_ii, gtI_ii, eqD_ii, neD_ii, isi_tup_tup, isi_tup_list, isi_tup_none, isi_tup_int, isi_tup_bool, isi_tup_str, isi_tup_dict, isi_int_int, isi_int_bool, isi_int_none, isi_int_str, isi_int_list, isi_int_tup, isi_int_dict, isi_bool_int, isi_bool_bool, isi_bool_none, isi_bool_str, isi_bool_list, isi_bool_tup, isi_bool_dict, lenD_t, lenD_l, seqD_l, seqD_t, List.getElem?_cons_zero, List.getElem?_cons_succ, List.set_cons_zero, List.set_cons_succ, ↓reduceIte, Bool.false_eq_true, Bool.not_true, Bool.not_false, sWp_ap, sWq_ap, wipeO_nx, wipeO_rt, wipeO_bk, wipeO_ct, wipeO_exc, wipeO_bad, wipeE_nil, wipeE_cons, fzE_ap, DL.ownO_l, asgO_2, DL.truD_l, DL.truD_t, datI_ap, augN_ap, zip2_tt, zip2_ll, lp]
  | _ => simp only [f_are_answers, sSeq_ap, sIf_ap, sRet_ap, sExpr_ap, sSet_ap, sSetO_ap, sFor_ap, sFz_ap, sFzb_ap, sAsg_ap, sSetItem_ap, sAugItem_ap, sAug_ap, sRaise_ap, sNil_ap, sBad_ap, mutO_ap, cA_ap, cNot_ap, cAnd_ap, cOr_ap, cIf_ap, cTup_ap, cLst_ap, pNone_ap, pSome_ap, wAnd_ap, wOr_ap, wNot_ap, wTru_ap, wCmp_ap, wYes_ap, iA_ap, iS_ap, aNil_ap, aCons_ap, kR_ap, b2_ap, b3_ap, c1_ap, chainD_ap, lcF_ap, datE_ap, datB_ap, ownAt_ap, endO_rt, endO_nx, endO_exc, endO_bad, bn_ok, bn_exc, bn_bad, to_ok, to_exc, to_bad, sq_nx, sq_rt, sq_bk, sq_ct, sq_exc, sq_bad, andR_ok, orR_ok, notR_ok, andV_ok, orV_ok, notV_ok, ifV_ok, truD_b, boolD_b, intD_i, tupR0, tupR1, tupR2, tupR3, tupR4, lstR0, lstR1, lstR2, lstR3, lstR4, lstR5, lstR6, lstR7, lstR8, lstR9, negD_i, slA3_l, slA3_t, tupleD_l, tupleD_t, listD_l, listD_t, revD_t, addE_ii, subD_ii, leD_ii, ltD_ii, geD_ii, gtI_ii, eqD_ii, neD_ii, isi_tup_tup, isi_tup_list, isi_tup_none, isi_tup_int, isi_tup_bool, isi_tup_str, isi_tup_dict, isi_int_int, isi_int_bool, isi_int_none, isi_int_str, isi_int_list, isi_int_tup, isi_int_dict, isi_bool_int, isi_bool_bool, isi_bool_none, isi_bool_str, isi_bool_list, isi_bool_tup, isi_bool_dict, lenD_t, lenD_l, seqD_l, seqD_t, List.getElem?_cons_zero, List.getElem?_cons_succ, List.set_cons_zero, List.set_cons_succ, ↓reduceIte, Bool.false_eq_true, Bool.not_true, Bool.not_false, sWp_ap, sWq_ap, wipeO_nx, wipeO_rt, wipeO_bk, wipeO_ct, wipeO_exc, wipeO_bad, wipeE_nil, wipeE_cons, fzE_ap, DL.ownO_l, asgO_2, DL.truD_l, DL.truD_t, datI_ap, augN_ap, zip2_tt, zip2_ll, isAns]
theorem isAns_tA {n : Nat} {as : List (Int × Bool)} (h : ∀ a ∈ as, 0 ≤ a.1 ∧ a.1 < (n : Int)) : isAns n (tA as) = true := by
  show (as.map ansD).all (isAn n) = true
  rw [List.all_eq_true]
  intro d md
  obtain ⟨a, ma, rfl⟩ := List.mem_map.mp md
  have := h a ma
  show (decide (0 ≤ a.1) && decide (a.1 ≤ (n : Int) - 1)) = true
  simp
  omega
theorem ones_nil {α : Type} (l : List α) : eqD (.list (l.map fun _ => .int 1)) (.list []) = .ok (.bool l.isEmpty) := by
  have e : (l.map fun _ => PyData.int 1) = (l.map fun _ => (1 : Int)).map .int := by rw [List.map_map]; rfl
  rw [e, eqD_nil1]
  cases l <;> simp
/-- whether a choice agrees with all answers -/
def agr (as : List (Int × Bool)) (c : List Int) : Bool := (as.filter fun a => decide (a.1 ∈ c) != a.2).isEmpty
/-- the candidates -/
def cand (v : Int) (ps : List (Int × Int)) (ws : List Int) (as : List (Int × Bool)) : List (List Int) := (allC v ps ws).filter (agr as)
section
variable {v : Int} {ps : List (Int × Int)} (gk : Gok v ps) {ws : List Int} (hl : ws.length = v.toNat)
include gk hl
theorem allC_4096 : (allC v ps ws).length ≤ 4096 := by
  have := allC_len (v := v) (ps := ps) (ws := ws)
  have p : 2 ^ ps.length ≤ 2 ^ 12 := Nat.pow_le_pow_right (by decide) gk.len
  omega
theorem law_agreeing_eq (as : List (Int × Bool)) : m_law_agreeing [graphD v ps, tI ws, tA as] = .ok (lT (cand v ps ws as)) := by
  rw [r_law_agreeing]
  have la : m_law_all [graphD v ps, tI ws] = .ok (lT (allC v ps ws)) := law_all_eq gk hl
  have a4 := allC_4096 gk hl
  have sz := sz1000000
  unfold cand
  generalize graphD v ps = G at *
  generalize allC v ps ws = A at *
  have sq : seqD (tA as) = .ok (as.map ansD) := rfl
  have lp := (forM (ft := gN 4) (fb := b_law_agreeing_1) tI (fun acc : List (List Int) => [.dat G, .dat (tI ws), .dat (tA as), .own (acc.map tI), .un, .un, .un]) (fun acc c => acc ++ (if agr as c = true then [c] else [])) (fun acc t => acc.length + t.length ≤ 5000) A [] (by
    intro acc c t ha
    rw [List.length_cons] at ha
    have cm := compM (ft := gT (gsC (gN 5) (gsC (gN 6) gsN))) (fc := ct_law_agreeing_1) (fe := kR (.int 1)) (r0 := [.dat G, .dat (tI ws), .dat (tA as), .own (acc.map tI), .dat (tI c), .un, .un]) ansD (fun a => decide (a.1 ∈ c) != a.2) (fun _ => .int 1) as (by
      rintro ⟨k, b⟩ _
      refine ⟨_, rfl, ?_, fun _ => rfl⟩
      simp only [ct_law_agreeing_1, sSeq_ap, sIf_ap, sRet_ap, sExpr_ap, sSet_ap, sSetO_ap, sFor_ap, sFz_ap, sFzb_ap, sAsg_ap, sSetItem_ap, sAugItem_ap, sAug_ap, sRaise_ap, sNil_ap, sBad_ap, mutO_ap, cA_ap, cNot_ap, cAnd_ap, cOr_ap, cIf_ap, cTup_ap, cLst_ap, pNone_ap, pSome_ap, wAnd_ap, wOr_ap, wNot_ap, wTru_ap, wCmp_ap, wYes_ap, iA_ap, iS_ap, aNil_ap, aCons_ap, kR_ap, b2_ap, b3_ap, c1_ap, chainD_ap, lcF_ap, datE_ap, datB_ap, ownAt_ap, endO_rt, endO_nx, endO_exc, endO_bad, bn_ok, bn_exc, bn_bad, to_ok, to_exc, to_bad, sq_nx, sq_rt, sq_bk, sq_ct, sq_exc, sq_bad, andR_ok, orR_ok, notR_ok, andV_ok, orV_ok, notV_ok, ifV_ok, truD_b, boolD_b, intD_i, tupR0, tupR1, tupR2, tupR3, tupR4, lstR0, lstR1, lstR2, lstR3, lstR4, lstR5, lstR6, lstR7, lstR8, lstR9, negD_i, slA3_l, slA3_t, tupleD_l, tupleD_t, listD_l, listD_t, revD_t, addE_ii, subD_ii, leD_ii, ltD_ii, geD_ii, gtI_ii, eqD_ii, neD_ii, isi_tup_tup, isi_tup_list, isi_tup_none, isi_tup_int, isi_tup_bool, isi_tup_str, isi_tup_dict, isi_int_int, isi_int_bool, isi_int_none, isi_int_str, isi_int_list, isi_int_tup, isi_int_dict, isi_bool_int, isi_bool_bool, isi_bool_none, isi_bool_str, isi_bool_list, isi_bool_tup, isi_bool_dict, lenD_t, lenD_l, seqD_l, seqD_t, List.getElem?_cons_zero, List.getElem?_cons_succ, List.set_cons_zero, List.set_cons_succ, ↓reduceIte, Bool.false_eq_true, Bool.not_true, Bool.not_false, sWp_ap, sWq_ap, wipeO_nx, wipeO_rt, wipeO_bk, wipeO_ct, wipeO_exc, wipeO_bad, wipeE_nil, wipeE_cons, fzE_ap, DL.ownO_l, asgO_2, DL.truD_l, DL.truD_t, datI_ap, augN_ap, zip2_tt, zip2_ll, in_tI, ne_bb])
    have hal : (acc.map tI).length < sizeLine := by rw [List.length_map]; omega
    refine ⟨_, rfl, ?_, by rw [List.length_append]; split <;> simp <;> omega⟩
    have on := ones_nil (as.filter fun a => decide (a.1 ∈ c) != a.2)
    cases h : agr as c with
    | true =>
      have on : eqD (.list ((as.filter fun a => decide (a.1 ∈ c) != a.2).map fun _ => .int 1)) (.list []) = .ok (.bool true) := on.trans (by rw [show (as.filter fun a => decide (a.1 ∈ c) != a.2).isEmpty = true from h])
      simp only [b_law_agreeing_1, sSeq_ap, sIf_ap, sRet_ap, sExpr_ap, sSet_ap, sSetO_ap, sFor_ap, sFz_ap, sFzb_ap, sAsg_ap, sSetItem_ap, sAugItem_ap, sAug_ap, sRaise_ap, sNil_ap, sBad_ap, mutO_ap, cA_ap, cNot_ap, cAnd_ap, cOr_ap, cIf_ap, cTup_ap, cLst_ap, pNone_ap, pSome_ap, wAnd_ap, wOr_ap, wNot_ap, wTru_ap, wCmp_ap, wYes_ap, iA_ap, iS_ap, aNil_ap, aCons_ap, kR_ap, b2_ap, b3_ap, c1_ap, chainD_ap, lcF_ap, datE_ap, datB_ap, ownAt_ap, endO_rt, endO_nx, endO_exc, endO_bad, bn_ok, bn_exc, bn_bad, to_ok, to_exc, to_bad, sq_nx, sq_rt, sq_bk, sq_ct, sq_exc, sq_bad, andR_ok, orR_ok, notR_ok, andV_ok, orV_ok, notV_ok, ifV_ok, truD_b, boolD_b, intD_i, tupR0, tupR1, tupR2, tupR3, tupR4, lstR0, lstR1, lstR2, lstR3, lstR4, lstR5, lstR6, lstR7, lstR8, lstR9, negD_i, slA3_l, slA3_t, tupleD_l, tupleD_t, listD_l, listD_t, revD_t, addE_ii, subD_ii, leD_ii, ltD_ii, geD_ii, gtI_ii, eqD_ii, neD_ii, isi_tup_tup, isi_tup_list, isi_tup_none, isi_tup_int, isi_tup_bool, isi_tup_str, isi_tup_dict, isi_int_int, isi_int_bool, isi_int_none, isi_int_str, isi_int_list, isi_int_tup, isi_int_dict, isi_bool_int, isi_bool_bool, isi_bool_none, isi_bool_str, isi_bool_list, isi_bool_tup, isi_bool_dict, lenD_t, lenD_l, seqD_l, seqD_t, List.getElem?_cons_zero, List.getElem?_cons_succ, List.set_cons_zero, List.set_cons_succ, ↓reduceIte, Bool.false_eq_true, Bool.not_true, Bool.not_false, sWp_ap, sWq_ap, wipeO_nx, wipeO_rt, wipeO_bk, wipeO_ct, wipeO_exc, wipeO_bad, wipeE_nil, wipeE_cons, fzE_ap, DL.ownO_l, asgO_2, DL.truD_l, DL.truD_t, datI_ap, augN_ap, zip2_tt, zip2_ll, sq, cm, on, gApp_ok hal]
      rw [List.map_append]
      rfl
    | false =>
      have on : eqD (.list ((as.filter fun a => decide (a.1 ∈ c) != a.2).map fun _ => .int 1)) (.list []) = .ok (.bool false) := on.trans (by rw [show (as.filter fun a => decide (a.1 ∈ c) != a.2).isEmpty = false from h])
      simp only [b_law_agreeing_1, sSeq_ap, sIf_ap, sRet_ap, sExpr_ap, sSet_ap, sSetO_ap, sFor_ap, sFz_ap, sFzb_ap, sAsg_ap, sSetItem_ap, sAugItem_ap, sAug_ap, sRaise_ap, sNil_ap, sBad_ap, mutO_ap, cA_ap, cNot_ap, cAnd_ap, cOr_ap, cIf_ap, cTup_ap, cLst_ap, pNone_ap, pSome_ap, wAnd_ap, wOr_ap, wNot_ap, wTru_ap, wCmp_ap, wYes_ap, iA_ap, iS_ap, aNil_ap, aCons_ap, kR_ap, b2_ap, b3_ap, c1_ap, chainD_ap, lcF_ap, datE_ap, datB_ap, ownAt_ap, endO_rt, endO_nx, endO_exc, endO_bad, bn_ok, bn_exc, bn_bad, to_ok, to_exc, to_bad, sq_nx, sq_rt, sq_bk, sq_ct, sq_exc, sq_bad, andR_ok, orR_ok, notR_ok, andV_ok, orV_ok, notV_ok, ifV_ok, truD_b, boolD_b, intD_i, tupR0, tupR1, tupR2, tupR3, tupR4, lstR0, lstR1, lstR2, lstR3, lstR4, lstR5, lstR6, lstR7, lstR8, lstR9, negD_i, slA3_l, slA3_t, tupleD_l, tupleD_t, listD_l, listD_t, revD_t, addE_ii, subD_ii, leD_ii, ltD_ii, geD_ii, gtI_ii, eqD_ii, neD_ii, isi_tup_tup, isi_tup_list, isi_tup_none, isi_tup_int, isi_tup_bool, isi_tup_str, isi_tup_dict, isi_int_int, isi_int_bool, isi_int_none, isi_int_str, isi_int_list, isi_int_tup, isi_int_dict, isi_bool_int, isi_bool_bool, isi_bool_none, isi_bool_str, isi_bool_list, isi_bool_tup, isi_bool_dict, lenD_t, lenD_l, seqD_l, seqD_t, List.getElem?_cons_zero, List.getElem?_cons_succ, List.set_cons_zero, List.set_cons_succ, ↓reduceIte, Bool.false_eq_true, Bool.not_true, Bool.not_false, sWp_ap, sWq_ap, wipeO_nx, wipeO_rt, wipeO_bk, wipeO_ct, wipeO_exc, wipeO_bad, wipeE_nil, wipeE_cons, fzE_ap, DL.ownO_l, asgO_2, DL.truD_l, DL.truD_t, datI_ap, augN_ap, zip2_tt, zip2_ll, sq, cm, on]
      rw [List.append_nil]) (by simp; omega)).1
  rw [foldl_flat, List.nil_append] at lp
  have fo : ∀ A : List (List Int), (A.flatMap fun c => if agr as c = true then [c] else []) = A.filter (agr as) := by
    intro A
    induction A with
    | nil => rfl
    | cons a A ih =>
      rw [List.flatMap_cons, ih, List.filter_cons]
      split <;> simp
  rw [fo] at lp
  have lp' : forL (gN 4) b_law_agreeing_1 (A.map tI) [.dat G, .dat (tI ws), .dat (tA as), .own [], .un, .un, .un] = .nx [.dat G, .dat (tI ws), .dat (tA as), .own ((A.filter (agr as)).map tI), .un, .un, .un] := lp
  simp only [f_law_agreeing, sSeq_ap, sIf_ap, sRet_ap, sExpr_ap, sSet_ap, sSetO_ap, sFor_ap, sFz_ap, sFzb_ap, sAsg_ap, sSetItem_ap, sAugItem_ap, sAug_ap, sRaise_ap, sNil_ap, sBad_ap, mutO_ap, cA_ap, cNot_ap, cAnd_ap, cOr_ap, cIf_ap, cTup_ap, cLst_ap, pNone_ap, pSome_ap, wAnd_ap, wOr_ap, wNot_ap, wTru_ap, wCmp_ap, wYes_ap, iA_ap, iS_ap, aNil_ap, aCons_ap, kR_ap, b2_ap, b3_ap, c1_ap, chainD_ap, lcF_ap, datE_ap, datB_ap, ownAt_ap, endO_rt, endO_nx, endO_exc, endO_bad, bn_ok, bn_exc, bn_bad, to_ok, to_exc, to_bad, sq_nx, sq_rt, sq_bk, sq_ct, sq_exc, sq_bad, andR_ok, orR_ok, notR_ok, andV_ok, orV_ok, notV_ok, ifV_ok, truD_b, boolD_b, intD_i, tupR0, tupR1, tupR2, tupR3, tupR4, lstR0, lstR1, lstR2, lstR3, lstR4, lstR5, lstR6, lstR7, lstR8, lstR9, negD_i, slA3_l, slA3_t, tupleD_l, tupleD_t, listD_l, listD_t, revD_t, addE_ii, subD_ii, leD_ii, ltD_ii, geD_ii, gtI_ii, eqD_ii, neD_ii, isi_tup_tup, isi_tup_list, isi_tup_none, isi_tup_int, isi_tup_bool, isi_tup_str, isi_tup_dict, isi_int_int, isi_int_bool, isi_int_none, isi_int_str, isi_int_list, isi_int_tup, isi_int_dict, isi_bool_int, isi_bool_bool, isi_bool_none, isi_bool_str, isi_bool_list, isi_bool_tup, isi_bool_dict, lenD_t, lenD_l, seqD_l, seqD_t, List.getElem?_cons_zero, List.getElem?_cons_succ, List.set_cons_zero, List.set_cons_succ, ↓reduceIte, Bool.false_eq_true, Bool.not_true, Bool.not_false, sWp_ap, sWq_ap, wipeO_nx, wipeO_rt, wipeO_bk, wipeO_ct, wipeO_exc, wipeO_bad, wipeE_nil, wipeE_cons, fzE_ap, DL.ownO_l, asgO_2, DL.truD_l, DL.truD_t, datI_ap, augN_ap, zip2_tt, zip2_ll, la, seq_lT, lp']
  rfl
variable (hw : ∀ w ∈ ws, 0 ≤ w ∧ w ≤ 6)
include hw
theorem candidates_bad {d : PyData} (h : isAns ps.length d = false) : m_candidates [graphD v ps, tI ws, d] = .exc "InvalidAnswers" none := by
  rw [r_candidates]
  have ac : m_all_choices [graphD v ps, tI ws] = .ok (lT (allC v ps ws)) := all_choices_eq gk hl hw
  simp only [f_candidates, sSeq_ap, sIf_ap, sRet_ap, sExpr_ap, sSet_ap, sSetO_ap, sFor_ap, sFz_ap, sFzb_ap, sAsg_ap, sSetItem_ap, sAugItem_ap, sAug_ap, sRaise_ap, sNil_ap, sBad_ap, mutO_ap, cA_ap, cNot_ap, cAnd_ap, cOr_ap, cIf_ap, cTup_ap, cLst_ap, pNone_ap, pSome_ap, wAnd_ap, wOr_ap, wNot_ap, wTru_ap, wCmp_ap, wYes_ap, iA_ap, iS_ap, aNil_ap, aCons_ap, kR_ap, b2_ap, b3_ap, c1_ap, chainD_ap, lcF_ap, datE_ap, datB_ap, ownAt_ap, endO_rt, endO_nx, endO_exc, endO_bad, bn_ok, bn_exc, bn_bad, to_ok, to_exc, to_bad, sq_nx, sq_rt, sq_bk, sq_ct, sq_exc, sq_bad, andR_ok, orR_ok, notR_ok, andV_ok, orV_ok, notV_ok, ifV_ok, truD_b, boolD_b, intD_i, tupR0, tupR1, tupR2, tupR3, tupR4, lstR0, lstR1, lstR2, lstR3, lstR4, lstR5, lstR6, lstR7, lstR8, lstR9, negD_i, slA3_l, slA3_t, tupleD_l, tupleD_t, listD_l, listD_t, revD_t, addE_ii, subD_ii, leD_ii, ltD_ii, geD_ii, gtI_ii, eqD_ii, neD_ii, isi_tup_tup, isi_tup_list, isi_tup_none, isi_tup_int, isi_tup_bool, isi_tup_str, isi_tup_dict, isi_int_int, isi_int_bool, isi_int_none, isi_int_str, isi_int_list, isi_int_tup, isi_int_dict, isi_bool_int, isi_bool_bool, isi_bool_none, isi_bool_str, isi_bool_list, isi_bool_tup, isi_bool_dict, lenD_t, lenD_l, seqD_l, seqD_t, List.getElem?_cons_zero, List.getElem?_cons_succ, List.set_cons_zero, List.set_cons_succ, ↓reduceIte, Bool.false_eq_true, Bool.not_true, Bool.not_false, sWp_ap, sWq_ap, wipeO_nx, wipeO_rt, wipeO_bk, wipeO_ct, wipeO_exc, wipeO_bad, wipeE_nil, wipeE_cons, fzE_ap, DL.ownO_l, asgO_2, DL.truD_l, DL.truD_t, datI_ap, augN_ap, zip2_tt, zip2_ll, ac, are_answers_eq, h]
theorem candidates_eq {as : List (Int × Bool)} (has : ∀ a ∈ as, 0 ≤ a.1 ∧ a.1 < (ps.length : Int)) : m_candidates [graphD v ps, tI ws, tA as] = .ok (lT (cand v ps ws as)) := by
  rw [r_candidates]
  have ac : m_all_choices [graphD v ps, tI ws] = .ok (lT (allC v ps ws)) := all_choices_eq gk hl hw
  have aa := are_answers_eq v ps (tA as)
  rw [isAns_tA has] at aa
  unfold cand
  generalize graphD v ps = G at *
  generalize allC v ps ws = A at *
  have sq : seqD (tA as) = .ok (as.map ansD) := rfl
  have cm2 := compM (ft := gN 4) (fc := ct_candidates_2) (fe := datE 4) (r0 := [.dat G, .dat (tI ws), .dat (tA as), .dat (lT A), .un, .un, .un]) tI (agr as) tI A (by
    intro c _
    refine ⟨_, rfl, ?_, fun _ => rfl⟩
    have cm := compM (ft := gT (gsC (gN 5) (gsC (gN 6) gsN))) (fc := ct_candidates_1) (fe := kR (.int 1)) (r0 := [.dat G, .dat (tI ws), .dat (tA as), .dat (lT A), .dat (tI c), .un, .un]) ansD (fun a => decide (a.1 ∈ c) != a.2) (fun _ => .int 1) as (by
      rintro ⟨k, b⟩ _
      refine ⟨_, rfl, ?_, fun _ => rfl⟩
      simp only [ct_candidates_1, sSeq_ap, sIf_ap, sRet_ap, sExpr_ap, sSet_ap, sSetO_ap, sFor_ap, sFz_ap, sFzb_ap, sAsg_ap, sSetItem_ap, sAugItem_ap, sAug_ap, sRaise_ap, sNil_ap, sBad_ap, mutO_ap, cA_ap, cNot_ap, cAnd_ap, cOr_ap, cIf_ap, cTup_ap, cLst_ap, pNone_ap, pSome_ap, wAnd_ap, wOr_ap, wNot_ap, wTru_ap, wCmp_ap, wYes_ap, iA_ap, iS_ap, aNil_ap, aCons_ap, kR_ap, b2_ap, b3_ap, c1_ap, chainD_ap, lcF_ap, datE_ap, datB_ap, ownAt_ap, endO_rt, endO_nx, endO_exc, endO_bad, bn_ok, bn_exc, bn_bad, to_ok, to_exc, to_bad, sq_nx, sq_rt, sq_bk, sq_ct, sq_exc, sq_bad, andR_ok, orR_ok, notR_ok, andV_ok, orV_ok, notV_ok, ifV_ok, truD_b, boolD_b, intD_i, tupR0, tupR1, tupR2, tupR3, tupR4, lstR0, lstR1, lstR2, lstR3, lstR4, lstR5, lstR6, lstR7, lstR8, lstR9, negD_i, slA3_l, slA3_t, tupleD_l, tupleD_t, listD_l, listD_t, revD_t, addE_ii, subD_ii, leD_ii, ltD_ii, geD_ii, gtI_ii, eqD_ii, neD_ii, isi_tup_tup, isi_tup_list, isi_tup_none, isi_tup_int, isi_tup_bool, isi_tup_str, isi_tup_dict, isi_int_int, isi_int_bool, isi_int_none, isi_int_str, isi_int_list, isi_int_tup, isi_int_dict, isi_bool_int, isi_bool_bool, isi_bool_none, isi_bool_str, isi_bool_list, isi_bool_tup, isi_bool_dict, lenD_t, lenD_l, seqD_l, seqD_t, List.getElem?_cons_zero, List.getElem?_cons_succ, List.set_cons_zero, List.set_cons_succ, ↓reduceIte, Bool.false_eq_true, Bool.not_true, Bool.not_false, sWp_ap, sWq_ap, wipeO_nx, wipeO_rt, wipeO_bk, wipeO_ct, wipeO_exc, wipeO_bad, wipeE_nil, wipeE_cons, fzE_ap, DL.ownO_l, asgO_2, DL.truD_l, DL.truD_t, datI_ap, augN_ap, zip2_tt, zip2_ll, in_tI, ne_bb])
    simp only [ct_candidates_2, sSeq_ap, sIf_ap, sRet_ap, sExpr_ap, sSet_ap, sSetO_ap, sFor_ap, sFz_ap, sFzb_ap, sAsg_ap, sSetItem_ap, sAugItem_ap, sAug_ap, sRaise_ap, sNil_ap, sBad_ap, mutO_ap, cA_ap, cNot_ap, cAnd_ap, cOr_ap, cIf_ap, cTup_ap, cLst_ap, pNone_ap, pSome_ap, wAnd_ap, wOr_ap, wNot_ap, wTru_ap, wCmp_ap, wYes_ap, iA_ap, iS_ap, aNil_ap, aCons_ap, kR_ap, b2_ap, b3_ap, c1_ap, chainD_ap, lcF_ap, datE_ap, datB_ap, ownAt_ap, endO_rt, endO_nx, endO_exc, endO_bad, bn_ok, bn_exc, bn_bad, to_ok, to_exc, to_bad, sq_nx, sq_rt, sq_bk, sq_ct, sq_exc, sq_bad, andR_ok, orR_ok, notR_ok, andV_ok, orV_ok, notV_ok, ifV_ok, truD_b, boolD_b, intD_i, tupR0, tupR1, tupR2, tupR3, tupR4, lstR0, lstR1, lstR2, lstR3, lstR4, lstR5, lstR6, lstR7, lstR8, lstR9, negD_i, slA3_l, slA3_t, tupleD_l, tupleD_t, listD_l, listD_t, revD_t, addE_ii, subD_ii, leD_ii, ltD_ii, geD_ii, gtI_ii, eqD_ii, neD_ii, isi_tup_tup, isi_tup_list, isi_tup_none, isi_tup_int, isi_tup_bool, isi_tup_str, isi_tup_dict, isi_int_int, isi_int_bool, isi_int_none, isi_int_str, isi_int_list, isi_int_tup, isi_int_dict, isi_bool_int, isi_bool_bool, isi_bool_none, isi_bool_str, isi_bool_list, isi_bool_tup, isi_bool_dict, lenD_t, lenD_l, seqD_l, seqD_t, List.getElem?_cons_zero, List.getElem?_cons_succ, List.set_cons_zero, List.set_cons_succ, ↓reduceIte, Bool.false_eq_true, Bool.not_true, Bool.not_false, sWp_ap, sWq_ap, wipeO_nx, wipeO_rt, wipeO_bk, wipeO_ct, wipeO_exc, wipeO_bad, wipeE_nil, wipeE_cons, fzE_ap, DL.ownO_l, asgO_2, DL.truD_l, DL.truD_t, datI_ap, augN_ap, zip2_tt, zip2_ll, sq, cm, List.isEmpty_map, Bool.not_not]
    rfl)
  simp only [f_candidates, sSeq_ap, sIf_ap, sRet_ap, sExpr_ap, sSet_ap, sSetO_ap, sFor_ap, sFz_ap, sFzb_ap, sAsg_ap, sSetItem_ap, sAugItem_ap, sAug_ap, sRaise_ap, sNil_ap, sBad_ap, mutO_ap, cA_ap, cNot_ap, cAnd_ap, cOr_ap, cIf_ap, cTup_ap, cLst_ap, pNone_ap, pSome_ap, wAnd_ap, wOr_ap, wNot_ap, wTru_ap, wCmp_ap, wYes_ap, iA_ap, iS_ap, aNil_ap, aCons_ap, kR_ap, b2_ap, b3_ap, c1_ap, chainD_ap, lcF_ap, datE_ap, datB_ap, ownAt_ap, endO_rt, endO_nx, endO_exc, endO_bad, bn_ok, bn_exc, bn_bad, to_ok, to_exc, to_bad, sq_nx, sq_rt, sq_bk, sq_ct, sq_exc, sq_bad, andR_ok, orR_ok, notR_ok, andV_ok, orV_ok, notV_ok, ifV_ok, truD_b, boolD_b, intD_i, tupR0, tupR1, tupR2, tupR3, tupR4, lstR0, lstR1, lstR2, lstR3, lstR4, lstR5, lstR6, lstR7, lstR8, lstR9, negD_i, slA3_l, slA3_t, tupleD_l, tupleD_t, listD_l, listD_t, revD_t, addE_ii, subD_ii, leD_ii, ltD_ii, geD_ii, gtI_ii, eqD_ii, neD_ii, isi_tup_tup, isi_tup_list, isi_tup_none, isi_tup_int, isi_tup_bool, isi_tup_str, isi_tup_dict, isi_int_int, isi_int_bool, isi_int_none, isi_int_str, isi_int_list, isi_int_tup, isi_int_dict, isi_bool_int, isi_bool_bool, isi_bool_none, isi_bool_str, isi_bool_list, isi_bool_tup, isi_bool_dict, lenD_t, lenD_l, seqD_l, seqD_t, List.getElem?_cons_zero, List.getElem?_cons_succ, List.set_cons_zero, List.set_cons_succ, ↓reduceIte, Bool.false_eq_true, Bool.not_true, Bool.not_false, sWp_ap, sWq_ap, wipeO_nx, wipeO_rt, wipeO_bk, wipeO_ct, wipeO_exc, wipeO_bad, wipeE_nil, wipeE_cons, fzE_ap, DL.ownO_l, asgO_2, DL.truD_l, DL.truD_t, datI_ap, augN_ap, zip2_tt, zip2_ll, ac, aa, seq_lT, cm2]
  rfl
theorem found_choices_eq {as : List (Int × Bool)} (has : ∀ a ∈ as, 0 ≤ a.1 ∧ a.1 < (ps.length : Int)) : m_found_choices [graphD v ps, tI ws, tA as] = if cand v ps ws as = [] then .exc "NoChoice" none else .ok (lT (cand v ps ws as)) := by
  rw [r_found_choices]
  have ce := candidates_eq gk hl hw has
  generalize cand v ps ws as = C at *
  cases C with
  | nil => simp only [f_found_choices, sSeq_ap, sIf_ap, sRet_ap, sExpr_ap, sSet_ap, sSetO_ap, sFor_ap, sFz_ap, sFzb_ap, sAsg_ap, sSetItem_ap, sAugItem_ap, sAug_ap, sRaise_ap, sNil_ap, sBad_ap, mutO_ap, cA_ap, cNot_ap, cAnd_ap, cOr_ap, cIf_ap, cTup_ap, cLst_ap, pNone_ap, pSome_ap, wAnd_ap, wOr_ap, wNot_ap, wTru_ap, wCmp_ap, wYes_ap, iA_ap, iS_ap, aNil_ap, aCons_ap, kR_ap, b2_ap, b3_ap, c1_ap, chainD_ap, lcF_ap, datE_ap, datB_ap, ownAt_ap, endO_rt, endO_nx, endO_exc, endO_bad, bn_ok, bn_exc, bn_bad, to_ok, to_exc, to_bad, sq_nx, sq_rt, sq_bk, sq_ct, sq_exc, sq_bad, andR_ok, orR_ok, notR_ok, andV_ok, orV_ok, notV_ok, ifV_ok, truD_b, boolD_b, intD_i, tupR0, tupR1, tupR2, tupR3, tupR4, lstR0, lstR1, lstR2, lstR3, lstR4, lstR5, lstR6, lstR7, lstR8, lstR9, negD_i, slA3_l, slA3_t, tupleD_l, tupleD_t, listD_l, listD_t, revD_t, addE_ii, subD_ii, leD_ii, ltD_ii, geD_ii, gtI_ii, eqD_ii, neD_ii, isi_tup_tup, isi_tup_list, isi_tup_none, isi_tup_int, isi_tup_bool, isi_tup_str, isi_tup_dict, isi_int_int, isi_int_bool, isi_int_none, isi_int_str, isi_int_list, isi_int_tup, isi_int_dict, isi_bool_int, isi_bool_bool, isi_bool_none, isi_bool_str, isi_bool_list, isi_bool_tup, isi_bool_dict, lenD_t, lenD_l, seqD_l, seqD_t, List.getElem?_cons_zero, List.getElem?_cons_succ, List.set_cons_zero, List.set_cons_succ, ↓reduceIte, Bool.false_eq_true, Bool.not_true, Bool.not_false, sWp_ap, sWq_ap, wipeO_nx, wipeO_rt, wipeO_bk, wipeO_ct, wipeO_exc, wipeO_bad, wipeE_nil, wipeE_cons, fzE_ap, DL.ownO_l, asgO_2, DL.truD_l, DL.truD_t, datI_ap, augN_ap, zip2_tt, zip2_ll, ce, tru_lT, List.isEmpty_nil]
  | cons c cs => simp only [f_found_choices, sSeq_ap, sIf_ap, sRet_ap, sExpr_ap, sSet_ap, sSetO_ap, sFor_ap, sFz_ap, sFzb_ap, sAsg_ap, sSetItem_ap, sAugItem_ap, sAug_ap, sRaise_ap, sNil_ap, sBad_ap, mutO_ap, cA_ap, cNot_ap, cAnd_ap, cOr_ap, cIf_ap, cTup_ap, cLst_ap, pNone_ap, pSome_ap, wAnd_ap, wOr_ap, wNot_ap, wTru_ap, wCmp_ap, wYes_ap, iA_ap, iS_ap, aNil_ap, aCons_ap, kR_ap, b2_ap, b3_ap, c1_ap, chainD_ap, lcF_ap, datE_ap, datB_ap, ownAt_ap, endO_rt, endO_nx, endO_exc, endO_bad, bn_ok, bn_exc, bn_bad, to_ok, to_exc, to_bad, sq_nx, sq_rt, sq_bk, sq_ct, sq_exc, sq_bad, andR_ok, orR_ok, notR_ok, andV_ok, orV_ok, notV_ok, ifV_ok, truD_b, boolD_b, intD_i, tupR0, tupR1, tupR2, tupR3, tupR4, lstR0, lstR1, lstR2, lstR3, lstR4, lstR5, lstR6, lstR7, lstR8, lstR9, negD_i, slA3_l, slA3_t, tupleD_l, tupleD_t, listD_l, listD_t, revD_t, addE_ii, subD_ii, leD_ii, ltD_ii, geD_ii, gtI_ii, eqD_ii, neD_ii, isi_tup_tup, isi_tup_list, isi_tup_none, isi_tup_int, isi_tup_bool, isi_tup_str, isi_tup_dict, isi_int_int, isi_int_bool, isi_int_none, isi_int_str, isi_int_list, isi_int_tup, isi_int_dict, isi_bool_int, isi_bool_bool, isi_bool_none, isi_bool_str, isi_bool_list, isi_bool_tup, isi_bool_dict, lenD_t, lenD_l, seqD_l, seqD_t, List.getElem?_cons_zero, List.getElem?_cons_succ, List.set_cons_zero, List.set_cons_succ, ↓reduceIte, Bool.false_eq_true, Bool.not_true, Bool.not_false, sWp_ap, sWq_ap, wipeO_nx, wipeO_rt, wipeO_bk, wipeO_ct, wipeO_exc, wipeO_bad, wipeE_nil, wipeE_cons, fzE_ap, DL.ownO_l, asgO_2, DL.truD_l, DL.truD_t, datI_ap, augN_ap, zip2_tt, zip2_ll, ce, tru_lT, List.isEmpty_cons, reduceCtorEq]
theorem found_choices_bad {d : PyData} (h : isAns ps.length d = false) : m_found_choices [graphD v ps, tI ws, d] = .exc "InvalidAnswers" none := by
  rw [r_found_choices]
  simp only [f_found_choices, sSeq_ap, sIf_ap, sRet_ap, sExpr_ap, sSet_ap, sSetO_ap, sFor_ap, sFz_ap, sFzb_ap, sAsg_ap, sSetItem_ap, sAugItem_ap, sAug_ap, sRaise_ap, sNil_ap, sBad_ap, mutO_ap, cA_ap, cNot_ap, cAnd_ap, cOr_ap, cIf_ap, cTup_ap, cLst_ap, pNone_ap, pSome_ap, wAnd_ap, wOr_ap, wNot_ap, wTru_ap, wCmp_ap, wYes_ap, iA_ap, iS_ap, aNil_ap, aCons_ap, kR_ap, b2_ap, b3_ap, c1_ap, chainD_ap, lcF_ap, datE_ap, datB_ap, ownAt_ap, endO_rt, endO_nx, endO_exc, endO_bad, bn_ok, bn_exc, bn_bad, to_ok, to_exc, to_bad, sq_nx, sq_rt, sq_bk, sq_ct, sq_exc, sq_bad, andR_ok, orR_ok, notR_ok, andV_ok, orV_ok, notV_ok, ifV_ok, truD_b, boolD_b, intD_i, tupR0, tupR1, tupR2, tupR3, tupR4, lstR0, lstR1, lstR2, lstR3, lstR4, lstR5, lstR6, lstR7, lstR8, lstR9, negD_i, slA3_l, slA3_t, tupleD_l, tupleD_t, listD_l, listD_t, revD_t, addE_ii, subD_ii, leD_ii, ltD_ii, geD_ii, gtI_ii, eqD_ii, neD_ii, isi_tup_tup, isi_tup_list, isi_tup_none, isi_tup_int, isi_tup_bool, isi_tup_str, isi_tup_dict, isi_int_int, isi_int_bool, isi_int_none, isi_int_str, isi_int_list, isi_int_tup, isi_int_dict, isi_bool_int, isi_bool_bool, isi_bool_none, isi_bool_str, isi_bool_list, isi_bool_tup, isi_bool_dict, lenD_t, lenD_l, seqD_l, seqD_t, List.getElem?_cons_zero, List.getElem?_cons_succ, List.set_cons_zero, List.set_cons_succ, ↓reduceIte, Bool.false_eq_true, Bool.not_true, Bool.not_false, sWp_ap, sWq_ap, wipeO_nx, wipeO_rt, wipeO_bk, wipeO_ct, wipeO_exc, wipeO_bad, wipeE_nil, wipeE_cons, fzE_ap, DL.ownO_l, asgO_2, DL.truD_l, DL.truD_t, datI_ap, augN_ap, zip2_tt, zip2_ll, candidates_bad gk hl hw h]
end
/-! ### the best question -/
def bqD : Option (Int × Int) → PyData
  | none => .none
  | some p => .tuple [.int p.1, .int p.2]
def cnt (C : List (List Int)) (k : Int) : Int := ((C.filter fun c => decide (k ∈ c)).length : Int)
def wst (C : List (List Int)) (k : Int) : Int := if (C.length : Int) - cnt C k > cnt C k then (C.length : Int) - cnt C k else cnt C k
def bqS (C : List (List Int)) (b : Option (Int × Int)) (k : Int) : Option (Int × Int) :=
  if wst C k < (C.length : Int) then (match b with
    | none => some (wst C k, k)
    | some p => if wst C k < p.1 then some (wst C k, k) else b) else b
def bqN (C : List (List Int)) (n : Nat) : Option (Int × Int) := (rg n).foldl (bqS C) none
def bqE (C : List (List Int)) (n : Nat) : PyData := match bqN C n with
  | none => .none
  | some p => .int p.2
section
variable {v : Int} {ps : List (Int × Int)} (gk : Gok v ps) {ws : List Int} (hl : ws.length = v.toNat) (hw : ∀ w ∈ ws, 0 ≤ w ∧ w ≤ 6)
include gk hl hw
theorem best_question_eq {as : List (Int × Bool)} (has : ∀ a ∈ as, 0 ≤ a.1 ∧ a.1 < (ps.length : Int)) : m_best_question [graphD v ps, tI ws, tA as] = if cand v ps ws as = [] then .exc "NoChoice" none else .ok (bqE (cand v ps ws as) ps.length) := by
  rw [r_best_question]
  have fc := found_choices_eq gk hl hw has
  have g1 : ixD (graphD v ps) (.int 1) = .ok (.tuple (ps.map edgeD)) := gix1
  have ln : lenD (.tuple (ps.map edgeD)) = .ok (.int (ps.length : Int)) := glen
  have rp := rng1_rg (n := ps.length) (by have := gk.len; omega)
  generalize hC : cand v ps ws as = C at *
  generalize graphD v ps = G at *
  by_cases h : C = []
  · rw [if_pos h] at fc ⊢
    simp only [f_best_question, sSeq_ap, sIf_ap, sRet_ap, sExpr_ap, sSet_ap, sSetO_ap, sFor_ap, sFz_ap, sFzb_ap, sAsg_ap, sSetItem_ap, sAugItem_ap, sAug_ap, sRaise_ap, sNil_ap, sBad_ap, mutO_ap, cA_ap, cNot_ap, cAnd_ap, cOr_ap, cIf_ap, cTup_ap, cLst_ap, pNone_ap, pSome_ap, wAnd_ap, wOr_ap, wNot_ap, wTru_ap, wCmp_ap, wYes_ap, iA_ap, iS_ap, aNil_ap, aCons_ap, kR_ap, b2_ap, b3_ap, c1_ap, chainD_ap, lcF_ap, datE_ap, datB_ap, ownAt_ap, endO_rt, endO_nx, endO_exc, endO_bad, bn_ok, bn_exc, bn_bad, to_ok, to_exc, to_bad, sq_nx, sq_rt, sq_bk, sq_ct, sq_exc, sq_bad, andR_ok, orR_ok, notR_ok, andV_ok, orV_ok, notV_ok, ifV_ok, truD_b, boolD_b, intD_i, tupR0, tupR1, tupR2, tupR3, tupR4, lstR0, lstR1, lstR2, lstR3, lstR4, lstR5, lstR6, lstR7, lstR8, lstR9, negD_i, slA3_l, slA3_t, tupleD_l, tupleD_t, listD_l, listD_t, revD_t, addE_ii, subD_ii, leD_ii, ltD_ii, geD_ii, gtI_ii, eqD_ii, neD_ii, isi_tup_tup, isi_tup_list, isi_tup_none, isi_tup_int, isi_tup_bool, isi_tup_str, isi_tup_dict, isi_int_int, isi_int_bool, isi_int_none, isi_int_str, isi_int_list, isi_int_tup, isi_int_dict, isi_bool_int, isi_bool_bool, isi_bool_none, isi_bool_str, isi_bool_list, isi_bool_tup, isi_bool_dict, lenD_t, lenD_l, seqD_l, seqD_t, List.getElem?_cons_zero, List.getElem?_cons_succ, List.set_cons_zero, List.set_cons_succ, ↓reduceIte, Bool.false_eq_true, Bool.not_true, Bool.not_false, sWp_ap, sWq_ap, wipeO_nx, wipeO_rt, wipeO_bk, wipeO_ct, wipeO_exc, wipeO_bad, wipeE_nil, wipeE_cons, fzE_ap, DL.ownO_l, asgO_2, DL.truD_l, DL.truD_t, datI_ap, augN_ap, zip2_tt, zip2_ll, fc]
  · rw [if_neg h] at fc ⊢
    have lp := (forM (ft := gN 5) (fb := b_best_question_1) PyData.int (fun b : Option (Int × Int) => [.dat G, .dat (tI ws), .dat (tA as), .dat (lT C), .dat (bqD b), .un, .un, .un, .un]) (bqS C) (fun _ _ => True) (rg ps.length) none (by
      intro b k t _
      refine ⟨_, rfl, ?_, trivial⟩
      have cm := compM (ft := gN 8) (fc := ct_best_question_1) (fe := datE 8) (r0 := [.dat G, .dat (tI ws), .dat (tA as), .dat (lT C), .dat (bqD b), .dat (.int k), .un, .un, .un]) tI (fun c => decide (k ∈ c)) tI C (by
        intro c _
        refine ⟨_, rfl, ?_, fun _ => rfl⟩
        simp only [ct_best_question_1, sSeq_ap, sIf_ap, sRet_ap, sExpr_ap, sSet_ap, sSetO_ap, sFor_ap, sFz_ap, sFzb_ap, sAsg_ap, sSetItem_ap, sAugItem_ap, sAug_ap, sRaise_ap, sNil_ap, sBad_ap, mutO_ap, cA_ap, cNot_ap, cAnd_ap, cOr_ap, cIf_ap, cTup_ap, cLst_ap, pNone_ap, pSome_ap, wAnd_ap, wOr_ap, wNot_ap, wTru_ap, wCmp_ap, wYes_ap, iA_ap, iS_ap, aNil_ap, aCons_ap, kR_ap, b2_ap, b3_ap, c1_ap, chainD_ap, lcF_ap, datE_ap, datB_ap, ownAt_ap, endO_rt, endO_nx, endO_exc, endO_bad, bn_ok, bn_exc, bn_bad, to_ok, to_exc, to_bad, sq_nx, sq_rt, sq_bk, sq_ct, sq_exc, sq_bad, andR_ok, orR_ok, notR_ok, andV_ok, orV_ok, notV_ok, ifV_ok, truD_b, boolD_b, intD_i, tupR0, tupR1, tupR2, tupR3, tupR4, lstR0, lstR1, lstR2, lstR3, lstR4, lstR5, lstR6, lstR7, lstR8, lstR9, negD_i, slA3_l, slA3_t, tupleD_l, tupleD_t, listD_l, listD_t, revD_t, addE_ii, subD_ii, leD_ii, ltD_ii, geD_ii, gtI_ii, eqD_ii, neD_ii, isi_tup_tup, isi_tup_list, isi_tup_none, isi_tup_int, isi_tup_bool, isi_tup_str, isi_tup_dict, isi_int_int, isi_int_bool, isi_int_none, isi_int_str, isi_int_list, isi_int_tup, isi_int_dict, isi_bool_int, isi_bool_bool, isi_bool_none, isi_bool_str, isi_bool_list, isi_bool_tup, isi_bool_dict, lenD_t, lenD_l, seqD_l, seqD_t, List.getElem?_cons_zero, List.getElem?_cons_succ, List.set_cons_zero, List.set_cons_succ, ↓reduceIte, Bool.false_eq_true, Bool.not_true, Bool.not_false, sWp_ap, sWq_ap, wipeO_nx, wipeO_rt, wipeO_bk, wipeO_ct, wipeO_exc, wipeO_bad, wipeE_nil, wipeE_cons, fzE_ap, DL.ownO_l, asgO_2, DL.truD_l, DL.truD_t, datI_ap, augN_ap, zip2_tt, zip2_ll, in_tI])
      have cl : ((C.filter fun c => decide (k ∈ c)).map tI).length = (C.filter fun c => decide (k ∈ c)).length := List.length_map _
      have mx : max2D (.int ((C.filter fun c => decide (k ∈ c)).length : Int)) (.int ((C.length : Int) - ((C.filter fun c => decide (k ∈ c)).length : Int))) = .ok (.int (wst C k)) := rfl
      unfold bqS
      by_cases h1 : wst C k < (C.length : Int)
      · rw [if_pos h1]
        cases b with
        | none =>
          have i1 : isNoneD (bqD none) .none = .ok (.bool true) := rfl
          simp only [b_best_question_1, sSeq_ap, sIf_ap, sRet_ap, sExpr_ap, sSet_ap, sSetO_ap, sFor_ap, sFz_ap, sFzb_ap, sAsg_ap, sSetItem_ap, sAugItem_ap, sAug_ap, sRaise_ap, sNil_ap, sBad_ap, mutO_ap, cA_ap, cNot_ap, cAnd_ap, cOr_ap, cIf_ap, cTup_ap, cLst_ap, pNone_ap, pSome_ap, wAnd_ap, wOr_ap, wNot_ap, wTru_ap, wCmp_ap, wYes_ap, iA_ap, iS_ap, aNil_ap, aCons_ap, kR_ap, b2_ap, b3_ap, c1_ap, chainD_ap, lcF_ap, datE_ap, datB_ap, ownAt_ap, endO_rt, endO_nx, endO_exc, endO_bad, bn_ok, bn_exc, bn_bad, to_ok, to_exc, to_bad, sq_nx, sq_rt, sq_bk, sq_ct, sq_exc, sq_bad, andR_ok, orR_ok, notR_ok, andV_ok, orV_ok, notV_ok, ifV_ok, truD_b, boolD_b, intD_i, tupR0, tupR1, tupR2, tupR3, tupR4, lstR0, lstR1, lstR2, lstR3, lstR4, lstR5, lstR6, lstR7, lstR8, lstR9, negD_i, slA3_l, slA3_t, tupleD_l, tupleD_t, listD_l, listD_t, revD_t, addE_ii, subD_ii, leD_ii, ltD_ii, geD_ii, gtI_ii, eqD_ii, neD_ii, isi_tup_tup, isi_tup_list, isi_tup_none, isi_tup_int, isi_tup_bool, isi_tup_str, isi_tup_dict, isi_int_int, isi_int_bool, isi_int_none, isi_int_str, isi_int_list, isi_int_tup, isi_int_dict, isi_bool_int, isi_bool_bool, isi_bool_none, isi_bool_str, isi_bool_list, isi_bool_tup, isi_bool_dict, lenD_t, lenD_l, seqD_l, seqD_t, List.getElem?_cons_zero, List.getElem?_cons_succ, List.set_cons_zero, List.set_cons_succ, ↓reduceIte, Bool.false_eq_true, Bool.not_true, Bool.not_false, sWp_ap, sWq_ap, wipeO_nx, wipeO_rt, wipeO_bk, wipeO_ct, wipeO_exc, wipeO_bad, wipeE_nil, wipeE_cons, fzE_ap, DL.ownO_l, asgO_2, DL.truD_l, DL.truD_t, datI_ap, augN_ap, zip2_tt, zip2_ll, seq_lT, cm, cl, len_lT, mx, decide_eq_true h1, i1]
          rfl
        | some p =>
          have i1 : isNoneD (bqD (some p)) .none = .ok (.bool false) := rfl
          have i2 : ixD (bqD (some p)) (.int 0) = .ok (.int p.1) := ix_t0
          by_cases h2 : wst C k < p.1
          · simp only [b_best_question_1, sSeq_ap, sIf_ap, sRet_ap, sExpr_ap, sSet_ap, sSetO_ap, sFor_ap, sFz_ap, sFzb_ap, sAsg_ap, sSetItem_ap, sAugItem_ap, sAug_ap, sRaise_ap, sNil_ap, sBad_ap, mutO_ap, cA_ap, cNot_ap, cAnd_ap, cOr_ap, cIf_ap, cTup_ap, cLst_ap, pNone_ap, pSome_ap, wAnd_ap, wOr_ap, wNot_ap, wTru_ap, wCmp_ap, wYes_ap, iA_ap, iS_ap, aNil_ap, aCons_ap, kR_ap, b2_ap, b3_ap, c1_ap, chainD_ap, lcF_ap, datE_ap, datB_ap, ownAt_ap, endO_rt, endO_nx, endO_exc, endO_bad, bn_ok, bn_exc, bn_bad, to_ok, to_exc, to_bad, sq_nx, sq_rt, sq_bk, sq_ct, sq_exc, sq_bad, andR_ok, orR_ok, notR_ok, andV_ok, orV_ok, notV_ok, ifV_ok, truD_b, boolD_b, intD_i, tupR0, tupR1, tupR2, tupR3, tupR4, lstR0, lstR1, lstR2, lstR3, lstR4, lstR5, lstR6, lstR7, lstR8, lstR9, negD_i, slA3_l, slA3_t, tupleD_l, tupleD_t, listD_l, listD_t, revD_t, addE_ii, subD_ii, leD_ii, ltD_ii, geD_ii, gtI_ii, eqD_ii, neD_ii, isi_tup_tup, isi_tup_list, isi_tup_none, isi_tup_int, isi_tup_bool, isi_tup_str, isi_tup_dict, isi_int_int, isi_int_bool, isi_int_none, isi_int_str, isi_int_list, isi_int_tup, isi_int_dict, isi_bool_int, isi_bool_bool, isi_bool_none, isi_bool_str, isi_bool_list, isi_bool_tup, isi_bool_dict, lenD_t, lenD_l, seqD_l, seqD_t, List.getElem?_cons_zero, List.getElem?_cons_succ, List.set_cons_zero, List.set_cons_succ, ↓reduceIte, Bool.false_eq_true, Bool.not_true, Bool.not_false, sWp_ap, sWq_ap, wipeO_nx, wipeO_rt, wipeO_bk, wipeO_ct, wipeO_exc, wipeO_bad, wipeE_nil, wipeE_cons, fzE_ap, DL.ownO_l, asgO_2, DL.truD_l, DL.truD_t, datI_ap, augN_ap, zip2_tt, zip2_ll, seq_lT, cm, cl, len_lT, mx, decide_eq_true h1, i1, i2, decide_eq_true h2, h2, decide_true]
            rfl
          · simp only [b_best_question_1, sSeq_ap, sIf_ap, sRet_ap, sExpr_ap, sSet_ap, sSetO_ap, sFor_ap, sFz_ap, sFzb_ap, sAsg_ap, sSetItem_ap, sAugItem_ap, sAug_ap, sRaise_ap, sNil_ap, sBad_ap, mutO_ap, cA_ap, cNot_ap, cAnd_ap, cOr_ap, cIf_ap, cTup_ap, cLst_ap, pNone_ap, pSome_ap, wAnd_ap, wOr_ap, wNot_ap, wTru_ap, wCmp_ap, wYes_ap, iA_ap, iS_ap, aNil_ap, aCons_ap, kR_ap, b2_ap, b3_ap, c1_ap, chainD_ap, lcF_ap, datE_ap, datB_ap, ownAt_ap, endO_rt, endO_nx, endO_exc, endO_bad, bn_ok, bn_exc, bn_bad, to_ok, to_exc, to_bad, sq_nx, sq_rt, sq_bk, sq_ct, sq_exc, sq_bad, andR_ok, orR_ok, notR_ok, andV_ok, orV_ok, notV_ok, ifV_ok, truD_b, boolD_b, intD_i, tupR0, tupR1, tupR2, tupR3, tupR4, lstR0, lstR1, lstR2, lstR3, lstR4, lstR5, lstR6, lstR7, lstR8, lstR9, negD_i, slA3_l, slA3_t, tupleD_l, tupleD_t, listD_l, listD_t, revD_t, addE_ii, subD_ii, leD_ii, ltD_ii, geD_ii, gtI_ii, eqD_ii, neD_ii, isi_tup_tup, isi_tup_list, isi_tup_none, isi_tup_int, isi_tup_bool, isi_tup_str, isi_tup_dict, isi_int_int, isi_int_bool, isi_int_none, isi_int_str, isi_int_list, isi_int_tup, isi_int_dict, isi_bool_int, isi_bool_bool, isi_bool_none, isi_bool_str, isi_bool_list, isi_bool_tup, isi_bool_dict, lenD_t, lenD_l, seqD_l, seqD_t, List.getElem?_cons_zero, List.getElem?_cons_succ, List.set_cons_zero, List.set_cons_succ, ↓reduceIte, Bool.false_eq_true, Bool.not_true, Bool.not_false, sWp_ap, sWq_ap, wipeO_nx, wipeO_rt, wipeO_bk, wipeO_ct, wipeO_exc, wipeO_bad, wipeE_nil, wipeE_cons, fzE_ap, DL.ownO_l, asgO_2, DL.truD_l, DL.truD_t, datI_ap, augN_ap, zip2_tt, zip2_ll, seq_lT, cm, cl, len_lT, mx, decide_eq_true h1, i1, i2, decide_eq_false h2, h2, decide_false]
      · rw [if_neg h1]
        simp only [b_best_question_1, sSeq_ap, sIf_ap, sRet_ap, sExpr_ap, sSet_ap, sSetO_ap, sFor_ap, sFz_ap, sFzb_ap, sAsg_ap, sSetItem_ap, sAugItem_ap, sAug_ap, sRaise_ap, sNil_ap, sBad_ap, mutO_ap, cA_ap, cNot_ap, cAnd_ap, cOr_ap, cIf_ap, cTup_ap, cLst_ap, pNone_ap, pSome_ap, wAnd_ap, wOr_ap, wNot_ap, wTru_ap, wCmp_ap, wYes_ap, iA_ap, iS_ap, aNil_ap, aCons_ap, kR_ap, b2_ap, b3_ap, c1_ap, chainD_ap, lcF_ap, datE_ap, datB_ap, ownAt_ap, endO_rt, endO_nx, endO_exc, endO_bad, bn_ok, bn_exc, bn_bad, to_ok, to_exc, to_bad, sq_nx, sq_rt, sq_bk, sq_ct, sq_exc, sq_bad, andR_ok, orR_ok, notR_ok, andV_ok, orV_ok, notV_ok, ifV_ok, truD_b, boolD_b, intD_i, tupR0, tupR1, tupR2, tupR3, tupR4, lstR0, lstR1, lstR2, lstR3, lstR4, lstR5, lstR6, lstR7, lstR8, lstR9, negD_i, slA3_l, slA3_t, tupleD_l, tupleD_t, listD_l, listD_t, revD_t, addE_ii, subD_ii, leD_ii, ltD_ii, geD_ii, gtI_ii, eqD_ii, neD_ii, isi_tup_tup, isi_tup_list, isi_tup_none, isi_tup_int, isi_tup_bool, isi_tup_str, isi_tup_dict, isi_int_int, isi_int_bool, isi_int_none, isi_int_str, isi_int_list, isi_int_tup, isi_int_dict, isi_bool_int, isi_bool_bool, isi_bool_none, isi_bool_str, isi_bool_list, isi_bool_tup, isi_bool_dict, lenD_t, lenD_l, seqD_l, seqD_t, List.getElem?_cons_zero, List.getElem?_cons_succ, List.set_cons_zero, List.set_cons_succ, ↓reduceIte, Bool.false_eq_true, Bool.not_true, Bool.not_false, sWp_ap, sWq_ap, wipeO_nx, wipeO_rt, wipeO_bk, wipeO_ct, wipeO_exc, wipeO_bad, wipeE_nil, wipeE_cons, fzE_ap, DL.ownO_l, asgO_2, DL.truD_l, DL.truD_t, datI_ap, augN_ap, zip2_tt, zip2_ll, seq_lT, cm, cl, len_lT, mx, decide_eq_false h1]) trivial).1
    have lp' : forL (gN 5) b_best_question_1 ((rg ps.length).map .int) [.dat G, .dat (tI ws), .dat (tA as), .dat (lT C), .dat .none, .un, .un, .un, .un] = .nx [.dat G, .dat (tI ws), .dat (tA as), .dat (lT C), .dat (bqD (bqN C ps.length)), .un, .un, .un, .un] := lp
    unfold bqE
    cases hb : bqN C ps.length with
    | none =>
      rw [hb] at lp'
      have i1 : isNoneD (bqD none) .none = .ok (.bool true) := rfl
      simp only [f_best_question, sSeq_ap, sIf_ap, sRet_ap, sExpr_ap, sSet_ap, sSetO_ap, sFor_ap, sFz_ap, sFzb_ap, sAsg_ap, sSetItem_ap, sAugItem_ap, sAug_ap, sRaise_ap, sNil_ap, sBad_ap, mutO_ap, cA_ap, cNot_ap, cAnd_ap, cOr_ap, cIf_ap, cTup_ap, cLst_ap, pNone_ap, pSome_ap, wAnd_ap, wOr_ap, wNot_ap, wTru_ap, wCmp_ap, wYes_ap, iA_ap, iS_ap, aNil_ap, aCons_ap, kR_ap, b2_ap, b3_ap, c1_ap, chainD_ap, lcF_ap, datE_ap, datB_ap, ownAt_ap, endO_rt, endO_nx, endO_exc, endO_bad, bn_ok, bn_exc, bn_bad, to_ok, to_exc, to_bad, sq_nx, sq_rt, sq_bk, sq_ct, sq_exc, sq_bad, andR_ok, orR_ok, notR_ok, andV_ok, orV_ok, notV_ok, ifV_ok, truD_b, boolD_b, intD_i, tupR0, tupR1, tupR2, tupR3, tupR4, lstR0, lstR1, lstR2, lstR3, lstR4, lstR5, lstR6, lstR7, lstR8, lstR9, negD_i, slA3_l, slA3_t, tupleD_l, tupleD_t, listD_l, listD_t, revD_t, addE_ii, subD_ii, leD_ii, ltD_ii, geD_ii, gtI_ii, eqD_ii, neD_ii, isi_tup_tup, isi_tup_list, isi_tup_none, isi_tup_int, isi_tup_bool, isi_tup_str, isi_tup_dict, isi_int_int, isi_int_bool, isi_int_none, isi_int_str, isi_int_list, isi_int_tup, isi_int_dict, isi_bool_int, isi_bool_bool, isi_bool_none, isi_bool_str, isi_bool_list, isi_bool_tup, isi_bool_dict, lenD_t, lenD_l, seqD_l, seqD_t, List.getElem?_cons_zero, List.getElem?_cons_succ, List.set_cons_zero, List.set_cons_succ, ↓reduceIte, Bool.false_eq_true, Bool.not_true, Bool.not_false, sWp_ap, sWq_ap, wipeO_nx, wipeO_rt, wipeO_bk, wipeO_ct, wipeO_exc, wipeO_bad, wipeE_nil, wipeE_cons, fzE_ap, DL.ownO_l, asgO_2, DL.truD_l, DL.truD_t, datI_ap, augN_ap, zip2_tt, zip2_ll, fc, g1, ln, rp, lp', i1]
    | some p =>
      rw [hb] at lp'
      have i1 : isNoneD (bqD (some p)) .none = .ok (.bool false) := rfl
      have i2 : ixD (bqD (some p)) (.int 1) = .ok (.int p.2) := ix_t1
      simp only [f_best_question, sSeq_ap, sIf_ap, sRet_ap, sExpr_ap, sSet_ap, sSetO_ap, sFor_ap, sFz_ap, sFzb_ap, sAsg_ap, sSetItem_ap, sAugItem_ap, sAug_ap, sRaise_ap, sNil_ap, sBad_ap, mutO_ap, cA_ap, cNot_ap, cAnd_ap, cOr_ap, cIf_ap, cTup_ap, cLst_ap, pNone_ap, pSome_ap, wAnd_ap, wOr_ap, wNot_ap, wTru_ap, wCmp_ap, wYes_ap, iA_ap, iS_ap, aNil_ap, aCons_ap, kR_ap, b2_ap, b3_ap, c1_ap, chainD_ap, lcF_ap, datE_ap, datB_ap, ownAt_ap, endO_rt, endO_nx, endO_exc, endO_bad, bn_ok, bn_exc, bn_bad, to_ok, to_exc, to_bad, sq_nx, sq_rt, sq_bk, sq_ct, sq_exc, sq_bad, andR_ok, orR_ok, notR_ok, andV_ok, orV_ok, notV_ok, ifV_ok, truD_b, boolD_b, intD_i, tupR0, tupR1, tupR2, tupR3, tupR4, lstR0, lstR1, lstR2, lstR3, lstR4, lstR5, lstR6, lstR7, lstR8, lstR9, negD_i, slA3_l, slA3_t, tupleD_l, tupleD_t, listD_l, listD_t, revD_t, addE_ii, subD_ii, leD_ii, ltD_ii, geD_ii, gtI_ii, eqD_ii, neD_ii, isi_tup_tup, isi_tup_list, isi_tup_none, isi_tup_int, isi_tup_bool, isi_tup_str, isi_tup_dict, isi_int_int, isi_int_bool, isi_int_none, isi_int_str, isi_int_list, isi_int_tup, isi_int_dict, isi_bool_int, isi_bool_bool, isi_bool_none, isi_bool_str, isi_bool_list, isi_bool_tup, isi_bool_dict, lenD_t, lenD_l, seqD_l, seqD_t, List.getElem?_cons_zero, List.getElem?_cons_succ, List.set_cons_zero, List.set_cons_succ, ↓reduceIte, Bool.false_eq_true, Bool.not_true, Bool.not_false, sWp_ap, sWq_ap, wipeO_nx, wipeO_rt, wipeO_bk, wipeO_ct, wipeO_exc, wipeO_bad, wipeE_nil, wipeE_cons, fzE_ap, DL.ownO_l, asgO_2, DL.truD_l, DL.truD_t, datI_ap, augN_ap, zip2_tt, zip2_ll, fc, g1, ln, rp, lp', i1, i2]
theorem best_question_bad {d : PyData} (h : isAns ps.length d = false) : m_best_question [graphD v ps, tI ws, d] = .exc "InvalidAnswers" none := by
  rw [r_best_question]
  simp only [f_best_question, sSeq_ap, sIf_ap, sRet_ap, sExpr_ap, sSet_ap, sSetO_ap, sFor_ap, sFz_ap, sFzb_ap, sAsg_ap, sSetItem_ap, sAugItem_ap, sAug_ap, sRaise_ap, sNil_ap, sBad_ap, mutO_ap, cA_ap, cNot_ap, cAnd_ap, cOr_ap, cIf_ap, cTup_ap, cLst_ap, pNone_ap, pSome_ap, wAnd_ap, wOr_ap, wNot_ap, wTru_ap, wCmp_ap, wYes_ap, iA_ap, iS_ap, aNil_ap, aCons_ap, kR_ap, b2_ap, b3_ap, c1_ap, chainD_ap, lcF_ap, datE_ap, datB_ap, ownAt_ap, endO_rt, endO_nx, endO_exc, endO_bad, bn_ok, bn_exc, bn_bad, to_ok, to_exc, to_bad, sq_nx, sq_rt, sq_bk, sq_ct, sq_exc, sq_bad, andR_ok, orR_ok, notR_ok, andV_ok, orV_ok, notV_ok, ifV_ok, truD_b, boolD_b, intD_i, tupR0, tupR1, tupR2, tupR3, tupR4, lstR0, lstR1, lstR2, lstR3, lstR4, lstR5, lstR6, lstR7, lstR8, lstR9, negD_i, slA3_l, slA3_t, tupleD_l, tupleD_t, listD_l, listD_t, revD_t, addE_ii, subD_ii, leD_ii, ltD_ii, geD_ii, gtI_ii, eqD_ii, neD_ii, isi_tup_tup, isi_tup_list, isi_tup_none, isi_tup_int, isi_tup_bool, isi_tup_str, isi_tup_dict, isi_int_int, isi_int_bool, isi_int_none, isi_int_str, isi_int_list, isi_int_tup, isi_int_dict, isi_bool_int, isi_bool_bool, isi_bool_none, isi_bool_str, isi_bool_list, isi_bool_tup, isi_bool_dict, lenD_t, lenD_l, seqD_l, seqD_t, List.getElem?_cons_zero, List.getElem?_cons_succ, List.set_cons_zero, List.set_cons_succ, ↓reduceIte, Bool.false_eq_true, Bool.not_true, Bool.not_false, sWp_ap, sWq_ap, wipeO_nx, wipeO_rt, wipeO_bk, wipeO_ct, wipeO_exc, wipeO_bad, wipeE_nil, wipeE_cons, fzE_ap, DL.ownO_l, asgO_2, DL.truD_l, DL.truD_t, datI_ap, augN_ap, zip2_tt, zip2_ll, found_choices_bad gk hl hw h]
end
end Com
namespace Com
open PySem L2 DL
theorem edge_inj (a b : Int × Int) (h : edgeD a = edgeD b) : a = b := by
  have := PyData.tuple.inj h
  cases a; cases b
  simp_all
theorem ni_edge (p : Int × Int) : Ni 2 (edgeD p) := ni_tup (by
  intro x m
  simp only [List.mem_cons, List.not_mem_nil, or_false] at m
  rcases m with rfl | rfl <;> exact ni_int _)
def tE (ps : List (Int × Int)) : PyData := .tuple (ps.map edgeD)
theorem tE_inj (a b : List (Int × Int)) (h : tE a = tE b) : a = b := map_inj edge_inj a b (PyData.tuple.inj h)
theorem niE (ps : List (Int × Int)) : Ni 50 (tE ps) := (ni_tup (ni_map ni_edge ps)).mono (by decide)
theorem eq_E (a b : List (Int × Int)) : eqD (tE a) (tE b) = .ok (.bool (decide (a = b))) := eqEnc tE_inj niE a b
theorem mod_ix {n : Nat} (z : Int) (h : 0 < n) : modD (.int z) (.int (n : Int)) = .ok (.int (z % (n : Int))) ∧ 0 ≤ z % (n : Int) ∧ z % (n : Int) < (n : Int) := ⟨modD_ii (by omega), Int.emod_nonneg _ (by omega), Int.emod_lt_of_pos _ (by omega)⟩
theorem modk (z k : Int) (h : 0 < k) : modD (.int z) (.int k) = .ok (.int (z % k)) := modD_ii h
theorem ix_enc {α : Type} {f : α → PyData} {xs : List α} {i : Int} (h0 : 0 ≤ i) (h : i < (xs.length : Int)) : ∃ a ∈ xs, ixD (.list (xs.map f)) (.int i) = .ok (f a) := by
  have hl : i.toNat < xs.length := by omega
  refine ⟨xs[i.toNat], List.getElem_mem hl, ix_l h0 ?_⟩
  rw [List.getElem?_map, List.getElem?_eq_getElem hl]
  rfl
theorem law_answers_ok (ns : List Int) {v : Int} {ps : List (Int × Int)} (gk : Gok v ps) {ws : List Int} (hl : ws.length = v.toNat) :
    ∃ as : List (Int × Bool), m_law_answers [.list (ns.map .int), graphD v ps, tI ws] = .ok (tA as) ∧ (∀ a ∈ as, 0 ≤ a.1 ∧ a.1 < (ps.length : Int)) ∧ as.length ≤ 3 := by
  rw [r_law_answers]
  obtain ⟨ds, hd, er⟩ := row_ok ns 7 (by decide)
  have er : m_law_row [.list (ns.map .int), .int 7] = .ok (lI ds) := er
  have la : m_law_all [graphD v ps, tI ws] = .ok (lT (allC v ps ws)) := law_all_eq gk hl
  have g1 : ixD (graphD v ps) (.int 1) = .ok (tE ps) := gix1
  have ln : lenD (tE ps) = .ok (.int (ps.length : Int)) := glen
  have sz := sz1000000
  generalize PyData.list (ns.map .int) = S at *
  generalize graphD v ps = G at *
  generalize allC v ps ws = A at *
  have ee : eqD (tE ps) (.tuple []) = .ok (.bool (decide (ps = []))) := eq_E ps []
  by_cases hp : ps = []
  · refine ⟨[], ?_, by simp, by simp⟩
    simp only [f_law_answers, sSeq_ap, sIf_ap, sRet_ap, sExpr_ap, sSet_ap, sSetO_ap, sFor_ap, sFz_ap, sFzb_ap, sAsg_ap, sSetItem_ap, sAugItem_ap, sAug_ap, sRaise_ap, sNil_ap, sBad_ap, mutO_ap, cA_ap, cNot_ap, cAnd_ap, cOr_ap, cIf_ap, cTup_ap, cLst_ap, pNone_ap, pSome_ap, wAnd_ap, wOr_ap, wNot_ap, wTru_ap, wCmp_ap, wYes_ap, iA_ap, iS_ap, aNil_ap, aCons_ap, kR_ap, b2_ap, b3_ap, c1_ap, chainD_ap, lcF_ap, datE_ap, datB_ap, ownAt_ap, endO_rt, endO_nx, endO_exc, endO_bad, bn_ok, bn_exc, bn_bad, to_ok, to_exc, to_bad, sq_nx, sq_rt, sq_bk, sq_ct, sq_exc, sq_bad, andR_ok, orR_ok, notR_ok, andV_ok, orV_ok, notV_ok, ifV_ok, truD_b, boolD_b, intD_i, tupR0, tupR1, tupR2, tupR3, tupR4, lstR0, lstR1, lstR2, lstR3, lstR4, lstR5, lstR6, lstR7, lstR8, lstR9, negD_i, slA3_l, slA3_t, tupleD_l, tupleD_t, listD_l, listD_t, revD_t, addE_ii, subD_ii, leD_ii, ltD_ii, geD_ii, gtI_ii, eqD_ii, neD_ii, isi_tup_tup, isi_tup_list, isi_tup_none, isi_tup_int, isi_tup_bool, isi_tup_str, isi_tup_dict, isi_int_int, isi_int_bool, isi_int_none, isi_int_str, isi_int_list, isi_int_tup, isi_int_dict, isi_bool_int, isi_bool_bool, isi_bool_none, isi_bool_str, isi_bool_list, isi_bool_tup, isi_bool_dict, lenD_t, lenD_l, seqD_l, seqD_t, List.getElem?_cons_zero, List.getElem?_cons_succ, List.set_cons_zero, List.set_cons_succ, ↓reduceIte, Bool.false_eq_true, Bool.not_true, Bool.not_false, sWp_ap, sWq_ap, wipeO_nx, wipeO_rt, wipeO_bk, wipeO_ct, wipeO_exc, wipeO_bad, wipeE_nil, wipeE_cons, fzE_ap, DL.ownO_l, asgO_2, DL.truD_l, DL.truD_t, datI_ap, augN_ap, zip2_tt, zip2_ll, er, la, g1, ee, decide_eq_true hp]
    rfl
  · have pl : 0 < ps.length := List.length_pos_iff.mpr hp
    have na : neD (lT A) (.list []) = .ok (.bool (!decide (A = []))) := ne_LT A []
    have d0 : ixD (lI ds) (.int 0) = .ok (.int (ds.getD 0 0)) := ix_lI (by decide) (by omega)
    have d1 : ixD (lI ds) (.int 1) = .ok (.int (ds.getD 1 0)) := ix_lI (by decide) (by omega)
    -- the choice
    obtain ⟨cs, hcs⟩ : ∃ cs : List Int, ∀ r : En, cIf (wCmp (b2 (datB 4) (cLst aNil) neD)) (b2 (datB 4) (b2 (b2 (datB 3) (kR (.int 0)) ixD) (c1 lenD (datB 4)) modD) ixD) (cTup aNil) [.dat S, .dat G, .dat (tI ws), .dat (lI ds), .dat (lT A), .un, .un, .un, .un] = .ok (tI cs) := by
      by_cases hA : A = []
      · refine ⟨[], fun _ => ?_⟩
        simp only [sSeq_ap, sIf_ap, sRet_ap, sExpr_ap, sSet_ap, sSetO_ap, sFor_ap, sFz_ap, sFzb_ap, sAsg_ap, sSetItem_ap, sAugItem_ap, sAug_ap, sRaise_ap, sNil_ap, sBad_ap, mutO_ap, cA_ap, cNot_ap, cAnd_ap, cOr_ap, cIf_ap, cTup_ap, cLst_ap, pNone_ap, pSome_ap, wAnd_ap, wOr_ap, wNot_ap, wTru_ap, wCmp_ap, wYes_ap, iA_ap, iS_ap, aNil_ap, aCons_ap, kR_ap, b2_ap, b3_ap, c1_ap, chainD_ap, lcF_ap, datE_ap, datB_ap, ownAt_ap, endO_rt, endO_nx, endO_exc, endO_bad, bn_ok, bn_exc, bn_bad, to_ok, to_exc, to_bad, sq_nx, sq_rt, sq_bk, sq_ct, sq_exc, sq_bad, andR_ok, orR_ok, notR_ok, andV_ok, orV_ok, notV_ok, ifV_ok, truD_b, boolD_b, intD_i, tupR0, tupR1, tupR2, tupR3, tupR4, lstR0, lstR1, lstR2, lstR3, lstR4, lstR5, lstR6, lstR7, lstR8, lstR9, negD_i, slA3_l, slA3_t, tupleD_l, tupleD_t, listD_l, listD_t, revD_t, addE_ii, subD_ii, leD_ii, ltD_ii, geD_ii, gtI_ii, eqD_ii, neD_ii, isi_tup_tup, isi_tup_list, isi_tup_none, isi_tup_int, isi_tup_bool, isi_tup_str, isi_tup_dict, isi_int_int, isi_int_bool, isi_int_none, isi_int_str, isi_int_list, isi_int_tup, isi_int_dict, isi_bool_int, isi_bool_bool, isi_bool_none, isi_bool_str, isi_bool_list, isi_bool_tup, isi_bool_dict, lenD_t, lenD_l, seqD_l, seqD_t, List.getElem?_cons_zero, List.getElem?_cons_succ, List.set_cons_zero, List.set_cons_succ, ↓reduceIte, Bool.false_eq_true, Bool.not_true, Bool.not_false, sWp_ap, sWq_ap, wipeO_nx, wipeO_rt, wipeO_bk, wipeO_ct, wipeO_exc, wipeO_bad, wipeE_nil, wipeE_cons, fzE_ap, DL.ownO_l, asgO_2, DL.truD_l, DL.truD_t, datI_ap, augN_ap, zip2_tt, zip2_ll, na, decide_eq_true hA]
        rfl
      · have al : 0 < A.length := List.length_pos_iff.mpr hA
        obtain ⟨m1, m2, m3⟩ := mod_ix (n := A.length) (ds.getD 0 0) al
        obtain ⟨c, _, hc⟩ := ix_enc (f := tI) (xs := A) m2 m3
        have hc : ixD (lT A) (.int (ds.getD 0 0 % (A.length : Int))) = .ok (tI c) := hc
        refine ⟨c, fun _ => ?_⟩
        simp only [sSeq_ap, sIf_ap, sRet_ap, sExpr_ap, sSet_ap, sSetO_ap, sFor_ap, sFz_ap, sFzb_ap, sAsg_ap, sSetItem_ap, sAugItem_ap, sAug_ap, sRaise_ap, sNil_ap, sBad_ap, mutO_ap, cA_ap, cNot_ap, cAnd_ap, cOr_ap, cIf_ap, cTup_ap, cLst_ap, pNone_ap, pSome_ap, wAnd_ap, wOr_ap, wNot_ap, wTru_ap, wCmp_ap, wYes_ap, iA_ap, iS_ap, aNil_ap, aCons_ap, kR_ap, b2_ap, b3_ap, c1_ap, chainD_ap, lcF_ap, datE_ap, datB_ap, ownAt_ap, endO_rt, endO_nx, endO_exc, endO_bad, bn_ok, bn_exc, bn_bad, to_ok, to_exc, to_bad, sq_nx, sq_rt, sq_bk, sq_ct, sq_exc, sq_bad, andR_ok, orR_ok, notR_ok, andV_ok, orV_ok, notV_ok, ifV_ok, truD_b, boolD_b, intD_i, tupR0, tupR1, tupR2, tupR3, tupR4, lstR0, lstR1, lstR2, lstR3, lstR4, lstR5, lstR6, lstR7, lstR8, lstR9, negD_i, slA3_l, slA3_t, tupleD_l, tupleD_t, listD_l, listD_t, revD_t, addE_ii, subD_ii, leD_ii, ltD_ii, geD_ii, gtI_ii, eqD_ii, neD_ii, isi_tup_tup, isi_tup_list, isi_tup_none, isi_tup_int, isi_tup_bool, isi_tup_str, isi_tup_dict, isi_int_int, isi_int_bool, isi_int_none, isi_int_str, isi_int_list, isi_int_tup, isi_int_dict, isi_bool_int, isi_bool_bool, isi_bool_none, isi_bool_str, isi_bool_list, isi_bool_tup, isi_bool_dict, lenD_t, lenD_l, seqD_l, seqD_t, List.getElem?_cons_zero, List.getElem?_cons_succ, List.set_cons_zero, List.set_cons_succ, ↓reduceIte, Bool.false_eq_true, Bool.not_true, Bool.not_false, sWp_ap, sWq_ap, wipeO_nx, wipeO_rt, wipeO_bk, wipeO_ct, wipeO_exc, wipeO_bad, wipeE_nil, wipeE_cons, fzE_ap, DL.ownO_l, asgO_2, DL.truD_l, DL.truD_t, datI_ap, augN_ap, zip2_tt, zip2_ll, na, decide_eq_false hA, d0, len_lT, m1, hc]
    have hcs := hcs []
    have m4 := modk (ds.getD 1 0) 4 (by decide)
    have r4 : 0 ≤ ds.getD 1 0 % 4 ∧ ds.getD 1 0 % 4 < 4 := ⟨Int.emod_nonneg _ (by decide), Int.emod_lt_of_pos _ (by decide)⟩
    have rg4 : rng1 [.int (ds.getD 1 0 % 4)] = .ok ((rg (ds.getD 1 0 % 4).toNat).map .int) := by
      have := rng1_rg (n := (ds.getD 1 0 % 4).toNat) (by omega)
      rw [Int.toNat_of_nonneg r4.1] at this
      exact this
    let f : Int → Int × Bool := fun z => (ds.getD (2 + z).toNat 0 % (ps.length : Int), decide (ds.getD (2 + z).toNat 0 % (ps.length : Int) ∈ cs) != decide (ds.getD (6 + z).toNat 0 % 8 = 0))
    have lp := (forM (ft := gN 7) (fb := b_law_answers_1) PyData.int (fun acc : List (Int × Bool) => [.dat S, .dat G, .dat (tI ws), .dat (lI ds), .dat (lT A), .dat (tI cs), .own (acc.map ansD), .un, .un]) (fun acc z => acc ++ [f z]) (fun acc t => acc.length + t.length ≤ 100 ∧ ∀ z ∈ t, 0 ≤ z ∧ z < 4) (rg (ds.getD 1 0 % 4).toNat) [] (by
      rintro acc z t ⟨ha, hz⟩
      have hz0 := hz z List.mem_cons_self
      rw [List.length_cons] at ha
      have i2 := ix_lI (ws := ds) (i := 2 + z) (by omega) (by omega)
      have i6 := ix_lI (ws := ds) (i := 6 + z) (by omega) (by omega)
      obtain ⟨m1, _, _⟩ := mod_ix (n := ps.length) (ds.getD (2 + z).toNat 0) pl
      have m8 := modk (ds.getD (6 + z).toNat 0) 8 (by decide)
      have hal : (acc.map ansD).length < sizeLine := by rw [List.length_map]; omega
      refine ⟨_, rfl, ?_, by rw [List.length_append]; simp; omega, fun y m => hz y (List.mem_cons_of_mem _ m)⟩
      simp only [b_law_answers_1, sSeq_ap, sIf_ap, sRet_ap, sExpr_ap, sSet_ap, sSetO_ap, sFor_ap, sFz_ap, sFzb_ap, sAsg_ap, sSetItem_ap, sAugItem_ap, sAug_ap, sRaise_ap, sNil_ap, sBad_ap, mutO_ap, cA_ap, cNot_ap, cAnd_ap, cOr_ap, cIf_ap, cTup_ap, cLst_ap, pNone_ap, pSome_ap, wAnd_ap, wOr_ap, wNot_ap, wTru_ap, wCmp_ap, wYes_ap, iA_ap, iS_ap, aNil_ap, aCons_ap, kR_ap, b2_ap, b3_ap, c1_ap, chainD_ap, lcF_ap, datE_ap, datB_ap, ownAt_ap, endO_rt, endO_nx, endO_exc, endO_bad, bn_ok, bn_exc, bn_bad, to_ok, to_exc, to_bad, sq_nx, sq_rt, sq_bk, sq_ct, sq_exc, sq_bad, andR_ok, orR_ok, notR_ok, andV_ok, orV_ok, notV_ok, ifV_ok, truD_b, boolD_b, intD_i, tupR0, tupR1, tupR2, tupR3, tupR4, lstR0, lstR1, lstR2, lstR3, lstR4, lstR5, lstR6, lstR7, lstR8, lstR9, negD_i, slA3_l, slA3_t, tupleD_l, tupleD_t, listD_l, listD_t, revD_t, addE_ii, subD_ii, leD_ii, ltD_ii, geD_ii, gtI_ii, eqD_ii, neD_ii, isi_tup_tup, isi_tup_list, isi_tup_none, isi_tup_int, isi_tup_bool, isi_tup_str, isi_tup_dict, isi_int_int, isi_int_bool, isi_int_none, isi_int_str, isi_int_list, isi_int_tup, isi_int_dict, isi_bool_int, isi_bool_bool, isi_bool_none, isi_bool_str, isi_bool_list, isi_bool_tup, isi_bool_dict, lenD_t, lenD_l, seqD_l, seqD_t, List.getElem?_cons_zero, List.getElem?_cons_succ, List.set_cons_zero, List.set_cons_succ, ↓reduceIte, Bool.false_eq_true, Bool.not_true, Bool.not_false, sWp_ap, sWq_ap, wipeO_nx, wipeO_rt, wipeO_bk, wipeO_ct, wipeO_exc, wipeO_bad, wipeE_nil, wipeE_cons, fzE_ap, DL.ownO_l, asgO_2, DL.truD_l, DL.truD_t, datI_ap, augN_ap, zip2_tt, zip2_ll, i2, g1, ln, m1, in_tI, i6, m8, ne_bb, gApp_ok hal]
      rw [List.map_append]
      rfl) ⟨by unfold rg; simp; omega, fun z m => by have := rg_mem.mp m; omega⟩).1
    rw [foldl_app1, List.nil_append] at lp
    have lp' : forL (gN 7) b_law_answers_1 ((rg (ds.getD 1 0 % 4).toNat).map .int) [.dat S, .dat G, .dat (tI ws), .dat (lI ds), .dat (lT A), .dat (tI cs), .own [], .un, .un] = .nx [.dat S, .dat G, .dat (tI ws), .dat (lI ds), .dat (lT A), .dat (tI cs), .own (((rg (ds.getD 1 0 % 4).toNat).map f).map ansD), .un, .un] := lp
    refine ⟨(rg (ds.getD 1 0 % 4).toNat).map f, ?_, ?_, by unfold rg; simp; omega⟩
    · simp only [sSeq_ap, sIf_ap, sRet_ap, sExpr_ap, sSet_ap, sSetO_ap, sFor_ap, sFz_ap, sFzb_ap, sAsg_ap, sSetItem_ap, sAugItem_ap, sAug_ap, sRaise_ap, sNil_ap, sBad_ap, mutO_ap, cA_ap, cNot_ap, cAnd_ap, cOr_ap, cIf_ap, cTup_ap, cLst_ap, pNone_ap, pSome_ap, wAnd_ap, wOr_ap, wNot_ap, wTru_ap, wCmp_ap, wYes_ap, iA_ap, iS_ap, aNil_ap, aCons_ap, kR_ap, b2_ap, b3_ap, c1_ap, chainD_ap, lcF_ap, datE_ap, datB_ap, ownAt_ap, endO_rt, endO_nx, endO_exc, endO_bad, bn_ok, bn_exc, bn_bad, to_ok, to_exc, to_bad, sq_nx, sq_rt, sq_bk, sq_ct, sq_exc, sq_bad, andR_ok, orR_ok, notR_ok, andV_ok, orV_ok, notV_ok, ifV_ok, truD_b, boolD_b, intD_i, tupR0, tupR1, tupR2, tupR3, tupR4, lstR0, lstR1, lstR2, lstR3, lstR4, lstR5, lstR6, lstR7, lstR8, lstR9, negD_i, slA3_l, slA3_t, tupleD_l, tupleD_t, listD_l, listD_t, revD_t, addE_ii, subD_ii, leD_ii, ltD_ii, geD_ii, gtI_ii, eqD_ii, neD_ii, isi_tup_tup, isi_tup_list, isi_tup_none, isi_tup_int, isi_tup_bool, isi_tup_str, isi_tup_dict, isi_int_int, isi_int_bool, isi_int_none, isi_int_str, isi_int_list, isi_int_tup, isi_int_dict, isi_bool_int, isi_bool_bool, isi_bool_none, isi_bool_str, isi_bool_list, isi_bool_tup, isi_bool_dict, lenD_t, lenD_l, seqD_l, seqD_t, List.getElem?_cons_zero, List.getElem?_cons_succ, List.set_cons_zero, List.set_cons_succ, ↓reduceIte, Bool.false_eq_true, Bool.not_true, Bool.not_false, sWp_ap, sWq_ap, wipeO_nx, wipeO_rt, wipeO_bk, wipeO_ct, wipeO_exc, wipeO_bad, wipeE_nil, wipeE_cons, fzE_ap, DL.ownO_l, asgO_2, DL.truD_l, DL.truD_t, datI_ap, augN_ap, zip2_tt, zip2_ll] at hcs
      simp only [f_law_answers, sSeq_ap, sIf_ap, sRet_ap, sExpr_ap, sSet_ap, sSetO_ap, sFor_ap, sFz_ap, sFzb_ap, sAsg_ap, sSetItem_ap, sAugItem_ap, sAug_ap, sRaise_ap, sNil_ap, sBad_ap, mutO_ap, cA_ap, cNot_ap, cAnd_ap, cOr_ap, cIf_ap, cTup_ap, cLst_ap, pNone_ap, pSome_ap, wAnd_ap, wOr_ap, wNot_ap, wTru_ap, wCmp_ap, wYes_ap, iA_ap, iS_ap, aNil_ap, aCons_ap, kR_ap, b2_ap, b3_ap, c1_ap, chainD_ap, lcF_ap, datE_ap, datB_ap, ownAt_ap, endO_rt, endO_nx, endO_exc, endO_bad, bn_ok, bn_exc, bn_bad, to_ok, to_exc, to_bad, sq_nx, sq_rt, sq_bk, sq_ct, sq_exc, sq_bad, andR_ok, orR_ok, notR_ok, andV_ok, orV_ok, notV_ok, ifV_ok, truD_b, boolD_b, intD_i, tupR0, tupR1, tupR2, tupR3, tupR4, lstR0, lstR1, lstR2, lstR3, lstR4, lstR5, lstR6, lstR7, lstR8, lstR9, negD_i, slA3_l, slA3_t, tupleD_l, tupleD_t, listD_l, listD_t, revD_t, addE_ii, subD_ii, leD_ii, ltD_ii, geD_ii, gtI_ii, eqD_ii, neD_ii, isi_tup_tup, isi_tup_list, isi_tup_none, isi_tup_int, isi_tup_bool, isi_tup_str, isi_tup_dict, isi_int_int, isi_int_bool, isi_int_none, isi_int_str, isi_int_list, isi_int_tup, isi_int_dict, isi_bool_int, isi_bool_bool, isi_bool_none, isi_bool_str, isi_bool_list, isi_bool_tup, isi_bool_dict, lenD_t, lenD_l, seqD_l, seqD_t, List.getElem?_cons_zero, List.getElem?_cons_succ, List.set_cons_zero, List.set_cons_succ, ↓reduceIte, Bool.false_eq_true, Bool.not_true, Bool.not_false, sWp_ap, sWq_ap, wipeO_nx, wipeO_rt, wipeO_bk, wipeO_ct, wipeO_exc, wipeO_bad, wipeE_nil, wipeE_cons, fzE_ap, DL.ownO_l, asgO_2, DL.truD_l, DL.truD_t, datI_ap, augN_ap, zip2_tt, zip2_ll, er, la, g1, ee, decide_eq_false hp, hcs, d1, m4, rg4, lp']
      rfl
    · intro a ma
      obtain ⟨z, _, rfl⟩ := List.mem_map.mp ma
      exact ⟨Int.emod_nonneg _ (by omega), Int.emod_lt_of_pos _ (by omega)⟩
end Com
namespace DL
open PySem L2
/-! ### a test that looks at a list of one's own as data; the list stays one's own -/
def wFz (i : Nat) (f : En → R Bool) : En → R Bool := fun r => match f (fzE i r) with
  | .ok b => .ok b
  | .exc c none => .exc c none
  | _ => .bad
theorem wFz_ap {i : Nat} {f : En → R Bool} {r : En} : wFz i f r = match f (fzE i r) with
  | .ok b => .ok b
  | .exc c none => .exc c none
  | _ => .bad := id rfl
theorem zt_fz (i : Nat) {X : Cx} {W : WN} {e : Expr} {t : TT} {f : En → R Bool} (h : VT X W e t f) : VT X W e t (wFz i f) := by
  refine ⟨h.pt, fun F G r σ H q => ?_⟩
  obtain ⟨G', s, q'⟩ := q.fz i
  have k := h.so F G' _ σ H q'
  have back : ∀ G2 H2, Ext G' H G2 H2 → Ext G H G H2 := fun G2 H2 x => ⟨x.hh, Same.refl G, s.trans (x.gg.trans x.gh), fun _ _ z => .inl z⟩
  unfold wFz
  cases e1 : f (fzE i r) with
  | ok b =>
    rw [e1] at k
    exact fun Q z => k Q fun G2 H2 x => z G H2 (back G2 H2 x)
  | exc c fs =>
    rw [e1] at k
    cases fs with
    | none => exact fun w Q => k (fun x G2 H2 y xr => w x G H2 (back G2 H2 y) xr) Q
    | some fs => trivial
  | bad => trivial
end DL
namespace DL
open PySem L2
/-! ### texts -/
def strsOf : List PyData → Option (List Str)
  | [] => some []
  | .str s :: ds => (strsOf ds).map (s :: ·)
  | _ => none
theorem des_strs {G : Hp} : ∀ {ds : List PyData} {vs : List V} {ys : List Str}, DeAll G vs ds → strsOf ds = some ys → vs = ys.map V.str
  | [], vs, ys, h, e => by
    cases h
    cases e
    rfl
  | d :: ds, vs, ys, h, e => by
    cases h with
    | cons h1 h2 =>
      cases d with
      | str s =>
        unfold strsOf at e
        cases e2 : strsOf ds with
        | none => rw [e2] at e; cases e
        | some zs =>
          rw [e2] at e
          cases e
          cases h1
          rw [des_strs h2 e2]
          rfl
      | _ => cases e
theorem strsOf_map (ys : List Str) : strsOf (ys.map PyData.str) = some ys := by
  induction ys with
  | nil => rfl
  | cons y ys ih => rw [List.map_cons, strsOf, ih]; rfl
def joinD (a : Str) : PyData → R PyData
  | .list ds => match strsOf ds with
    | some ys => if (ys.map (·.length)).sum + ys.length * a.length ≤ 16777216 then .ok (.str (Txt.join a ys)) else .bad
    | none => .bad
  | _ => .bad
def splitD (a : Str) : PyData → R PyData
  | .str b => if (b.length == 0) = false ∧ a.length + 2 ≤ sizeLine then .ok (.list ((Txt.split a b).map .str)) else .bad
  | _ => .bad
def sidxD (a : Str) : PyData → R PyData
  | .str b => match Builtin.Str.occurrences a b 0 a.length 1 with
    | i :: _ => .ok (.int (i : Nat))
    | [] => .bad
  | _ => .bad
/-- text.method(e) -/
def m1 (fo fe : En → R PyData) (g : Str → PyData → R PyData) : En → R PyData := fun r => (fo r).bind fun x => match x with
  | .str a => (fe r).bind (g a)
  | _ => .bad
def Um (P : Post) (rr : V → List V → Hp → VK → Prop) (g : Str → PyData → R PyData) : Prop := ∀ (W : WN) (σ : L2.St) (G H : Hp) (a : Str) (y : V) (e : PyData), Same G H → RBv G H y e → Sd P W (fun _ H Q => rr (.str a) [y] H Q) σ G H (g a e)
section
variable {X : Cx} {W : WN} {o e : Expr} {to te : TE} {fo fe : En → R PyData} {apos pos p p2 : Pos} {P : Post}
theorem vx_m1 {id : String} {name : Str} {rr : V → List V → Hp → VK → Prop} {g : Str → PyData → R PyData} (m : PMono P) (slot : Slot "str" name id) (ty : typeOf (.builtin id) = pure (.type "method_descriptor")) (rule : MtR X id rr) (hu : Um P rr g) (ho : VB X W o to fo) (he : VB X W e te fe)
    (hs : starEach [e] X.env = [(false, eval e X.env)] := by rfl) (hbase : attributeBase o name X.env (eval o X.env) = eval o X.env := by rfl) (hline : (apos.endLine == pos.line) = true := by rfl) :
    Vx P X W (.Call (.Attribute o name apos) [e] [] pos) (tM1 rr to te) (m1 fo fe g) := by
  refine ⟨pe_m1 slot ty rule ho.pe he.pe hs hbase hline, fun F G r σ H q => ?_⟩
  refine sd_bind (t' := fun x σ H1 Q => (∃ a, x = .str a) ∧ te σ H1 fun y H2 => rr x [y] H2 Q) m (ho.so F G r σ H q) fun d v G1 H1 _ e1 p1 => ?_
  cases d with
  | str a =>
    cases p1.str
    refine sd_eq (t := fun σ H1 Q => te σ H1 fun y H2 => rr (.str a) [y] H2 Q) ?_ fun Q z => ⟨⟨a, rfl⟩, z⟩
    exact sd_bind (t' := fun y _ H2 Q => rr (.str a) [y] H2 Q) m (he.so F G1 r σ H1 (q.ext e1)) fun d2 v2 G2 H2 _ e2 p2 => hu W σ G2 H2 a v2 d2 e2.gh p2
  | _ => trivial
theorem um_join {K : PySem.W.Frag} : Um pE (fun x xs H Q => ∃ a p, ∃ ys : List Str, x = .str a ∧ xs = [.ref p] ∧ (SqL K H p (ys.map V.str) ∨ SqT K H p (ys.map V.str)) ∧ (ys.map (·.length)).sum + ys.length * a.length ≤ 16777216 ∧ Q (.str (Txt.join a ys)) H) joinD := by
  intro W σ G H a y e s hy
  cases e with
  | list ds =>
    obtain ⟨p, vs, rfl, h1, h2⟩ := hy.lst s
    show Sd pE W _ σ G H (match strsOf ds with
      | some ys => if (ys.map (·.length)).sum + ys.length * a.length ≤ 16777216 then .ok (.str (Txt.join a ys)) else .bad
      | none => .bad)
    cases es : strsOf ds with
    | none => trivial
    | some ys =>
      have ev := des_strs h2 es
      subst ev
      show Sd pE W _ σ G H (if _ then _ else _)
      split
      · rename_i hl
        exact sd_of s (.str _) fun Q z => ⟨a, p, ys, rfl, rfl, .inl (slL h1), hl, z⟩
      · trivial
  | _ => trivial
theorem dea_strs (G : Hp) (ys : List Str) : DeAll G (ys.map V.str) (ys.map .str) := by
  induction ys with
  | nil => exact .nil
  | cons y ys ih => exact .cons (.str y) ih
theorem um_split : Um pO (fun x xs H Q => ∃ a b, x = .str a ∧ xs = [.str b] ∧ (b.length == 0) = false ∧ a.length + 2 ≤ sizeLine ∧ rNewStrs (Txt.split a b) H Q) splitD := by
  intro W σ G H a y e s hy
  cases e with
  | str b =>
    cases hy.str
    show Sd pO W _ σ G H (if _ then _ else _)
    split
    · rename_i hl
      exact sd_eq (sd_lst s (dea_strs G (Txt.split a b))) fun Q z => ⟨a, b, rfl, rfl, hl.1, hl.2, z⟩
    · trivial
  | _ => trivial
theorem um_sidx : Um pE (fun x xs H Q => ∃ a b i rest, x = .str a ∧ xs = [.str b] ∧ Builtin.Str.occurrences a b 0 a.length 1 = i :: rest ∧ Q (.int (i : Nat)) H) sidxD := by
  intro W σ G H a y e s hy
  cases e with
  | str b =>
    cases hy.str
    show Sd pE W _ σ G H (match Builtin.Str.occurrences a b 0 a.length 1 with
      | i :: _ => .ok (.int (i : Nat))
      | [] => .bad)
    cases eo : Builtin.Str.occurrences a b 0 a.length 1 with
    | nil => trivial
    | cons i rest => exact sd_of s (.int _) fun Q z => ⟨a, b, i, rest, rfl, rfl, eo, z⟩
  | _ => trivial
theorem z_join (ho : VB X W o to fo) (he : VB X W e te fe) (hs : starEach [e] X.env = [(false, eval e X.env)] := by rfl) (hbase : attributeBase o "join" X.env (eval o X.env) = eval o X.env := by rfl) (hline : (apos.endLine == pos.line) = true := by rfl) :
    VE X W (.Call (.Attribute o "join" apos) [e] [] pos) (tM1 (fun x xs H Q => ∃ a p, ∃ ys : List Str, x = .str a ∧ xs = [.ref p] ∧ (SqL X.K H p (ys.map V.str) ∨ SqT X.K H p (ys.map V.str)) ∧ (ys.map (·.length)).sum + ys.length * a.length ≤ 16777216 ∧ Q (.str (Txt.join a ys)) H) to te) (m1 fo fe joinD) :=
  vx_m1 mE F.slot_str_join F.type_str_join mt_join um_join ho he hs hbase hline
theorem z_split (ho : VB X W o to fo) (he : VB X W e te fe) (hs : starEach [e] X.env = [(false, eval e X.env)] := by rfl) (hbase : attributeBase o "split" X.env (eval o X.env) = eval o X.env := by rfl) (hline : (apos.endLine == pos.line) = true := by rfl) :
    VO X W (.Call (.Attribute o "split" apos) [e] [] pos) (tM1 (fun x xs H Q => ∃ a b, x = .str a ∧ xs = [.str b] ∧ (b.length == 0) = false ∧ a.length + 2 ≤ sizeLine ∧ rNewStrs (Txt.split a b) H Q) to te) (m1 fo fe splitD) :=
  vx_m1 mO F.slot_str_split F.type_str_split mt_split um_split ho he hs hbase hline
theorem z_sidx (ho : VB X W o to fo) (he : VB X W e te fe) (hs : starEach [e] X.env = [(false, eval e X.env)] := by rfl) (hbase : attributeBase o "index" X.env (eval o X.env) = eval o X.env := by rfl) (hline : (apos.endLine == pos.line) = true := by rfl) :
    VE X W (.Call (.Attribute o "index" apos) [e] [] pos) (tM1 (fun x xs H Q => ∃ a b i rest, x = .str a ∧ xs = [.str b] ∧ Builtin.Str.occurrences a b 0 a.length 1 = i :: rest ∧ Q (.int (i : Nat)) H) to te) (m1 fo fe sidxD) :=
  vx_m1 mE F.slot_str_index F.type_str_index mt_sindex um_sidx ho he hs hbase hline
/-! str(int) -/
def strD : PyData → R PyData
  | .int i => if i.natAbs.log2 < 1920 then .ok (.str (toString i)) else .bad
  | _ => .bad
theorem u1_str : Un1 pE (fun xs H Q => ∃ i, xs = [.int i] ∧ i.natAbs.log2 < 1920 ∧ Q (.str (toString i)) H) strD := by
  intro W σ G H x d s hx
  cases d with
  | int i =>
    cases hx.int
    show Sd pE W _ σ G H (if _ then _ else _)
    split
    · rename_i hl
      exact sd_of s (.str _) fun Q z => ⟨i, rfl, hl, z⟩
    · trivial
  | _ => trivial
theorem z_str (hg : Gl X "str") (hm : X.mg "str" = none) (he : VB X W e te fe) (hs : starEach [e] X.env = (false, eval e X.env) :: starEach [] X.env := by rfl) (hpl : (backTo pos (starEach [] X.env)).any (·.1) = false := by rfl) :
    VE X W (.Call (.Name "str" p) [e] [] pos) (tCB (fun xs H Q => ∃ i, xs = [.int i] ∧ i.natAbs.log2 < 1920 ∧ Q (.str (toString i)) H) (tCons te tNil)) (c1 strD fe) := vx_ct1 mE call_str_int u1_str PyProof.Rows.boot_str hg hm he (by decide) (by decide) hs hpl
/-! one sign in a text -/
def inSD (d c : PyData) : R PyData := match d, c with
  | .str x, .str z => match x.cps.toList with
    | [k] => .ok (.bool (decide (k ∈ z.cps.toList)))
    | _ => .bad
  | _, _ => .bad
theorem o2_inS : Op2 pE (fun x y H Q => ∃ (c : Nat) (z : Str), x = .str ⟨#[c]⟩ ∧ y = .str z ∧ Q (.bl (decide (c ∈ z.cps.toList))) H) inSD := by
  intro W σ G H x y d e s hx hy
  cases d with
  | str a =>
    cases e with
    | str z =>
      cases hx.str
      cases hy.str
      show Sd pE W _ σ G H (match a.cps.toList with
        | [k] => .ok (.bool (decide (k ∈ z.cps.toList)))
        | _ => .bad)
      split
      · rename_i k ek
        have ea : a = ⟨#[k]⟩ := by
          obtain ⟨⟨l⟩⟩ := a
          simp at ek
          rw [ek]
        exact sd_of s (.bl _) fun Q w => ⟨k, z, by rw [ea], rfl, w⟩
      · trivial
    | _ => trivial
  | _ => trivial
/-! slices of texts -/
variable {lo hi : Option Expr} {tl th : TO} {fl fh : En → R (Option Int)}
def slS3 (d : PyData) (lo hi : Option Int) : R PyData := match d with
  | .str z => if z.length ≤ sizeLine then .ok (.str (cutS z lo hi)) else .bad
  | _ => .bad
theorem z_slS (ha : VB X W o to fo) (hl : VP X W lo tl fl) (hh : VP X W hi th fh) : VE X W (.Subscript o (.Slice lo hi none p2) pos) (tSl rSlS to tl th) (b3 fo fl fh slS3) := by
  refine ⟨pe_slice sl_str ha.pe hl.po hh.po, fun F G r σ H q => ?_⟩
  refine sd_bind (t' := fun x σ H1 Q => tl σ H1 fun l H2 => th σ H2 fun u H3 => rSlS x l u H3 Q) mE (ha.so F G r σ H q) fun d v G1 H1 _ e1 p1 => ?_
  refine sd_bindP (t' := fun l σ H2 Q => th σ H2 fun u H3 => rSlS v l u H3 Q) mE (hl.so F G1 r σ H1 (q.ext e1)) fun l G2 H2 _ e2 => ?_
  refine sd_bindP (t' := fun u _ H3 Q => rSlS v l u H3 Q) mE (hh.so F G2 r σ H2 (q.ext (e1.trans e2))) fun u G3 H3 _ e3 => ?_
  have p3 := p1.ext (e2.trans e3)
  cases d with
  | str z =>
    cases p3.str
    show Sd pE W _ σ G3 H3 (if _ then _ else _)
    split
    · rename_i hz
      exact sd_of e3.gh (.str _) fun Q w => ⟨z, rfl, hz, w⟩
    · trivial
  | _ => trivial
/-! f'..' -/
def fmtD : PyData → R PyData
  | .str y => if y.length ≤ sizeLine then .ok (.str y) else .bad
  | .int i => if i.natAbs.log2 < 1920 then .ok (.str (toString i)) else .bad
  | _ => .bad
theorem z_fmt (he : VB X W e te fe) : VE X W (.FormattedValue e (-1) none pos) (tFmt te) (c1 fmtD fe) := by
  refine ⟨pe_fmt he.pe, fun F G r σ H q => ?_⟩
  refine sd_bind (t' := fun x _ H1 Q => (∃ y : Str, x = .str y ∧ y.length ≤ sizeLine ∧ Q (.str y) H1) ∨ ∃ i : Int, x = .int i ∧ i.natAbs.log2 < 1920 ∧ Q (.str (toString i)) H1) mE (he.so F G r σ H q) fun d v G1 H1 _ e1 p1 => ?_
  cases d with
  | str y =>
    cases p1.str
    show Sd pE W _ σ G1 H1 (if _ then _ else _)
    split
    · rename_i hz
      exact sd_of e1.gh (.str _) fun Q w => .inl ⟨y, rfl, hz, w⟩
    · trivial
  | int i =>
    cases p1.int
    show Sd pE W _ σ G1 H1 (if _ then _ else _)
    split
    · rename_i hz
      exact sd_of e1.gh (.str _) fun Q w => .inr ⟨i, rfl, hz, w⟩
    · trivial
  | _ => trivial
/-- the parts of f'..' -/
inductive VJ (X : Cx) (W : WN) : List Expr → List TE → List (En → R PyData) → Prop where
  | nil : VJ X W [] [] []
  | cons {e : Expr} {t : TE} {f : En → R PyData} {es : List Expr} {ts : List TE} {fs : List (En → R PyData)} (h : VE X W e t f) (r : VJ X W es ts fs) : VJ X W (e :: es) (t :: ts) (f :: fs)
theorem VJ.pj {es : List Expr} {ts : List TE} {fs : List (En → R PyData)} (h : VJ X W es ts fs) : PJ X es ts := by
  induction h with
  | nil => exact .nil
  | cons h _ ih => exact .cons h.pe ih
def jsD : List (En → R PyData) → Str → En → R PyData
  | [], acc, _ => .ok (.str acc)
  | f :: fs, acc, r => (f r).bind fun x => match x with
    | .str y => if (acc ++ y).length ≤ sizeLine then jsD fs (acc ++ y) r else .bad
    | _ => .bad
theorem VJ.so {es : List Expr} {ts : List TE} {fs : List (En → R PyData)} (h : VJ X W es ts fs) : ∀ (acc : Str) F G r σ H, Rep F G r σ H → Sd pE W (fun σ H Q => tJs ts acc σ H fun out H1 => Q (.str out) H1) σ G H (jsD fs acc r) := by
  induction h with
  | nil =>
    intro acc F G r σ H q
    exact sd_of q.sub (.str _) fun Q w => w
  | @cons e t f es ts fs h _ ih =>
    intro acc F G r σ H q
    refine sd_bind (t' := fun x σ H1 Q => ∃ y : Str, x = .str y ∧ (acc ++ y).length ≤ sizeLine ∧ tJs ts (acc ++ y) σ H1 fun out H2 => Q (.str out) H2) mE (h.so F G r σ H q) fun d v G1 H1 _ e1 p1 => ?_
    cases d with
    | str y =>
      cases p1
      show Sd pE W _ σ G1 H1 (if _ then _ else _)
      split
      · rename_i hz
        exact sd_eq (ih (acc ++ y) F G1 r σ H1 (q.ext e1)) fun Q w => ⟨y, rfl, hz, w⟩
      · trivial
    | _ => trivial
def fsF (fs : List (En → R PyData)) : En → R PyData := jsD fs Str.empty
theorem z_fstr {v1 v2 : Expr} {rest : List Expr} {ts : List TE} {fs : List (En → R PyData)} (h : VJ X W (v1 :: v2 :: rest) ts fs) : VE X W (.JoinedStr (v1 :: v2 :: rest) pos) (fun σ H Q => tJs ts Str.empty σ H fun out H1 => Q (.str out) H1) (fsF fs) :=
  ⟨pe_joined h.pj, fun F G r σ H q => h.so Str.empty F G r σ H q⟩
/-! a text among the globals -/
theorem z_glob {x : Str} {s : Str} {u : Value} (hg : Gl X x) (hm : X.mg x = some u) (hr : RelV (.str s) u) (hd : (x == ("__debug__" : Str)) = false := by decide) : VE X W (.Name x pos) (tC (.str s)) (kR (.str s)) :=
  ⟨pe_glob hg hm hr hd, fun F G r σ H q => sd_of q.sub (.str _) fun Q w => w⟩
end
end DL
namespace DL
open PySem L2
/-! ### an own exception with one field: C.__init__ says B.__init__(self, text), self.f = x -/
section
variable {X : Cx} {e : Expr} {es : List Expr} {ta : TA} {p1 p2 pos : Pos} {B : Str} {CB : Addr}
theorem pe_cinit {pl : Sem Bool} (hg : Gl X B) (hm : X.mg B = some (.ref CB)) (r : ClX.CRead X.K CB (.type "type")) (vV : PySem.W.findCls X.K (.ref CB) (.type "type") "__init__" = some (.val (.builtin "ValueError.__init__"))) (ha : PA X (e :: es) ta)
    (hc : eval (.Call (.Attribute (.Name B p1) "__init__" p2) (e :: es) [] pos) X.env = (do
      let ov ← eval (.Name B p1) X.env
      standAt p2.atName
      let (f, first) ← holding [ov] (getMethod ov "__init__" pl)
      callWith pos f first (backTo pos (starEach (e :: es) X.env)) (backToKw pos (keywordEach [] X.env))) := by rfl) (hdb : (B == ("__debug__" : Str)) = false := by decide)
    (he : starEach (e :: es) X.env = (false, eval e X.env) :: starEach es X.env := by rfl) (hpl : (backTo pos (starEach es X.env)).any (·.1) = false := by rfl) :
    PE X (.Call (.Attribute (.Name B p1) "__init__" p2) (e :: es) [] pos) (tVeI X.K ta) := by
  refine ⟨fun pins s σ H Q I h => ?_⟩
  refine PySem.W.methodCall_KW (ld_glob I hg hm ?_ hdb) hc
  refine PySem.W.method_cls I.kIn r.ga (PySem.W.cls_value I.kIn r.rd vV (by decide +kernel) ?_)
  show wpAny _ _ (callWith pos (Value.builtin "ValueError.__init__") [] (backTo pos (starEach (e :: es) X.env)) []) _ _ _
  refine PyProof.Rows.callWith_method1 (thn (ha.run pos pins _ σ H _ (I.tok _) h) fun us s1 ⟨vs, H1, I1, r1, a, C, ws, ev, hl, T, ea, q⟩ => ?_) he hpl
  subst ev
  cases r1 with
  | @cons _ u0 _ ur ra rw' =>
    obtain rfl : u0 = Value.ref a := ra
    have hlen : ur.length ≤ sizeLine := by
      rw [← Paired.length rw', sizeLine_eq]
      omega
    exact oinit_ok T I1 ea hlen fun s' J => ⟨.non, H1, J, rfl, q⟩
end
def spX (C : Addr) (f : Str) : Sp := fun vs H Q E => ∃ a v, vs = [.ref a, v] ∧ H a = some (exo a C none) ∧ ∀ dx, H dx = none → dx ≠ a → Q .non (upd (upd H dx (exd dx [(f, v)])) a (exo a C (some dx)))
/-- an exception class with one field -/
structure CalX (P : Program) (w : World) (K : PySem.W.Frag) (mg : Str → Option Value) (base : Heap) (c f : Str) (k : Nat) : Prop where
  g : mg c = some (.ref (He.ga K c))
  o : OexC K (He.ga K c)
  i : ∃ fI fd ps, FnOk P w K mg base (L2.CX P w) k fI fd ps (spX (He.ga K c) f) ∧ Binds K fd ps [] ∧ PySem.W.findIn K (.ref (He.ga K c)) "__init__" = some (some (.ref fI)) ∧ PySem.W.typeIn K (.ref fI) = some (.type "function")
section
variable {P : Program} {w : World} {K : PySem.W.Frag} {mg : Str → Option Value} {base : Heap}
theorem fx_of {x qual m : Str} {params : Arguments} {body : List Stmt} {scope : Scope} {f : Addr} {fd : FuncData} {N ps : List Str} {k : Nat} {C : Addr} {fl : Str} (Fn : FunD K x qual params body scope [] [] f fd) (S : FnScope N ps scope) (T : OexC K C) (hno : PySem.W.findIn K (.ref C) fl = some none)
    (hbody : ∀ (cdv : Value) (A : Around) (outer : List Env) (s : Shared) (H : Hp) (E : XK), Room k (A.deeper (PyProof.Rows.envOfC qual scope s.heap.objs.size f cdv)) →
      PSs (cxOf (L2.CX P w) P w K mg base N qual scope f cdv A outer s H E) body (tSeq (tDrop (tVeI K (tCons (tVar 0) (tCons (tC (.str m)) tNil)))) (tOst K fl (tVar 0) (tVar 1)))) (hn : ps.length = 2) (hN : N.length = 2) : FnOk P w K mg base (L2.CX P w) (k + 1) f fd ps (spX C fl) := by
  refine Fn.ok S (fun vs H Q E h => by obtain ⟨a, v, rfl, _⟩ := h; exact hn.symm) fun cdv A outer s H vs Q E hr h => ?_
  obtain ⟨a, v, rfl, ha, hq⟩ := h
  refine ⟨_, hbody cdv A outer s H E hr, ?_⟩
  have s0 : (L2.start N [V.ref a, v])[0]? = some (some (.ref a)) := by unfold L2.start; rfl
  have s1 : (L2.start N [V.ref a, v])[1]? = some (some v) := by unfold L2.start; rfl
  refine ⟨_, s0, a, C, [.str m], rfl, by simp, T, ha, _, s1, _, s0, a, C, rfl, T, hno, .inl ⟨ha, fun dx hx ne => ?_⟩⟩
  exact hq dx hx ne
end
section
variable {X : Cx} {W : WN} {e : Expr} {te : TE} {fe : En → R PyData} {p p3 pos : Pos} {c f : Str} {k : Nat}
def sRaiseX (c f : Str) (fe : En → R PyData) : En → O := fun r => (fe r).toO r fun d => .exc c (some [(f, d)]) r
theorem vs_raiseX (hc : X.calm = true) (tk : Takes X (wx X.K W)) (x : CalX X.prog X.w X.K X.mg X.base c f k) (hr : Room (k + 1) X.A) (hg : Gl X c) (h : VE X W e te fe) (hdb : (c == ("__debug__" : Str)) = false := by decide)
    (he : starEach [e] X.env = (false, eval e X.env) :: starEach [] X.env := by rfl) (hpl : (backTo p3 (starEach [] X.env)).any (·.1) = false := by rfl) :
    VS X W (.Raise (some (.Call (.Name c p) [e] [] p3)) none pos) (fun _ σ H => tMkO (He.ga X.K c) (spX (He.ga X.K c) f) [] (tCons te tNil) σ H fun cls d H' => wx X.K W cls d σ H') (sRaiseX c f fe) := by
  obtain ⟨fI, fd, ps, F1, hb, iC, tI⟩ := x.i
  refine ⟨ps_raise hc tk (pmk_oex x.o iC tI F1 hr hb .nil (fun pins σ H s e s' I c => tk e s' (XE.of_call I (fun _ _ _ h => h.elim) c)) hg x.g (pa_cons h.pe pa_nil he) hdb he hpl), fun F G r σ H q D a => ?_⟩
  refine acc_bind q (h.so F G r σ H q) a fun d v G' H' _ e1 pp a' => ?_
  refine ⟨by simp, fun ad na => ⟨ad, v, rfl, upd_same, fun dx hx ne => ⟨rfl, dx, [(f, v)], upd_same, ?_, ?_, c, rfl, ?_⟩⟩⟩
  · rw [upd_ne ne, upd_same]
  · rwa [upd_ne ne] at hx
  · rw [upd_ne ne] at hx
    have eH : upd (del (upd (upd (upd H' ad (exo ad (He.ga X.K c) none)) dx (exd dx [(f, v)])) ad (exo ad (He.ga X.K c) (some dx))) ad) dx (.xd [(f, v)]) = upd H' dx (.xd [(f, v)]) := by
      funext b
      by_cases b1 : b = dx
      · subst b1
        rw [upd_same, upd_same]
      · rw [upd_ne b1, upd_ne b1]
        by_cases b2 : b = ad
        · subst b2
          rw [del_same, na]
        · rw [del_ne b2, upd_ne b2, upd_ne b1, upd_ne b2]
    rw [eH]
    exact a' (some dx) σ G' _ (Same.refl G') ((q.ext e1).ext (Ext.fresh e1.gh hx)) ⟨dx, [(f, v)], rfl, upd_same, .cons ⟨rfl, pp⟩ .nil⟩
end
end DL
namespace DL
open PySem PySem.Spec PySem.Calls PyProof.Rows L2
/-! ### isinstance of a caught error that has fields -/
section
open PySem.W
variable {K : Frag} {x D : Addr} {ox od : Obj}
theorem cls_dat (C : ExcC K D) : findObj K D (some od) "__class__" = some (.bind (.builtin "getset_descriptor.__get__") (.builtin "object.__class__")) := by
  obtain ⟨cd, hc, _⟩ := any_some C.hd
  unfold findObj
  rw [hc, Option.bind_some, C.ha, Option.bind_some]
  simp [C.hn, C.ht]
theorem its_cls (C : ExcC K D) {prog : Program} {w : World} {A : Around} {E : Value → Shared → Prop} {Q : Option Value → Shared → Prop} {hp : Heap} {gs : Array GenState} {dr : Drawn} {tk : Nat} {os : OsState} (X : K.In hp) (I : InstAt hp x ox D (some od))
    (h : Q (some (.ref D)) ⟨hp, gs, dr, tk + 1, os⟩) : wpAny (model prog w) A (getAttr? (.ref x) "__class__") Q E ⟨hp, gs, dr, tk, os⟩ := by
  have ty := I.type (M := model prog w)
  have fd := looks_find (M := model prog w) X I (cls_dat (od := od) C)
  have no : (Value.builtin "BaseException.__getattribute__" == Value.builtin "object.__getattribute__") = false := by decide +kernel
  unfold getAttr? getAttrBy? getAttrBy
  refine wpAny_bind (wpAny_mkText (wpAny_bind (wpAny_attempt (wpAny_holding (wpAny_bind (ty.at (wpAny_bind ((looks_findIn X C.hg).at ?_))))))))
  dsimp only
  rw [if_neg (show ¬ (onTheHeap (Value.ref D) && Value.builtin "BaseException.__getattribute__" == Value.builtin "object.__getattribute__") = true by rw [no]; exact Bool.false_ne_true)]
  unfold getAttrByItsOwn hookBefore
  refine wpAny_bind ?_
  rw [if_pos (show onTheHeap (Value.ref D) = true from rfl)]
  refine (looks_findIn X C.hk).at (wpAny_bind (wpAny_attempt (wpAny_holding ?_)))
  unfold callGetattribute
  rw [if_neg (show ¬ (false && onTheHeap (Value.builtin "BaseException.__getattribute__")) = true from Bool.false_ne_true)]
  unfold boundAndCalled
  rw [PySem.F.excAttr_ValueError.ga.bind (.ref x)]
  refine wpAny_bind (wpAny_pure (wpAny_call (codeAny_call_builtin PySem.F.excAttr_ValueError.ga.plain PySem.F.entry_bexc_ga ?_)))
  refine @check_slot (model prog w) _ _ ⟨hp, gs, dr, tk + 1, os⟩ "BaseException.__getattribute__" "BaseException" "__getattribute__" (.ref x) [.str "__class__" tk] [] _ (by decide +kernel) (by decide +kernel) (ty.andThen (looks_subIn X C.hs)) (PySem.F.args_bexc_ga (.ref x) (.str "__class__" tk)) ?_
  unfold Builtin.«object.__getattribute__»
  refine wpAny_bind (wpAny_of_eq (a := ((Value.ref x : Value), [Value.str "__class__" tk])) (by first | rfl | (simp only [slotArgs]; rfl)) ?_)
  refine wpAny_bind (wpAny_pure (wpAny_bind (ty.at (wpAny_bind (fd.at ?_)))))
  refine wpAny_bind (wpAny_holding (wpAny_call (class_get (s := ⟨hp, gs, dr, tk + 1, os⟩) (ox := ox) (od := some od) X I C.hm (wpAny_pure ?_))))
  show wpAny _ _ (handedOut (.ref D)) _ _ _
  rw [handedOut_of (v := .ref D) rfl]
  first
    | exact wpAny_pure (wpAny_pure h)
    | exact wpAny_pure h
    | exact wpAny_pure (wpAny_bind (wpAny_pure (wpAny_pure h)))
theorem kitx_fld (C : ExcC K D) : KitX K (.ref x) (.ref D) (fun h => ∃ od, InstAt h x ox D (some od)) := by
  obtain ⟨cd, hc, _⟩ := any_some C.hd
  have ob : ∃ c d sl, K.lookup D = some ⟨c, d, .cls cd, sl⟩ := by
    unfold clsIn at hc
    split at hc
    · rename_i c d cd' sl ho
      cases hc
      exact ⟨c, d, sl, ho⟩
    · cases hc
  obtain ⟨c, d, sl, ho⟩ := ob
  refine ⟨fun M h X ⟨_, I⟩ => I.type, fun M h X _ => ?_, fun h tp dd its n sl' X htp => ?_, fun {prog w A E Q s} X ⟨od, I⟩ k => ?_⟩
  · intro A Q E s' k q
    unfold isType loadHead
    exact wpAny_bind (wpAny_loadPart (k _ _ (X _ _ ho)) (wpAny_pure q))
  · refine Bool.eq_false_iff.mpr fun q => ?_
    cases beq_iff_eq.mp q
    cases (X _ _ ho).symm.trans htp
  · obtain ⟨hp, gs, dr, tk, os⟩ := s
    exact its_cls C X I k
end
theorem call_isF {X : Cx} {a D dd : Addr} {oe : Obj} {pn : List (Addr × Obj)} (C : ExcC X.K D) (hz : Zc (.ref D) (some dd) oe) (hf : ∃ vs, oe.data = .fields vs) :
    CallR (X.suite a ((a, oe) :: pn)) (.builtin "isinstance") (fun xs H Q => (∃ fs, H dd = some (.xd fs)) ∧ rIsE X.K D a xs H Q) := by
  rintro pins s σ H xs us Q I r ⟨⟨fs, ed⟩, c, cv, b, rfl, hcv, e, q⟩
  cases r with
  | cons rx rr =>
    cases rr with
    | cons rt rr =>
      cases rr
      cases rx
      have ec := hcv _ rt
      subst ec
      obtain ⟨hget, _⟩ := I.pin (a, oe) (List.mem_append.mpr (.inl List.mem_cons_self))
      obtain ⟨vs, hv⟩ := hf
      obtain ⟨mA, hns, _⟩ : ObjOk X.prog X.w H s.heap dd (.xd fs) := I.hok dd _ ed
      obtain ⟨od, ho, _⟩ := lookIn_ns hns
      have J : ∃ od, PySem.W.InstAt s.heap a oe D (some od) := ⟨od, hget, hz.1, by unfold PySem.W.notCls; rw [hv] <;> rfl, by rw [hz.2]; exact ho⟩
      exact PySem.W.kia_one (kitx_fld C) I.kIn J e (fun z => nomatch z) fun tk => ⟨.bl b, H, I.kept (t' := tk) fun _ _ z => z, rfl, q⟩
end DL
namespace DL
open PySem L2
/-! ### try: .. except C as e: return [text, e.f] if .. else .. -/
def tFx (i : Nat) (a dd : Addr) (f z : Str) : TS := fun D σ H => σ[i]? = some (some (.ref a)) ∧ ∃ v, H dd = some (.xd [(f, v)]) ∧ ∀ q, H q = none → D.rt (.ref q) (upd H q (.lst [.str z, v]))
def sTryF (i : Nat) (c f z : Str) (fb : En → O) : En → O := fun r => match fb r with
  | .exc c' (some [(f', d)]) r' => if c' = c ∧ f' = f ∧ i < r'.length then .rt (.list [.str z, d]) else .bad
  | .exc _ _ _ => .bad
  | o => o
theorem vs_tryF {X : Cx} {W : WN} {c f z nm : Str} {i : Nat} {body : List Stmt} {st : Stmt} {sts : List Stmt} {np p pos : Pos} {fb : En → O} (hs : X.stack = X.env :: X.outer) (hf : X.env.frame = some X.env.locals) (hN : X.N.Nodup) (tk : Takes X (wx X.K W))
    (hb : ∀ (W' : WN) (pn : List (Addr × Obj)) (xe : Value → Shared → Prop), Takes (X.tr pn xe) (wx X.K W') → PassesOwn (model X.prog X.w) X.A X.env xe → ∃ t, VSs (X.tr pn xe) W' body t fb)
    (hi : X.N[i]? = some nm) (hl : X.env.kindOf nm = some .local) (hc : Names X c (.ref (He.ga X.K c))) (hx : PySem.W.exmOne X.K (.ref (He.ga X.K c)) (.ref (He.ga X.K c)) = some true)
    (hsu : ∀ (a : Addr) (oe : Obj) (dd : Addr) (pn : List (Addr × Obj)), Zc (.ref (He.ga X.K c)) (some dd) oe → (∃ vs, oe.data = .fields vs) → PSs (X.suite a ((a, oe) :: pn)) (st :: sts) (tFx i a dd f z)) :
    ∃ t, VS X W (.Try body [.ExceptHandler (some (.Name c np)) (some nm) (st :: sts) p] [] [] pos) t (sTryF i c f z fb) := by
  have h1 : ClOk X [.ExceptHandler (some (.Name c np)) (some nm) (st :: sts) p] [(.ref (He.ga X.K c), i, fun a cls d D σ H => ∃ dd, cls = .ref (He.ga X.K c) ∧ d = some dd ∧ tFx i a dd f z D σ H)] :=
    .cons hi hl hc (fun a oe cls d pn hz hf => ⟨fun pins s σ H D I w => by
      obtain ⟨dd, rfl, rfl, w⟩ := w
      exact (hsu a oe dd pn hz hf).run pins s σ H D I w⟩) .nil
  refine ⟨_, ps_tryN (tb := fun Wx => tCanS (fun c d σ H => Wx (.ref (He.ga X.K c)) d σ H) fb) hs hf hN tk (fun Wx pn xe tk' po => ?_) h1, fun F G r σ H q D a => ⟨F, G, r, q, ?_⟩⟩
  · obtain ⟨t, v⟩ := hb (fun c d σ H => Wx (.ref (He.ga X.K c)) d σ H) pn xe (takes_wx tk') po
    exact v.can
  · unfold sTryF at a
    cases e : fb r with
    | nx r' => rw [e] at a; exact a
    | rt d => rw [e] at a; exact a
    | bk r' => rw [e] at a; exact a
    | ct r' => rw [e] at a; exact a
    | bad => rw [e] at a; exact a
    | exc c' fs r' =>
      rw [e] at a
      match fs, a with
      | none, a => exact (show False from a).elim
      | some [], a => exact (show False from a).elim
      | some (_ :: _ :: _), a => exact (show False from a).elim
      | some [(f', d)], a =>
        have a' : Acc W F G D (if c' = c ∧ f' = f ∧ i < r'.length then .rt (.list [.str z, d]) else .bad) := a
        by_cases k : c' = c ∧ f' = f ∧ i < r'.length
        · rw [if_pos k] at a'
          obtain ⟨rfl, rfl, ln⟩ := k
          intro x σ' G' H' s q' hxr
          obtain ⟨dd, vs, rfl, ed, pr⟩ := hxr
          cases pr with
          | cons h1 h2 =>
            cases h2
            rename_i pv
            obtain ⟨n1, v⟩ := pv
            obtain ⟨e1, dv⟩ := h1
            cases e1
            refine ⟨true, hx, fun _ ad na => ⟨dd, rfl, rfl, ?_, v, ed, fun q2 nq => ?_⟩, fun e => nomatch e⟩
            · exact List.getElem?_set_self (by rw [← q'.len]; exact ln)
            · have gq := q'.sub.free nq
              have ex := Ext.laid q'.sub (o := .lst [.str z, v]) nq
              exact a' (.ref q2) _ _ (s.trans ex.gg) ex.gh (q'.ext ex).frm (.lst (.inl upd_same) (.cons (.str z) (.cons (dm ex.gg dv) .nil)))
        · rw [if_neg k] at a'
          exact a'.elim
/-! the suite -/
def KF (i : Nat) (a dd : Addr) (f : Str) (σ : L2.St) (H : Hp) : Prop := σ[i]? = some (some (.ref a)) ∧ ∃ v, H dd = some (.xd [(f, v)])
section
variable {X : Cx} {c f z nm T T1 T2 : Str} {i : Nat} {a dd : Addr} {oe : Obj} {pn : List (Addr × Obj)} {b b1 b2 : Bool} {e e1 e2 o : Expr} {pos p p1 p2 p3 p4 p5 : Pos} {cs Cs : List Str} {sub : Str → Str → Bool} {j k : Nat}
theorem kf_is (q : Clt X.K cs Cs sub) (hz : Zc (.ref (He.ga X.K c)) (some dd) oe) (hf : ∃ vs, oe.data = .fields vs) (hc : c ∈ cs) (hx : X.mg "isinstance" = none) (hg : Gl X "isinstance") (hT : T ∈ Cs) (gT : Gl X T) (mT : X.mg T = some (.ref (He.ga X.K T)))
    (pv : PE (X.suite a ((a, oe) :: pn)) (.Name nm p1) (tVar i)) (hdT : (T == ("__debug__" : Str)) = false := by decide)
    (hs : starEach [.Name nm p1, .Name T p2] X.env = (false, eval (.Name nm p1) X.env) :: starEach [.Name T p2] X.env := by rfl) (hpl : (backTo pos (starEach [.Name T p2] X.env)).any (·.1) = false := by rfl) :
    PT (X.suite a ((a, oe) :: pn)) (.Call (.Name "isinstance" p) [.Name nm p1, .Name T p2] [] pos) (fun σ H Q => KF i a dd f σ H ∧ Q (sub c T) H) := by
  have pe : PE (X.suite a ((a, oe) :: pn)) (.Call (.Name "isinstance" p) [.Name nm p1, .Name T p2] [] pos) (fun σ H Q => KF i a dd f σ H ∧ Q (.bl (sub c T)) H) :=
    pe_imp (pe_callB (X := X.suite a ((a, oe) :: pn)) (call_isF (q.xc c hc) hz hf) hg hx PyProof.Rows.boot_isinstance (pa_cons pv (pa_cons (pe_glob (v := .ref (He.ga X.K T)) gT mT rfl hdT) pa_nil)) (by decide) (by decide) hs hpl) fun σ H Q w => by
      obtain ⟨⟨k1, v, k2⟩, w⟩ := w
      exact ⟨_, k1, ⟨_, k2⟩, _, _, _, rfl, fun _ r => r, q.ki c hc T hT, w⟩
  exact pt_imp (pt_truth pe fun _ => rfl) fun σ H Q w => ⟨w.1, sub c T, rfl, w.2⟩
theorem kf_and (h1 : PT (X.suite a ((a, oe) :: pn)) e1 (fun σ H Q => KF i a dd f σ H ∧ Q b1 H)) (h2 : PT (X.suite a ((a, oe) :: pn)) e2 (fun σ H Q => KF i a dd f σ H ∧ Q b2 H)) (t1 : b1 = true) (t2 : b2 = false) :
    PT (X.suite a ((a, oe) :: pn)) (.BoolOp .And [e1, .UnaryOp .Not e2 p] pos) (fun σ H Q => KF i a dd f σ H ∧ Q true H) := by
  subst t1 t2
  exact pt_imp (PW.pt (pw_and h1 (pw_and1 (pt_not h2)))) fun σ H Q w => ⟨w.1, w⟩
theorem kf_ret {tt : TT} {to : TE} (T : XfC X.K (He.ga X.K c)) (hno : PySem.W.findIn X.K (.ref (He.ga X.K c)) f = some none) (hz : Zc (.ref (He.ga X.K c)) (some dd) oe) (hf : ∃ vs, oe.data = .fields vs)
    (ht : PT (X.suite a ((a, oe) :: pn)) e tt) (hh : ∀ σ H Q, KF i a dd f σ H → Q true H → tt σ H Q) (pv : PE (X.suite a ((a, oe) :: pn)) (.Name nm p1) (tVar i)) (po : PE (X.suite a ((a, oe) :: pn)) o to) (hb : attributeBase (.Name nm p1) f X.env (eval (.Name nm p1) X.env) = eval (.Name nm p1) X.env := by rfl) :
    PSs (X.suite a ((a, oe) :: pn)) [.Return (some (.IfExp e (.List [.Constant (.str z) j p3, .Attribute (.Name nm p1) f p4] p5) o p)) pos] (tFx i a dd f z) := by
  refine pss_imp (pss_one (ps_ret (pe_ifExp ht (pe_lst (pa_cons pe_str (pa_cons (pe_xf T hno hz hf pv hb) pa_nil))) po))) fun D σ H w => ?_
  obtain ⟨k1, v, k2, k3⟩ := w
  refine hh σ H _ ⟨k1, v, k2⟩ ?_
  show (if true = true then _ else _)
  rw [if_pos rfl]
  refine ⟨_, k1, rfl, rfl, dd, _, v, rfl, k2, by simp [List.lookup], ?_, fun q nq => k3 q nq⟩
  have : 2 ≤ sizeLine := by decide
  exact this
end
theorem z_ex {X : Cx} {W : WN} {st : Stmt} {f : En → O} (h : ∃ t, VS X W st t f) : VS X W st (tCanS W f) f := by
  obtain ⟨t, v⟩ := h
  exact ⟨⟨fun pins s σ H D I w => v.ps.run pins s σ H D I (w.elim fun F w => w.elim fun G w => w.elim fun r w => v.so F G r σ H w.1 D w.2)⟩, fun F G r σ H q D a => ⟨F, G, r, q, a⟩⟩
end DL
namespace DL
open PySem L2
/-! ### what the head tells of an exception class c with the field f, whose base is B -/
def oexB (K : PySem.W.Frag) (C : Addr) : Bool := match K.lookup C with
  | some ⟨.type "type", _, .cls cd, sl⟩ => (match cd.mro, sl.toList with
    | .ref C' :: bm, [_, _, _, _, some (.builtin n), _] => C' == C && (n == "ValueError.__new__" && (!cd.hasDel && (cd.hasDict && PySem.HandSPX.refsVE bm)))
    | _, _ => false)
  | _ => false
theorem oexB_ok {K : PySem.W.Frag} {C : Addr} (h : oexB K C = true) : ∃ nm q N bs bm sn sub ab col dd k0 k1 k2 k3 k5, K.lookup C = some (excClassObj nm q C N bs bm true sn sub ab col dd k0 k1 k2 k3 k5 "ValueError.__new__") ∧ PySem.HandSPX.refsVE bm = true := by
  unfold oexB at h
  split at h
  · rename_i dd cd sl ho
    split at h
    · rename_i C' bm k0 k1 k2 k3 n k5 hm hs
      simp only [Bool.and_eq_true, beq_iff_eq, Bool.not_eq_true'] at h
      obtain ⟨rfl, rfl, hdel, hdic, hve⟩ := h
      obtain ⟨nm, bs, mro, ns, qn, hd, sn, sub, ab, col, del⟩ := cd
      dsimp only at hm hdel hdic
      subst hm hdel hdic
      have hsl : sl = #[k0, k1, k2, k3, some (.builtin "ValueError.__new__"), k5] := by
        obtain ⟨l⟩ := sl
        simp only at hs
        rw [hs]
      subst hsl
      exact ⟨nm, qn, ns, bs, bm, sn, sub, ab, col, dd, k0, k1, k2, k3, k5, ho, hve⟩
    · cases h
  · cases h
structure Fld (K : PySem.W.Frag) (c f B : Str) : Prop where
  o : OexC K (He.ga K c)
  x : XfC K (He.ga K c)
  n : PySem.W.findIn K (.ref (He.ga K c)) f = some none
  i : PySem.W.findIn K (.ref (He.ga K c)) "__init__" = some (some (.ref (He.ma K (He.ga K c) "__init__")))
  t : PySem.W.typeIn K (.ref (He.ma K (He.ga K c) "__init__")) = some (.type "function")
  e : PySem.W.exmOne K (.ref (He.ga K c)) (.ref (He.ga K c)) = some true
  r : ClX.CRead K (He.ga K B) (.type "type")
  v : PySem.W.findCls K (.ref (He.ga K B)) (.type "type") "__init__" = some (.val (.builtin "ValueError.__init__"))
def fcB (K : PySem.W.Frag) (C : Addr) : Bool := match PySem.W.findCls K (.ref C) (.type "type") "__init__" with
  | some (.val u) => u == .builtin "ValueError.__init__"
  | _ => false
theorem fcB_ok {K : PySem.W.Frag} {C : Addr} (h : fcB K C = true) : PySem.W.findCls K (.ref C) (.type "type") "__init__" = some (.val (.builtin "ValueError.__init__")) := by
  unfold fcB at h
  split at h
  · rename_i u e
    rw [e, beq_iff_eq.mp h]
  · cases h
def ckF (c f B : Str) (K : PySem.W.Frag) : Bool :=
  oexB K (He.ga K c) && (decide (PySem.W.findIn K (.ref (He.ga K c)) "__setattr__" = some (some (.builtin "object.__setattr__"))) && (decide (PySem.W.subIn K (.ref (He.ga K c)) (.type "BaseException") = some true) &&
    (decide (PySem.W.typeIn K (.ref (He.ga K c)) = some (.type "type")) && (PySem.W.keepIn K (.ref (He.ga K c)) && (xfB K (He.ga K c) && (decide (PySem.W.findIn K (.ref (He.ga K c)) f = some none) &&
      (decide (PySem.W.findIn K (.ref (He.ga K c)) "__init__" = some (some (.ref (He.ma K (He.ga K c) "__init__")))) && (decide (PySem.W.typeIn K (.ref (He.ma K (He.ga K c) "__init__")) = some (.type "function")) &&
        (decide (PySem.W.exmOne K (.ref (He.ga K c)) (.ref (He.ga K c)) = some true) && (PySem.W.readsIn K (He.ga K B) (.type "type") && (decide (PySem.W.specialIn K (.ref (He.ga K B)) "__getattribute__" = some (some (.builtin "type.__getattribute__"))) &&
          fcB K (He.ga K B))))))))))))
theorem ckF_ok {K : PySem.W.Frag} {c f B : Str} (h : ckF c f B K = true) : Fld K c f B := by
  unfold ckF at h
  simp only [Bool.and_eq_true, decide_eq_true_eq] at h
  obtain ⟨h1, h2, h3, h4, h5, h6, h7, h8, h9, h10, h11, h12, h13⟩ := h
  exact ⟨⟨oexB_ok h1, h2, h3, h4, h5⟩, xfB_ok h6, h7, h8, h9, h10, ⟨h11, h12⟩, fcB_ok h13⟩
end DL
namespace Com
open PySem L2 DL
/-! ### texts: split and join by one sign -/
theorem pre1 (s c : Nat) (r : List Nat) : TL.pre [s] (c :: r) = decide (c = s) := by
  by_cases h : c = s
  · subst h
    rw [decide_eq_true rfl]
    exact TL.pre_self [c] r
  · rw [decide_eq_false h]
    exact TL.pre_of_head [] r h
theorem spl1 (s : Nat) : ∀ (l acc : List Nat), TL.joinL [s] (TL.spl [s] 0 acc l) = acc ++ l ∧ TL.spl [s] 0 acc l ≠ [] ∧ (s ∉ acc → ∀ p ∈ TL.spl [s] 0 acc l, s ∉ p)
  | [], acc => by
    rw [TL.spl_nil]
    refine ⟨by simp [TL.joinL], by simp, fun h p m => ?_⟩
    rw [List.mem_singleton.mp m]
    exact h
  | c :: r, acc => by
    by_cases h : c = s
    · subst h
      rw [TL.spl_hit (by rw [pre1]; exact decide_eq_true rfl)]
      obtain ⟨h1, h2, h3⟩ := spl1 c r []
      have e0 : ([c] : List Nat).length - 1 = 0 := rfl
      rw [e0]
      refine ⟨?_, by simp, fun ha p m => ?_⟩
      · cases e : TL.spl [c] 0 [] r with
        | nil => exact absurd e h2
        | cons q qs =>
          rw [e] at h1
          simp only [TL.joinL] at h1 ⊢
          rw [h1]
          simp
      · rcases List.mem_cons.mp m with rfl | m
        · exact ha
        · exact h3 (by simp) p m
    · rw [TL.spl_miss (by rw [pre1]; exact decide_eq_false h)]
      obtain ⟨h1, h2, h3⟩ := spl1 s r (acc ++ [c])
      refine ⟨by rw [h1]; simp, h2, fun ha p m => h3 ?_ p m⟩
      intro q
      rcases List.mem_append.mp q with q | q
      · exact ha q
      · exact h (List.mem_singleton.mp q).symm
def spS : Str := " "
def nlS : Str := "\n"
theorem tl_sp : TL.tl spS = [32] := by kernel_rfl
theorem tl_nl : TL.tl nlS = [10] := by kernel_rfl
section
variable {y : Str} {s : Nat} (ey : TL.tl y = [s]) (hs : s < 256)
include ey hs
theorem all_lt : y.cps.all (· < 256) = true := by
  have e : y.cps.toList = [s] := ey
  rw [← Array.all_toList, e]
  simpa using hs
theorem split_tl (x : Str) : (Txt.split x y).map TL.tl = TL.spl [s] 0 [] (TL.tl x) := by
  have := TL.split_spl x y (by rw [ey]; simp) (TL.kind_ok (all_lt ey hs))
  rw [ey] at this
  exact this
theorem join_tl (parts : List Str) : TL.tl (Txt.join y parts) = TL.joinL [s] (parts.map TL.tl) := by
  rw [TL.join_eq, TL.tl_join, ey]
theorem split_ok (x : Str) : Txt.join y (Txt.split x y) = x ∧ Txt.split x y ≠ [] ∧ ∀ p ∈ Txt.split x y, s ∉ TL.tl p := by
  obtain ⟨h1, h2, h3⟩ := spl1 s (TL.tl x) []
  have e := split_tl ey hs x
  refine ⟨TL.ext_tl ?_, fun z => ?_, fun p m => ?_⟩
  · rw [join_tl ey hs, e, h1]
    rfl
  · rw [z] at e
    exact h2 e.symm
  · refine h3 (by simp) (TL.tl p) ?_
    rw [← e]
    exact List.mem_map.mpr ⟨p, m, rfl⟩
theorem join_split {parts : List Str} (hne : parts ≠ []) (hp : ∀ p ∈ parts, s ∉ TL.tl p) : Txt.split (Txt.join y parts) y = parts := by
  have := TL.split_join (y := y) (s := s) (S := []) ey (all_lt ey hs) hne hp
  exact this
end
theorem joinL_sub (s : Nat) : ∀ (ps : List (List Nat)) (p : List Nat), p ∈ ps → (∀ c ∈ p, c ∈ TL.joinL [s] ps) ∧ p.length ≤ (TL.joinL [s] ps).length
  | [q], p, m => by
    rw [List.mem_singleton.mp m]
    exact ⟨fun c h => h, Nat.le_refl _⟩
  | q :: r :: ps, p, m => by
    show (∀ c ∈ p, c ∈ q ++ ([s] ++ TL.joinL [s] (r :: ps))) ∧ p.length ≤ (q ++ ([s] ++ TL.joinL [s] (r :: ps))).length
    rcases List.mem_cons.mp m with rfl | m
    · exact ⟨fun c h => List.mem_append_left _ h, by rw [List.length_append]; omega⟩
    · obtain ⟨h1, h2⟩ := joinL_sub s (r :: ps) p m
      refine ⟨fun c h => List.mem_append_right _ (List.mem_append_right _ (h1 c h)), ?_⟩
      rw [List.length_append, List.length_append]
      omega
theorem joinL_cnt (s : Nat) : ∀ ps : List (List Nat), ps.length ≤ (TL.joinL [s] ps).length + 1
  | [] => by simp
  | [q] => by simp
  | q :: r :: ps => by
    show (q :: r :: ps).length ≤ (q ++ ([s] ++ TL.joinL [s] (r :: ps))).length + 1
    have := joinL_cnt s (r :: ps)
    rw [List.length_append, List.length_append, List.length_cons, List.length_singleton]
    omega
section
variable {y : Str} {s : Nat} (ey : TL.tl y = [s]) (hs : s < 256)
include ey hs
theorem split_sub (x : Str) : ∀ p ∈ Txt.split x y, (PyData.strOk x = true → PyData.strOk p = true) ∧ p.length ≤ x.length := by
  intro p m
  have e : TL.tl x = TL.joinL [s] ((Txt.split x y).map TL.tl) := by rw [← join_tl ey hs, (split_ok ey hs x).1]
  obtain ⟨h1, h2⟩ := joinL_sub s ((Txt.split x y).map TL.tl) (TL.tl p) (List.mem_map.mpr ⟨p, m, rfl⟩)
  rw [← e] at h1 h2
  refine ⟨fun h => ?_, h2⟩
  unfold PyData.strOk at h ⊢
  rw [← Array.all_toList, List.all_eq_true] at h ⊢
  exact fun c mc => h c (h1 c mc)
theorem split_cnt (x : Str) : (Txt.split x y).length ≤ x.length + 1 := by
  have e : TL.tl x = TL.joinL [s] ((Txt.split x y).map TL.tl) := by rw [← join_tl ey hs, (split_ok ey hs x).1]
  have := joinL_cnt s ((Txt.split x y).map TL.tl)
  rw [← e, List.length_map] at this
  exact this
end
/-! ### equality of texts -/
theorem niS {s : Str} (h : PyData.strOk s = true) : Ni 50 (.str s) := ⟨rfl, by simp [PyData.canLay0, h], by simp [PyData.depth]⟩
theorem eq_S {a b : Str} (ha : PyData.strOk a = true) (hb : PyData.strOk b = true) : eqD (.str a) (.str b) = .ok (.bool (decide (a = b))) := by
  by_cases h : a = b
  · subst h
    rw [eqN_t (niS ha), decide_eq_true rfl]
  · rw [eqN_f (niS ha) (niS hb) (fun e => h (by cases e; rfl)), decide_eq_false h]
theorem ne_S {a b : Str} (ha : PyData.strOk a = true) (hb : PyData.strOk b = true) : neD (.str a) (.str b) = .ok (.bool (!decide (a = b))) := by
  by_cases h : a = b
  · subst h
    rw [neN_t (niS ha), decide_eq_true rfl]; rfl
  · rw [neN_f (niS ha) (niS hb) (fun e => h (by cases e; rfl)), decide_eq_false h]; rfl
theorem nin_S2 {a b c : Str} (ha : PyData.strOk a = true) (hb : PyData.strOk b = true) (hc : PyData.strOk c = true) : ninD (.str a) (.tuple [.str b, .str c]) = .ok (.bool (!(decide (a = b) || decide (a = c)))) := by
  have la : laidI (.str a) [.str b, .str c] = true := by
    unfold laidI
    simp [PyData.canLay0, PyData.canLayAll0, ha, hb, hc, PyData.depth, PyData.depthAll]
  have ev : ∀ x y : Str, PyData.eqv (.str x) (.str y) = decide (y = x) := fun x y => by
    rw [Bool.eq_iff_iff, eqv_pl _ _ rfl rfl, decide_eq_true_iff]
    exact ⟨fun e => by cases e; rfl, fun e => by rw [e]⟩
  have : ninD (.str a) (.tuple [.str b, .str c]) = if laidI (.str a) [.str b, .str c] = true then .ok (.bool (!([PyData.str b, .str c].any fun z => PyData.eqv z (.str a)))) else .bad := rfl
  rw [this, if_pos la]
  simp [List.any, ev]
end Com
namespace K18
open PySem L2 DL Com
def exs : List Str := ["InvalidGraph", "InvalidWishes", "InvalidChoice", "ParseError"]
def exC : List Str := "ChoiceError" :: exs
def f_parse_digit : En → O :=
  (sRet (cIf (wAnd (wCmp (b2 (c1 lenD (datB 0)) (kR (.int 1)) eqD)) (wCmp (b2 (datB 0) (kR (.str "0123456789")) inSD))) (m1 (kR (.str "0123456789")) (datB 0) sidxD) (kR .none)))
def m_parse_digit : List PyData → R PyData := runF ["token"] f_parse_digit
theorem r_parse_digit {a0 : PyData} : m_parse_digit [a0] = endO (f_parse_digit [.dat a0]) := runF_eq
def ce_parse_line_1 : En → R PyData :=
  (cA m_parse_digit (aCons (datE 4) aNil))
def ce_parse_line_2 : En → R PyData :=
  (cA m_parse_digit (aCons (datE 4) aNil))
def f_parse_line : En → O :=
  (sSeq (sSet 2 (m1 (datB 0) (kR (.str " ")) splitD))
  (sSeq (sIf (wTru (datB 1))
  (sSeq (sFzb 3 (sSetO 3 (lcF (iS seqD (b3 (datB 2) (pSome (kR (.int 1))) pNone slA3)) (gN 4) wYes ce_parse_line_1 [4])))
  (sRet (cIf (wOr (wCmp (b2 (b2 (datB 2) (kR (.int 0)) ixD) (kR (.str "wishes")) neD)) (wOr (wNot (wTru (datB 3))) (wCmp (b2 (kR .none) (datB 3) inD)))) (kR .none) (c1 tupleD (datB 3)))))
  sNil)
  (sSeq (sIf (wOr (wCmp (b2 (c1 lenD (datB 2)) (kR (.int 3)) neD)) (wCmp (b2 (b2 (datB 2) (kR (.int 2)) ixD) (cTup (aCons (kR (.str "chosen")) (aCons (kR (.str "free")) aNil))) ninD)))
  (sRet (kR .none))
  sNil)
  (sSeq (sFzb 3 (sSetO 3 (lcF (iS seqD (b3 (datB 2) pNone (pSome (kR (.int 2))) slA3)) (gN 4) wYes ce_parse_line_2 [4])))
  (sRet (cIf (wCmp (b2 (kR .none) (datB 3) inD)) (kR .none) (cTup (aCons (b2 (datB 3) (kR (.int 0)) ixD) (aCons (b2 (datB 3) (kR (.int 1)) ixD) (aCons (b2 (datB 2) (kR (.int 2)) ixD) aNil))))))))))
def m_parse_line : List PyData → R PyData := runF ["line", "is_first", "tokens", "items", "token"] f_parse_line
theorem r_parse_line {a0 a1 : PyData} : m_parse_line [a0, a1] = endO (f_parse_line [.dat a0, .dat a1, .un, .un, .un]) := runF_eq
def b_parse_choice_1 : En → O :=
  (sWq [2, 3, 4] (sSeq (sSet 4 (cA m_parse_line (aCons (datE 3) (aCons (b2 (datB 2) (kR (.int 0)) eqD) aNil))))
  (sSeq (sIf (wCmp (b2 (datB 4) (kR .none) isNoneD))
  (sRaiseX "ParseError" "line" (datE 2))
  sNil)
  (mutO 1 (aCons (datE 4) aNil) gApp))))
def ce_parse_choice_1 : En → R PyData :=
  (b3 (datB 4) pNone (pSome (kR (.int 2))) slA3)
def ct_parse_choice_1 : En → R Bool :=
  (wCmp (b2 (b2 (datB 4) (kR (.int 2)) ixD) (kR (.str "chosen")) eqD))
def f_parse_choice : En → O :=
  (sSeq (sIf (wNot (wTru (c1 (isiD "str") (datB 0))))
  (sRaiseX "ParseError" "line" (kR .none))
  sNil)
  (sSeq (sSetO 1 (cLst aNil))
  (sSeq (sWp [2, 3, 4] (sFor (iS enumD (m1 (datB 0) (kR (.str "\n")) splitD)) (gT (gsC (gN 2) (gsC (gN 3) gsN))) b_parse_choice_1))
  (sSeq (sSet 5 (cTup (aCons (c1 lenD (b2 (datB 1) (kR (.int 0)) ixD)) (aCons (c1 tupleD (lcF (iS seqD (b3 (datB 1) (pSome (kR (.int 1))) pNone slA3)) (gN 4) wYes ce_parse_choice_1 [4])) aNil))))
  (sSeq (sIf (wOr (wNot (wTru (cA m_is_graph (aCons (datE 5) aNil)))) (wNot (wTru (cA m_are_wishes (aCons (datE 5) (aCons (b2 (datB 1) (kR (.int 0)) ixD) aNil))))))
  (sRaiseX "ParseError" "line" (kR .none))
  sNil)
  (sRet (cTup (aCons (datE 5) (aCons (b2 (datB 1) (kR (.int 0)) ixD) (aCons (c1 tupleD (lcF (iS enumD (b3 (datB 1) (pSome (kR (.int 1))) pNone slA3)) (gT (gsC (gN 2) (gsC (gN 4) gsN))) ct_parse_choice_1 (datE 2) [2, 4])) aNil))))))))))
def m_parse_choice : List PyData → R PyData := runF ["text", "rows", "number", "line", "row", "graph"] f_parse_choice
theorem r_parse_choice {a0 : PyData} : m_parse_choice [a0] = endO (f_parse_choice [.dat a0, .un, .un, .un, .un, .un]) := runF_eq
def f_law_parse : En → O :=
  (sTryF 1 "ParseError" "line" "line"
  (sRet (cA m_parse_choice (aCons (datE 0) aNil))))
def m_law_parse : List PyData → R PyData := runF ["text", "e"] f_law_parse
theorem r_law_parse {a0 : PyData} : m_law_parse [a0] = endO (f_law_parse [.dat a0, .un]) := runF_eq
def ce_format_choice_1 : En → R PyData :=
  (c1 strD (datB 8))
def b_format_choice_1 : En → O :=
  (sWq [4, 5, 6, 7] (sSeq (sSet 7 (cIf (wCmp (b2 (datB 4) (datB 2) inD)) (kR (.str "chosen")) (kR (.str "free"))))
  (mutO 3 (aCons (fsF [(c1 fmtD (datB 5)), (kR (.str " ")), (c1 fmtD (datB 6)), (kR (.str " ")), (c1 fmtD (datB 7))]) aNil) gApp)))
def f_format_choice : En → O :=
  (sSeq (sExpr (cA m_check_wishes (aCons (datE 0) (aCons (datE 1) aNil))))
  (sSeq (sExpr (cA m_check_choice (aCons (datE 0) (aCons (datE 2) aNil))))
  (sSeq (sSetO 3 (cLst (aCons (m1 (kR (.str " ")) (b2 (cLst (aCons (kR (.str "wishes")) aNil)) (lcF (iS seqD (datE 1)) (gN 8) wYes ce_format_choice_1 [8]) addE) joinD) aNil)))
  (sSeq (sWp [4, 5, 6, 7] (sFor (iS enumD (b2 (datB 0) (kR (.int 1)) ixD)) (gT (gsC (gN 4) (gsC (gT (gsC (gN 5) (gsC (gN 6) gsN))) gsN))) b_format_choice_1))
  (sRet (m1 (kR (.str "\n")) (datB 3) joinD))))))
def m_format_choice : List PyData → R PyData := runF ["graph", "wishes", "choice", "lines", "number", "one", "other", "word", "wish"] f_format_choice
theorem r_format_choice {a0 a1 a2 : PyData} : m_format_choice [a0, a1, a2] = endO (f_format_choice [.dat a0, .dat a1, .dat a2, .un, .un, .un, .un, .un, .un]) := runF_eq
def ct_law_1 : En → R Bool :=
  (wCmp (b2 (b2 (b2 (datB 1) (b2 (kR (.int 30)) (datB 6) addE) ixD) (kR (.int 2)) modD) (kR (.int 0)) eqD))
def ce_law_1 : En → R PyData :=
  (c1 strD (datB 16))
def b_law_1 : En → O :=
  (sWq [6, 7, 8] (sSeq (sAsg (b2 (b2 (datB 2) (kR (.int 1)) ixD) (datB 6) ixD) (gT (gsC (gN 7) (gsC (gN 8) gsN))))
  (mutO 5 (aCons (m1 (kR (.str " ")) (cLst (aCons (c1 strD (datB 7)) (aCons (c1 strD (datB 8)) (aCons (cIf (wCmp (b2 (datB 6) (datB 4) inD)) (kR (.str "chosen")) (kR (.str "free"))) aNil)))) joinD) aNil) gApp)))
def f_law : En → O :=
  (sSeq (sSet 1 (cA m_law_row (aCons (datE 0) (aCons (kR (.int 6)) aNil))))
  (sSeq (sSet 2 (cA m_law_graph (aCons (datE 0) (aCons (kR (.int 2)) (aCons (kR (.int 7)) (aCons (kR (.int 12)) aNil))))))
  (sSeq (sSet 3 (cA m_law_wishes (aCons (datE 0) (aCons (kR (.int 3)) (aCons (datE 2) aNil)))))
  (sSeq (sSet 4 (c1 tupleD (lcF (iA rng1 (aCons (c1 lenD (b2 (datB 2) (kR (.int 1)) ixD)) aNil)) (gN 6) ct_law_1 (datE 6) [6])))
  (sSeq (sSetO 5 (cLst (aCons (m1 (kR (.str " ")) (b2 (cLst (aCons (kR (.str "wishes")) aNil)) (lcF (iS seqD (datE 3)) (gN 16) wYes ce_law_1 [16]) addE) joinD) aNil)))
  (sSeq (sWp [6, 7, 8] (sFor (iA rng1 (aCons (c1 lenD (b2 (datB 2) (kR (.int 1)) ixD)) aNil)) (gN 6) b_law_1))
  (sSeq (sSet 9 (m1 (kR (.str "\n")) (datB 5) joinD))
  (sSeq (sIf (wOr (wCmp (b2 (cA m_format_choice (aCons (datE 2) (aCons (datE 3) (aCons (datE 4) aNil)))) (datB 9) neD)) (wCmp (b2 (cA m_law_parse (aCons (datE 9) aNil)) (cTup (aCons (datE 2) (aCons (datE 3) (aCons (datE 4) aNil)))) neD)))
  (sRet (kR (.bool false)))
  sNil)
  (sSeq (sSet 10 (b2 (b2 (b2 (datB 1) (kR (.int 0)) ixD) (kR (.int 5)) mulD) (b2 (c1 lenD (datB 9)) (kR (.int 1)) addE) modD))
  (sSeq (sSet 11 (b2 (cLst (aCons (kR (.str "0")) (aCons (kR (.str " ")) (aCons (kR (.str "1")) (aCons (kR (.str "\n")) (aCons (kR (.str "x")) (aCons (kR (.str " free")) aNil))))))) (b2 (b2 (datB 1) (kR (.int 1)) ixD) (kR (.int 6)) modD) ixD))
  (sSeq (sSet 12 (b2 (cLst (aCons (b2 (b3 (datB 9) pNone (pSome (datE 10)) slS3) (b3 (datB 9) (pSome (b2 (datB 10) (kR (.int 1)) addE)) pNone slS3) addE) (aCons (b2 (b2 (b3 (datB 9) pNone (pSome (datE 10)) slS3) (datB 11) addE) (b3 (datB 9) (pSome (datE 10)) pNone slS3) addE) (aCons (b2 (datB 9) (kR (.str "\n")) addE) (aCons (b2 (kR (.str " ")) (datB 9) addE) aNil))))) (b2 (b2 (datB 1) (kR (.int 2)) ixD) (kR (.int 4)) modD) ixD))
  (sSeq (sSet 13 (cA m_law_parse (aCons (datE 12) aNil)))
  (sSeq (sIf (wOr (wCmp (b2 (b2 (datB 13) (kR (.int 0)) ixD) (kR (.str "other")) eqD)) (wAnd (wCmp (b2 (b2 (datB 13) (kR (.int 0)) ixD) (kR (.str "line")) neD)) (wCmp (b2 (cA m_format_choice (aCons (b2 (datB 13) (kR (.int 0)) ixD) (aCons (b2 (datB 13) (kR (.int 1)) ixD) (aCons (b2 (datB 13) (kR (.int 2)) ixD) aNil)))) (datB 12) neD))))
  (sRet (kR (.bool false)))
  sNil)
  (sSeq (sSet 14 (b2 (kR (.int 1)) (b2 (b2 (datB 1) (kR (.int 3)) ixD) (c1 lenD (datB 5)) modD) addE))
  (sSeq (sSet 15 (b2 (cLst (aCons (kR (.str "")) (aCons (kR (.str "0 1")) (aCons (kR (.str "0 1 open")) (aCons (kR (.str "0  1 free")) (aCons (kR (.str "0 x free")) (aCons (kR (.str "0 1 free free")) (aCons (kR (.str "wishes 1")) (aCons (kR (.str "0 10 free")) aNil))))))))) (b2 (b2 (datB 1) (kR (.int 4)) ixD) (kR (.int 8)) modD) ixD))
  (sSeq (sIf (wCmp (b2 (cA m_law_parse (aCons (m1 (kR (.str "\n")) (b2 (b2 (b3 (datB 5) pNone (pSome (datE 14)) slA3) (cLst (aCons (datE 15) aNil)) addE) (b3 (datB 5) (pSome (datE 14)) pNone slA3) addE) joinD) aNil)) (cLst (aCons (kR (.str "line")) (aCons (datE 14) aNil))) neD))
  (sRet (kR (.bool false)))
  sNil)
  (sSeq (sSet 15 (b2 (cLst (aCons (kR (.str "wishes")) (aCons (kR (.str "wishes 10")) (aCons (kR (.str "wish 1")) (aCons (kR (.str "")) (aCons (kR (.str "wishes x")) (aCons (kR (.str "wishes  1")) aNil))))))) (b2 (b2 (datB 1) (kR (.int 5)) ixD) (kR (.int 6)) modD) ixD))
  (sSeq (sIf (wCmp (b2 (cA m_law_parse (aCons (m1 (kR (.str "\n")) (b2 (cLst (aCons (datE 15) aNil)) (b3 (datB 5) (pSome (kR (.int 1))) pNone slA3) addE) joinD) aNil)) (cLst (aCons (kR (.str "line")) (aCons (kR (.int 0)) aNil))) neD))
  (sRet (kR (.bool false)))
  sNil)
  (sSeq (sIf (wOr (wCmp (b2 (cA m_law_parse (aCons (kR (.str "wishes 1 1\n1 0 free")) aNil)) (cLst (aCons (kR (.str "line")) (aCons (kR .none) aNil))) neD)) (wCmp (b2 (cA m_law_parse (aCons (kR (.str "wishes 7 1")) aNil)) (cLst (aCons (kR (.str "line")) (aCons (kR .none) aNil))) neD)))
  (sRet (kR (.bool false)))
  sNil)
  (sFz 5 (sRet (b2 (cA m_law_parse (aCons (b2 (cLst (aCons (kR .none) (aCons (kR (.int 7)) (aCons (datE 5) (aCons (datE 2) aNil))))) (b2 (b2 (datB 1) (kR (.int 6)) ixD) (kR (.int 4)) modD) ixD) aNil)) (cLst (aCons (kR (.str "line")) (aCons (kR .none) aNil))) eqD))))))))))))))))))))))
def m_law : List PyData → R PyData := runF ["script", "draws", "graph", "wishes", "choice", "lines_here", "number", "one", "other", "text", "spot", "new", "edited", "found", "at", "wrong", "wish"] f_law
theorem r_law {a0 : PyData} : m_law [a0] = endO (f_law [.dat a0, .un, .un, .un, .un, .un, .un, .un, .un, .un, .un, .un, .un, .un, .un, .un, .un]) := runF_eq
end K18
namespace K18
open PySem L2 DL Com
def topS (i : Nat) : Stmt := PySem.Challenge.pw_degreechoices_k18_text.main.body.getD i (.Pass ⟨0, 0, 0, 0⟩)
abbrev s_ParseError : Stmt := methS (topS 2) 0
theorem sc_ParseError : FnScope ["self", "line"] ["self", "line"] (defScope s_ParseError) := ⟨rfl, rfl, rfl, by decide +kernel, rfl, by decide +kernel, by decide +kernel⟩
theorem ok_ParseError {P : Program} {w : World} {K : PySem.W.Frag} {mg : Str → Option Value} {base : Heap} {fd : FuncData} (Fn : FunD K "__init__" "ParseError.__init__" (defArgs s_ParseError) (defBody s_ParseError) (defScope s_ParseError) [] [] (He.ma K (He.ga K "ParseError") "__init__") fd) (g : mg "ParseError" = some (.ref (He.ga K "ParseError"))) (gB : mg "ChoiceError" = some (.ref (He.ga K "ChoiceError"))) (xf : Fld K "ParseError" "line" "ChoiceError") :
    CalX P w K mg base "ParseError" "line" 1 := by
  have sc := sc_ParseError
  have bd : Binds K fd ["self", "line"] [] := Fn.bindsN fun _ _ _ _ _ _ us hl => match us, hl with | [_, _], _ => rfl
  exact ⟨g, xf.o, _, fd, _, fx_of (m := "cannot parse text") Fn sc xf.o xf.n (fun cdv A outer s H E hr => pss_cons (ps_expr (pe_cinit rfl gB xf.r xf.v (pa_cons (pv 0) (pa_cons pe_str pa_nil)))) (pss_one (ps_ost (pv 0) (pv 1)))) rfl rfl, bd, xf.i, xf.t⟩
abbrev s_law_cell : Stmt := topS 25
theorem sc_law_cell : FnScope ["script", "k"] ["script", "k"] (defScope s_law_cell) := ⟨rfl, rfl, rfl, by decide +kernel, rfl, by decide +kernel, by decide +kernel⟩
theorem ok_law_cell {P : Program} {w : World} {K : PySem.W.Frag} {mg : Str → Option Value} {base : Heap} {f : Addr} {fd : FuncData} (Fn : FunD K "_law_cell" "_law_cell" (defArgs s_law_cell) (defBody s_law_cell) (defScope s_law_cell) [] [] f fd) (g : mg "_law_cell" = some (.ref f)) (n_len : mg "len" = none) :
    Cal P w K mg base "_law_cell" 1 2 m_law_cell := by
  have sc := sc_law_cell
  have bd : Binds K fd ["script", "k"] [] := Fn.bindsN fun _ _ _ _ _ _ us hl => match us, hl with | [_, _], _ => rfl
  exact ⟨f, fd, _, fv_of (fb := f_law_cell) Fn sc (fun cdv A outer s H E hr => ⟨_, by exact (zs_cons (z_if (zt_cmp (op_ltA hr.units0) o2_lt (nomark _) (vb_var 1 (pv 1)) (Vx.b (z_len rfl n_len (vb_var 0 (pv 0)))))
  (vss_one (z_ret (ve_ix (vb_var 0 (pv 0)) (vb_var 1 (pv 1)))))
  zs_nil)
  (vss_one (z_ret ve_int)))⟩) 2 rfl, g, Fn.kp, bd⟩
abbrev s_law_row : Stmt := topS 26
theorem sc_law_row : FnScope ["script", "at", "cell", "found", "time"] ["script", "at"] (defScope s_law_row) := ⟨rfl, rfl, rfl, by decide +kernel, rfl, by decide +kernel, by decide +kernel⟩
theorem ok_law_row {P : Program} {w : World} {K : PySem.W.Frag} {mg : Str → Option Value} {base : Heap} {f : Addr} {fd : FuncData} (Fn : FunD K "_law_row" "_law_row" (defArgs s_law_row) (defBody s_law_row) (defScope s_law_row) [] [] f fd) (g : mg "_law_row" = some (.ref f)) (c__law_cell : Cal P w K mg base "_law_cell" 1 2 m_law_cell) (n_range : mg "range" = none) :
    Cal P w K mg base "_law_row" 2 2 m_law_row := by
  have sc := sc_law_row
  have bd : Binds K fd ["script", "at"] [] := Fn.bindsN fun _ _ _ _ _ _ us hl => match us, hl with | [_, _], _ => rfl
  exact ⟨f, fd, _, fv_of (fb := f_law_row) Fn sc (fun cdv A outer s H E hr => ⟨_, by exact (zs_cons (z_set (i := 2) (fun _ h => ps_set (i := 2) sc.nd rfl (by first | exact Or.inl rfl | exact Or.inr rfl) h) (z_callC c__law_cell (hr.mono (by decide)) rfl (takes_def rfl rfl rfl rfl) (va_cons (ve_var 0 (pv 0)) (va_cons (ve_var 1 (pv 1)) va_nil))))
  (zs_cons (z_setO (i := 3) (fun _ h => ps_set (i := 3) sc.nd rfl (by first | exact Or.inl rfl | exact Or.inr rfl) h) (z_lst va_nil))
  (zs_cons (z_for (passes_of rfl) rfl (zi_range1 rfl n_range (va_cons ve_int va_nil)) (vg_name (pg_name (i := 4) sc.nd rfl (by first | exact Or.inl rfl | exact Or.inr rfl)))
  (vss_one (z_if (zt_cmp (op_ltA hr.units0) o2_lt (nomark _) (Vx.b (z_callC c__law_cell (hr.mono (by decide)) rfl (takes_def rfl rfl rfl rfl) (va_cons (ve_var 0 (pv 0)) (va_cons (ve_var 1 (pv 1)) va_nil)))) (Vx.b (ve_pow (Vx.b ve_int) (Vx.b ve_int))))
  (zs_cons (z_set (i := 2) (fun _ h => ps_set (i := 2) sc.nd rfl (by first | exact Or.inl rfl | exact Or.inr rfl) h) (ve_mod (Vx.b (ve_add (Vx.b (ve_add (Vx.b (ve_add (Vx.b (ve_mul (vb_var 2 (pv 2)) (Vx.b ve_int))) (Vx.b (ve_mul (Vx.b ve_int) (vb_var 4 (pv 4)))))) (Vx.b ve_int))) (Vx.b (z_callC c__law_cell (hr.mono (by decide)) rfl (takes_def rfl rfl rfl rfl) (va_cons (ve_var 0 (pv 0)) (va_cons (ve_mod (Vx.b (ve_add (Vx.b (ve_add (vb_var 1 (pv 1)) (Vx.b ve_int))) (vb_var 4 (pv 4)))) (Vx.b ve_int)) va_nil)))))) (Vx.b ve_int)))
  (vss_one (vs_mutA mut_append (fun h => ps_expr (pe_bm PySem.F.plainAttrs_list PySem.F.slot_list_append PySem.F.type_list_append mt_append (pv 3) h)) (va_cons (ve_mod (Vx.b (ve_fdiv (vb_var 2 (pv 2)) (Vx.b ve_int))) (Vx.b ve_int)) va_nil))))
  (zs_cons (vs_mutA mut_append (fun h => ps_expr (pe_bm PySem.F.plainAttrs_list PySem.F.slot_list_append PySem.F.type_list_append mt_append (pv 3) h)) (va_cons (ve_mod (vb_var 2 (pv 2)) (Vx.b ve_int)) va_nil))
  (vss_one (z_set (i := 2) (fun _ h => ps_set (i := 2) sc.nd rfl (by first | exact Or.inl rfl | exact Or.inr rfl) h) (ve_fdiv (vb_var 2 (pv 2)) (Vx.b ve_int))))))))
  (vss_one (z_fz 3 (z_ret (ve_var 3 (pv 3))))))))⟩) 2 rfl, g, Fn.kp, bd⟩
abbrev s_law_graph : Stmt := topS 27
theorem sc_law_graph : FnScope ["script", "at", "most_vertices", "most_edges", "draws", "vertices", "every", "one", "other", "keyed", "many", "place", "number", "edge"] ["script", "at", "most_vertices", "most_edges"] (defScope s_law_graph) := ⟨rfl, rfl, rfl, by decide +kernel, rfl, by decide +kernel, by decide +kernel⟩
theorem ok_law_graph {P : Program} {w : World} {K : PySem.W.Frag} {mg : Str → Option Value} {base : Heap} {f : Addr} {fd : FuncData} (Fn : FunD K "_law_graph" "_law_graph" (defArgs s_law_graph) (defBody s_law_graph) (defScope s_law_graph) [] [] f fd) (g : mg "_law_graph" = some (.ref f)) (c__law_row : Cal P w K mg base "_law_row" 2 2 m_law_row) (n_range : mg "range" = none) (n_len : mg "len" = none) (n_min : mg "min" = none) (n_tuple : mg "tuple" = none) (n_sorted : mg "sorted" = none) :
    Cal P w K mg base "_law_graph" 3 4 m_law_graph := by
  have sc := sc_law_graph
  have bd : Binds K fd ["script", "at", "most_vertices", "most_edges"] [] := Fn.bindsN fun _ _ _ _ _ _ us hl => match us, hl with | [_, _, _, _], _ => rfl
  exact ⟨f, fd, _, fv_of (fb := f_law_graph) Fn sc (fun cdv A outer s H E hr => ⟨_, by exact (zs_cons (z_set (i := 4) (fun _ h => ps_set (i := 4) sc.nd rfl (by first | exact Or.inl rfl | exact Or.inr rfl) h) (z_callC c__law_row (hr.mono (by decide)) rfl (takes_def rfl rfl rfl rfl) (va_cons (ve_var 0 (pv 0)) (va_cons (ve_var 1 (pv 1)) va_nil))))
  (zs_cons (z_set (i := 5) (fun _ h => ps_set (i := 5) sc.nd rfl (by first | exact Or.inl rfl | exact Or.inr rfl) h) (ve_add (Vx.b ve_int) (Vx.b (ve_mod (Vx.b (ve_ix (vb_var 4 (pv 4)) (Vx.b ve_int))) (vb_var 2 (pv 2))))))
  (zs_cons (z_setO (i := 6) (fun _ h => ps_set (i := 6) sc.nd rfl (by first | exact Or.inl rfl | exact Or.inr rfl) h) (z_lst va_nil))
  (zs_cons (z_for (passes_of rfl) rfl (zi_range1 rfl n_range (va_cons (ve_var 5 (pv 5)) va_nil)) (vg_name (pg_name (i := 7) sc.nd rfl (by first | exact Or.inl rfl | exact Or.inr rfl)))
  (vss_one (z_for (passes_of rfl) rfl (zi_range2 rfl n_range (va_cons (ve_add (vb_var 7 (pv 7)) (Vx.b ve_int)) (va_cons (ve_var 5 (pv 5)) va_nil))) (vg_name (pg_name (i := 8) sc.nd rfl (by first | exact Or.inl rfl | exact Or.inr rfl)))
  (vss_one (vs_mutA mut_append (fun h => ps_expr (pe_bm PySem.F.plainAttrs_list PySem.F.slot_list_append PySem.F.type_list_append mt_append (pv 6) h)) (va_cons (z_tup (va_cons (ve_var 7 (pv 7)) (va_cons (ve_var 8 (pv 8)) va_nil))) va_nil))))))
  (zs_cons (vs_fzb 9 (y_setLc (own := [("place", 11)]) rfl sc.nd rfl rfl (sw_true rfl rfl rfl (by decide +kernel)) (zi_range1 rfl n_range (va_cons (z_len rfl n_len (vb_var 6 (pv 6))) va_nil)) (blkOk_by (N := ["script", "at", "most_vertices", "most_edges", "draws", "vertices", "every", "one", "other", "keyed", "many", "place", "number", "edge"]) (sc := (defScope s_law_graph)) (by decide +kernel)) rfl (fun _ _ _ _ _ => ⟨_, (vg_name (pg_name (i := 11) sc.nd rfl (by first | exact Or.inl rfl | exact Or.inr rfl)))⟩) (fun _ _ _ _ _ => ⟨_, zts_nil⟩) (fun _ _ _ _ _ => ⟨_, (z_tup (va_cons (ve_mod (Vx.b (ve_ix (vb_var 4 (pv 4)) (Vx.b (ve_add (Vx.b ve_int) (vb_var 11 (pv 11)))))) (Vx.b ve_int)) (va_cons (ve_ix (vb_var 6 (pv 6)) (vb_var 11 (pv 11))) va_nil)))⟩)))
  (zs_cons (z_set (i := 10) (fun _ h => ps_set (i := 10) sc.nd rfl (by first | exact Or.inl rfl | exact Or.inr rfl) h) (ve_mod (Vx.b (ve_ix (vb_var 4 (pv 4)) (Vx.b ve_int))) (Vx.b (ve_add (Vx.b (ve_min2 rfl rfl n_min (vb_var 3 (pv 3)) (Vx.b (z_len rfl n_len (vb_var 6 (pv 6)))))) (Vx.b ve_int)))))
  (zs_cons (z_set (i := 10) (fun _ h => ps_set (i := 10) sc.nd rfl (by first | exact Or.inl rfl | exact Or.inr rfl) h) (z_ifE mE (VW.t (zw_and (zt_cmp (op_eqE hr.units) o2_eq (nomark _) (Vx.b (ve_mod (Vx.b (ve_ix (vb_var 4 (pv 4)) (Vx.b ve_int))) (Vx.b ve_int))) (Vx.b ve_int)) (vw_and1 (zt_cmp (op_leA hr.units0) o2_le (nomark _) (Vx.b (z_len rfl n_len (vb_var 6 (pv 6)))) (vb_var 3 (pv 3)))))) (z_len rfl n_len (vb_var 6 (pv 6))) (ve_var 10 (pv 10))))
  (vss_one (z_ret (z_tup (va_cons (ve_var 5 (pv 5)) (va_cons (z_tuple rfl n_tuple (Vx.ob (z_sorted hr.units rfl n_sorted (Vx.ob (y_lc (own := [("number", 12), ("edge", 13)]) rfl sc.nd (zi_seq (ve_sl (Vx.ob (z_sorted hr.units rfl n_sorted (vb_var 9 (pv 9)))) zp_none (zp_some (ve_var 10 (pv 10))))) (blkOk_by (N := ["script", "at", "most_vertices", "most_edges", "draws", "vertices", "every", "one", "other", "keyed", "many", "place", "number", "edge"]) (sc := (defScope s_law_graph)) (by decide +kernel)) rfl (fun _ _ _ _ _ => ⟨_, (vg_tup2 rfl (vgs_cons (vg_name (pg_name (i := 12) sc.nd rfl (by first | exact Or.inl rfl | exact Or.inr rfl))) (vgs_cons (vg_name (pg_name (i := 13) sc.nd rfl (by first | exact Or.inl rfl | exact Or.inr rfl))) vgs_nil)))⟩) (fun _ _ _ _ _ => ⟨_, zts_nil⟩) (fun _ _ _ _ _ => ⟨_, (ve_var 13 (pv 13))⟩)))))) va_nil))))))))))))⟩) 4 rfl, g, Fn.kp, bd⟩
abbrev s_law_degrees : Stmt := topS 28
theorem sc_law_degrees : FnScope ["graph", "choice", "found", "number", "one", "other"] ["graph", "choice"] (defScope s_law_degrees) := ⟨rfl, rfl, rfl, by decide +kernel, rfl, by decide +kernel, by decide +kernel⟩
theorem ok_law_degrees {P : Program} {w : World} {K : PySem.W.Frag} {mg : Str → Option Value} {base : Heap} {f : Addr} {fd : FuncData} (Fn : FunD K "_law_degrees" "_law_degrees" (defArgs s_law_degrees) (defBody s_law_degrees) (defScope s_law_degrees) [] [] f fd) (g : mg "_law_degrees" = some (.ref f)) (n_tuple : mg "tuple" = none) :
    Cal P w K mg base "_law_degrees" 1 2 m_law_degrees := by
  have sc := sc_law_degrees
  have bd : Binds K fd ["graph", "choice"] [] := Fn.bindsN fun _ _ _ _ _ _ us hl => match us, hl with | [_, _], _ => rfl
  exact ⟨f, fd, _, fv_of (fb := f_law_degrees) Fn sc (fun cdv A outer s H E hr => ⟨_, by exact (zs_cons (z_setO (i := 2) (fun _ h => ps_set (i := 2) sc.nd rfl (by first | exact Or.inl rfl | exact Or.inr rfl) h) (vo_rep (z_lst (va_cons ve_int va_nil)) (ve_ix (vb_var 0 (pv 0)) (Vx.b ve_int))))
  (zs_cons (z_for (passes_of rfl) rfl (zi_seq (ve_var 1 (pv 1))) (vg_name (pg_name (i := 3) sc.nd rfl (by first | exact Or.inl rfl | exact Or.inr rfl)))
  (zs_cons (z_asg (ve_ix (Vx.b (ve_ix (vb_var 0 (pv 0)) (Vx.b ve_int))) (vb_var 3 (pv 3))) (vg_tup2 rfl (vgs_cons (vg_name (pg_name (i := 4) sc.nd rfl (by first | exact Or.inl rfl | exact Or.inr rfl))) (vgs_cons (vg_name (pg_name (i := 5) sc.nd rfl (by first | exact Or.inl rfl | exact Or.inr rfl))) vgs_nil))))
  (zs_cons (z_setItem (i := 2) (fun _ _ h1 h2 => ps_asg h1 (pg_sub (pv 2) h2 set_list)) (ve_add (Vx.b (ve_ix (vb_var 2 (pv 2)) (vb_var 4 (pv 4)))) (Vx.b ve_int)) (ve_var 4 (pv 4)))
  (vss_one (z_setItem (i := 2) (fun _ _ h1 h2 => ps_asg h1 (pg_sub (pv 2) h2 set_list)) (ve_add (Vx.b (ve_ix (vb_var 2 (pv 2)) (vb_var 5 (pv 5)))) (Vx.b ve_int)) (ve_var 5 (pv 5)))))))
  (vss_one (z_ret (z_tuple rfl n_tuple (vb_var 2 (pv 2)))))))⟩) 2 rfl, g, Fn.kp, bd⟩
abbrev s_law_wishes : Stmt := topS 29
theorem sc_law_wishes : FnScope ["script", "at", "graph", "draws", "choice", "found", "number"] ["script", "at", "graph"] (defScope s_law_wishes) := ⟨rfl, rfl, rfl, by decide +kernel, rfl, by decide +kernel, by decide +kernel⟩
theorem ok_law_wishes {P : Program} {w : World} {K : PySem.W.Frag} {mg : Str → Option Value} {base : Heap} {f : Addr} {fd : FuncData} (Fn : FunD K "_law_wishes" "_law_wishes" (defArgs s_law_wishes) (defBody s_law_wishes) (defScope s_law_wishes) [] [] f fd) (g : mg "_law_wishes" = some (.ref f)) (c__law_row : Cal P w K mg base "_law_row" 2 2 m_law_row) (c__law_degrees : Cal P w K mg base "_law_degrees" 1 2 m_law_degrees) (n_range : mg "range" = none) (n_len : mg "len" = none) (n_list : mg "list" = none) (n_tuple : mg "tuple" = none) :
    Cal P w K mg base "_law_wishes" 3 3 m_law_wishes := by
  have sc := sc_law_wishes
  have bd : Binds K fd ["script", "at", "graph"] [] := Fn.bindsN fun _ _ _ _ _ _ us hl => match us, hl with | [_, _, _], _ => rfl
  exact ⟨f, fd, _, fv_of (fb := f_law_wishes) Fn sc (fun cdv A outer s H E hr => ⟨_, by exact (zs_cons (z_set (i := 3) (fun _ h => ps_set (i := 3) sc.nd rfl (by first | exact Or.inl rfl | exact Or.inr rfl) h) (z_callC c__law_row (hr.mono (by decide)) rfl (takes_def rfl rfl rfl rfl) (va_cons (ve_var 0 (pv 0)) (va_cons (ve_var 1 (pv 1)) va_nil))))
  (zs_cons (vs_fzb 4 (y_setLc (own := [("number", 6)]) rfl sc.nd rfl rfl (sw_true rfl rfl rfl (by decide +kernel)) (zi_range1 rfl n_range (va_cons (z_len rfl n_len (Vx.b (ve_ix (vb_var 2 (pv 2)) (Vx.b ve_int)))) va_nil)) (blkOk_by (N := ["script", "at", "graph", "draws", "choice", "found", "number"]) (sc := (defScope s_law_wishes)) (by decide +kernel)) rfl (fun _ _ _ _ _ => ⟨_, (vg_name (pg_name (i := 6) sc.nd rfl (by first | exact Or.inl rfl | exact Or.inr rfl)))⟩) (fun _ _ _ _ _ => ⟨_, (vts_one (zt_cmp (op_eqE hr.units) o2_eq (nomark _) (Vx.b (ve_mod (Vx.b (ve_ix (vb_var 3 (pv 3)) (vb_var 6 (pv 6)))) (Vx.b ve_int))) (Vx.b ve_int)))⟩) (fun _ _ _ _ _ => ⟨_, (ve_var 6 (pv 6))⟩)))
  (zs_cons (z_setO (i := 5) (fun _ h => ps_set (i := 5) sc.nd rfl (by first | exact Or.inl rfl | exact Or.inr rfl) h) (z_list rfl n_list (Vx.b (z_callC c__law_degrees (hr.mono (by decide)) rfl (takes_def rfl rfl rfl rfl) (va_cons (ve_var 2 (pv 2)) (va_cons (ve_var 4 (pv 4)) va_nil))))))
  (zs_cons (z_if (zt_cmp (op_eqE hr.units) o2_eq (nomark _) (Vx.b (ve_mod (Vx.b (ve_ix (vb_var 3 (pv 3)) (Vx.b ve_int))) (Vx.b ve_int))) (Vx.b ve_int))
  (vss_one (z_setItem (i := 5) (fun _ _ h1 h2 => ps_asg h1 (pg_sub (pv 5) h2 set_list)) (ve_mod (Vx.b (ve_ix (vb_var 3 (pv 3)) (Vx.b ve_int))) (Vx.b ve_int)) (ve_mod (Vx.b (ve_ix (vb_var 3 (pv 3)) (Vx.b ve_int))) (Vx.b (ve_ix (vb_var 2 (pv 2)) (Vx.b ve_int))))))
  zs_nil)
  (zs_cons (z_if (zt_cmp (op_eqE hr.units) o2_eq (nomark _) (Vx.b (ve_mod (Vx.b (ve_ix (vb_var 3 (pv 3)) (Vx.b ve_int))) (Vx.b ve_int))) (Vx.b ve_int))
  (vss_one (z_setO (i := 5) (fun _ h => ps_set (i := 5) sc.nd rfl (by first | exact Or.inl rfl | exact Or.inr rfl) h) (vo_rep (z_lst (va_cons (ve_mod (Vx.b (ve_ix (vb_var 3 (pv 3)) (Vx.b ve_int))) (Vx.b ve_int)) va_nil)) (ve_ix (vb_var 2 (pv 2)) (Vx.b ve_int)))))
  zs_nil)
  (vss_one (z_ret (z_tuple rfl n_tuple (vb_var 5 (pv 5))))))))))⟩) 3 rfl, g, Fn.kp, bd⟩
abbrev s_parse_digit : Stmt := topS 21
theorem sc_parse_digit : FnScope ["token"] ["token"] (defScope s_parse_digit) := ⟨rfl, rfl, rfl, by decide +kernel, rfl, by decide +kernel, by decide +kernel⟩
theorem ok_parse_digit {P : Program} {w : World} {K : PySem.W.Frag} {mg : Str → Option Value} {base : Heap} {f : Addr} {fd : FuncData} (Fn : FunD K "parse_digit" "parse_digit" (defArgs s_parse_digit) (defBody s_parse_digit) (defScope s_parse_digit) [] [] f fd) (g : mg "parse_digit" = some (.ref f)) (n_len : mg "len" = none) {t_DIGITS : Tok} (k_DIGITS : mg "DIGITS" = some (.str "0123456789" t_DIGITS)) :
    Cal P w K mg base "parse_digit" 1 1 m_parse_digit := by
  have sc := sc_parse_digit
  have bd : Binds K fd ["token"] [] := Fn.bindsN fun _ _ _ _ _ _ us hl => match us, hl with | [_], _ => rfl
  exact ⟨f, fd, _, fv_of (fb := f_parse_digit) Fn sc (fun cdv A outer s H E hr => ⟨_, by exact (vss_one (z_ret (z_ifE mE (VW.t (zw_and (zt_cmp (op_eqE hr.units) o2_eq (nomark _) (Vx.b (z_len rfl n_len (vb_var 0 (pv 0)))) (Vx.b ve_int)) (vw_and1 (zt_cmp op_in_sign o2_inS (by rfl) (vb_var 0 (pv 0)) (Vx.b (ve_globS rfl k_DIGITS)))))) (z_sidx (Vx.b (ve_globS rfl k_DIGITS)) (vb_var 0 (pv 0))) ve_non)))⟩) 1 rfl, g, Fn.kp, bd⟩
abbrev s_parse_line : Stmt := topS 22
theorem sc_parse_line : FnScope ["line", "is_first", "tokens", "items", "token"] ["line", "is_first"] (defScope s_parse_line) := ⟨rfl, rfl, rfl, by decide +kernel, rfl, by decide +kernel, by decide +kernel⟩
theorem ok_parse_line {P : Program} {w : World} {K : PySem.W.Frag} {mg : Str → Option Value} {base : Heap} {f : Addr} {fd : FuncData} (Fn : FunD K "parse_line" "parse_line" (defArgs s_parse_line) (defBody s_parse_line) (defScope s_parse_line) [] [] f fd) (g : mg "parse_line" = some (.ref f)) (c_parse_digit : Cal P w K mg base "parse_digit" 1 1 m_parse_digit) (n_tuple : mg "tuple" = none) (n_len : mg "len" = none) :
    Cal P w K mg base "parse_line" 2 2 m_parse_line := by
  have sc := sc_parse_line
  have bd : Binds K fd ["line", "is_first"] [] := Fn.bindsN fun _ _ _ _ _ _ us hl => match us, hl with | [_, _], _ => rfl
  exact ⟨f, fd, _, fv_of (fb := f_parse_line) Fn sc (fun cdv A outer s H E hr => ⟨_, by exact (zs_cons (z_set (i := 2) (fun _ h => ps_set (i := 2) sc.nd rfl (by first | exact Or.inl rfl | exact Or.inr rfl) h) (Vx.fz (z_split (vb_var 0 (pv 0)) (Vx.b ve_str))))
  (zs_cons (z_if (zt_truth (vb_var 1 (pv 1)))
  (zs_cons (vs_fzb 3 (y_setLc (own := [("token", 4)]) rfl sc.nd rfl rfl (sw_true rfl rfl rfl (by decide +kernel)) (zi_seq (ve_sl (vb_var 2 (pv 2)) (zp_some ve_int) zp_none)) (blkOk_by (N := ["line", "is_first", "tokens", "items", "token"]) (sc := (defScope s_parse_line)) (by decide +kernel)) rfl (fun _ _ _ _ _ => ⟨_, (vg_name (pg_name (i := 4) sc.nd rfl (by first | exact Or.inl rfl | exact Or.inr rfl)))⟩) (fun _ _ _ _ _ => ⟨_, zts_nil⟩) (fun _ _ _ _ _ => ⟨_, (z_callC c_parse_digit (hr.mono (by decide)) rfl takesB (va_cons (ve_var 4 (pv 4)) va_nil))⟩)))
  (vss_one (z_ret (z_ifE mE (VW.t (zw_or (zt_cmp (op_neE hr.units) o2_ne (nomark _) (Vx.b (ve_ix (vb_var 2 (pv 2)) (Vx.b ve_int))) (Vx.b ve_str)) (zw_or (zt_not (zt_truth (vb_var 3 (pv 3)))) (vw_or1 (zt_cmp (op_inE hr.units) o2_in (by rfl) (Vx.b ve_non) (vb_var 3 (pv 3))))))) ve_non (z_tuple rfl n_tuple (vb_var 3 (pv 3)))))))
  zs_nil)
  (zs_cons (z_if (VW.t (zw_or (zt_cmp (op_neE hr.units) o2_ne (nomark _) (Vx.b (z_len rfl n_len (vb_var 2 (pv 2)))) (Vx.b ve_int)) (vw_or1 (zt_cmp (op_ninE hr.units) o2_nin (by rfl) (Vx.b (ve_ix (vb_var 2 (pv 2)) (Vx.b ve_int))) (Vx.b (z_tup (va_cons ve_str (va_cons ve_str va_nil))))))))
  (vss_one (z_ret ve_non))
  zs_nil)
  (zs_cons (vs_fzb 3 (y_setLc (own := [("token", 4)]) rfl sc.nd rfl rfl (sw_true rfl rfl rfl (by decide +kernel)) (zi_seq (ve_sl (vb_var 2 (pv 2)) zp_none (zp_some ve_int))) (blkOk_by (N := ["line", "is_first", "tokens", "items", "token"]) (sc := (defScope s_parse_line)) (by decide +kernel)) rfl (fun _ _ _ _ _ => ⟨_, (vg_name (pg_name (i := 4) sc.nd rfl (by first | exact Or.inl rfl | exact Or.inr rfl)))⟩) (fun _ _ _ _ _ => ⟨_, zts_nil⟩) (fun _ _ _ _ _ => ⟨_, (z_callC c_parse_digit (hr.mono (by decide)) rfl takesB (va_cons (ve_var 4 (pv 4)) va_nil))⟩)))
  (vss_one (z_ret (z_ifE mE (zt_cmp (op_inE hr.units) o2_in (by rfl) (Vx.b ve_non) (vb_var 3 (pv 3))) ve_non (z_tup (va_cons (ve_ix (vb_var 3 (pv 3)) (Vx.b ve_int)) (va_cons (ve_ix (vb_var 3 (pv 3)) (Vx.b ve_int)) (va_cons (ve_ix (vb_var 2 (pv 2)) (Vx.b ve_int)) va_nil)))))))))))⟩) 2 rfl, g, Fn.kp, bd⟩
abbrev s_in_range : Stmt := topS 10
theorem sc_in_range : FnScope ["value", "low", "high"] ["value", "low", "high"] (defScope s_in_range) := ⟨rfl, rfl, rfl, by decide +kernel, rfl, by decide +kernel, by decide +kernel⟩
theorem ok_in_range {P : Program} {w : World} {K : PySem.W.Frag} {mg : Str → Option Value} {base : Heap} {f : Addr} {fd : FuncData} (Fn : FunD K "in_range" "in_range" (defArgs s_in_range) (defBody s_in_range) (defScope s_in_range) [] [] f fd) (g : mg "in_range" = some (.ref f)) (n_isinstance : mg "isinstance" = none) (n_int : mg "int" = none) (n_bool : mg "bool" = none) :
    Cal P w K mg base "in_range" 1 3 m_in_range := by
  have sc := sc_in_range
  have bd : Binds K fd ["value", "low", "high"] [] := Fn.bindsN fun _ _ _ _ _ _ us hl => match us, hl with | [_, _, _], _ => rfl
  exact ⟨f, fd, _, fv_of (fb := f_in_range) Fn sc (fun cdv A outer s H E hr => ⟨_, by exact (vss_one (z_ret (z_and (z_isi "int" rfl n_isinstance rfl n_int (by decide +kernel) (vb_var 0 (pv 0))) (z_and (z_not (Vx.b (z_isi "bool" rfl n_isinstance rfl n_bool (by decide +kernel) (vb_var 0 (pv 0))))) (vx_one (ve_chain (op_leA hr.units0) (op_leA hr.units0) o2_le o2_le (vb_var 1 (pv 1)) (vb_var 0 (pv 0)) (vb_var 2 (pv 2))))))))⟩) 3 rfl, g, Fn.kp, bd⟩
abbrev s_is_edge : Stmt := topS 11
theorem sc_is_edge : FnScope ["vertices", "value"] ["vertices", "value"] (defScope s_is_edge) := ⟨rfl, rfl, rfl, by decide +kernel, rfl, by decide +kernel, by decide +kernel⟩
theorem ok_is_edge {P : Program} {w : World} {K : PySem.W.Frag} {mg : Str → Option Value} {base : Heap} {f : Addr} {fd : FuncData} (Fn : FunD K "is_edge" "is_edge" (defArgs s_is_edge) (defBody s_is_edge) (defScope s_is_edge) [] [] f fd) (g : mg "is_edge" = some (.ref f)) (c_in_range : Cal P w K mg base "in_range" 1 3 m_in_range) (n_isinstance : mg "isinstance" = none) (n_tuple : mg "tuple" = none) (n_len : mg "len" = none) :
    Cal P w K mg base "is_edge" 2 2 m_is_edge := by
  have sc := sc_is_edge
  have bd : Binds K fd ["vertices", "value"] [] := Fn.bindsN fun _ _ _ _ _ _ us hl => match us, hl with | [_, _], _ => rfl
  exact ⟨f, fd, _, fv_of (fb := f_is_edge) Fn sc (fun cdv A outer s H E hr => ⟨_, by exact (zs_cons (z_if (VW.t (zw_or (zt_not (zt_truth (Vx.b (z_isi "tuple" rfl n_isinstance rfl n_tuple (by decide +kernel) (vb_var 1 (pv 1)))))) (zw_or (zt_cmp (op_neE hr.units) o2_ne (nomark _) (Vx.b (z_len rfl n_len (vb_var 1 (pv 1)))) (Vx.b ve_int)) (vw_or1 (zt_not (zt_truth (Vx.b (z_callC c_in_range (hr.mono (by decide)) rfl (takes_def rfl rfl rfl rfl) (va_cons (ve_ix (vb_var 1 (pv 1)) (Vx.b ve_int)) (va_cons ve_int (va_cons (ve_sub (vb_var 0 (pv 0)) (Vx.b ve_int)) va_nil)))))))))))
  (vss_one (z_ret ve_bl))
  zs_nil)
  (vss_one (z_ret (z_callC c_in_range (hr.mono (by decide)) rfl (takes_def rfl rfl rfl rfl) (va_cons (ve_ix (vb_var 1 (pv 1)) (Vx.b ve_int)) (va_cons (ve_add (Vx.b (ve_ix (vb_var 1 (pv 1)) (Vx.b ve_int))) (Vx.b ve_int)) (va_cons (ve_sub (vb_var 0 (pv 0)) (Vx.b ve_int)) va_nil)))))))⟩) 2 rfl, g, Fn.kp, bd⟩
abbrev s_is_graph : Stmt := topS 12
theorem sc_is_graph : FnScope ["value", "edge", "following"] ["value"] (defScope s_is_graph) := ⟨rfl, rfl, rfl, by decide +kernel, rfl, by decide +kernel, by decide +kernel⟩
theorem ok_is_graph {P : Program} {w : World} {K : PySem.W.Frag} {mg : Str → Option Value} {base : Heap} {f : Addr} {fd : FuncData} (Fn : FunD K "is_graph" "is_graph" (defArgs s_is_graph) (defBody s_is_graph) (defScope s_is_graph) [] [] f fd) (g : mg "is_graph" = some (.ref f)) (c_in_range : Cal P w K mg base "in_range" 1 3 m_in_range) (c_is_edge : Cal P w K mg base "is_edge" 2 2 m_is_edge) (n_isinstance : mg "isinstance" = none) (n_tuple : mg "tuple" = none) (n_len : mg "len" = none) (n_zip : mg "zip" = none) {t_MAX_VERTICES : Tok} (k_MAX_VERTICES : mg "MAX_VERTICES" = some (.int 7 t_MAX_VERTICES)) {t_MAX_EDGES : Tok} (k_MAX_EDGES : mg "MAX_EDGES" = some (.int 12 t_MAX_EDGES)) :
    Cal P w K mg base "is_graph" 3 1 m_is_graph := by
  have sc := sc_is_graph
  have bd : Binds K fd ["value"] [] := Fn.bindsN fun _ _ _ _ _ _ us hl => match us, hl with | [_], _ => rfl
  exact ⟨f, fd, _, fv_of (fb := f_is_graph) Fn sc (fun cdv A outer s H E hr => ⟨_, by exact (zs_cons (z_if (VW.t (zw_or (zt_not (zt_truth (Vx.b (z_isi "tuple" rfl n_isinstance rfl n_tuple (by decide +kernel) (vb_var 0 (pv 0)))))) (zw_or (zt_cmp (op_neE hr.units) o2_ne (nomark _) (Vx.b (z_len rfl n_len (vb_var 0 (pv 0)))) (Vx.b ve_int)) (vw_or1 (zt_not (zt_truth (Vx.b (z_callC c_in_range (hr.mono (by decide)) rfl (takes_def rfl rfl rfl rfl) (va_cons (ve_ix (vb_var 0 (pv 0)) (Vx.b ve_int)) (va_cons ve_int (va_cons (ve_globI rfl k_MAX_VERTICES) va_nil)))))))))))
  (vss_one (z_ret ve_bl))
  zs_nil)
  (zs_cons (z_if (VW.t (zw_or (zt_not (zt_truth (Vx.b (z_isi "tuple" rfl n_isinstance rfl n_tuple (by decide +kernel) (Vx.b (ve_ix (vb_var 0 (pv 0)) (Vx.b ve_int))))))) (vw_or1 (zt_cmp op_gt o2_gt (nomark _) (Vx.b (z_len rfl n_len (Vx.b (ve_ix (vb_var 0 (pv 0)) (Vx.b ve_int))))) (Vx.b (ve_globI rfl k_MAX_EDGES))))))
  (vss_one (z_ret ve_bl))
  zs_nil)
  (zs_cons (z_if (zt_truth (Vx.ob (y_lc (own := [("edge", 1)]) rfl sc.nd (zi_seq (ve_ix (vb_var 0 (pv 0)) (Vx.b ve_int))) (blkOk_by (N := ["value", "edge", "following"]) (sc := (defScope s_is_graph)) (by decide +kernel)) rfl (fun _ _ _ _ _ => ⟨_, (vg_name (pg_name (i := 1) sc.nd rfl (by first | exact Or.inl rfl | exact Or.inr rfl)))⟩) (fun _ _ _ _ _ => ⟨_, (vts_one (zt_not (zt_truth (Vx.b (z_callC c_is_edge (hr.mono (by decide)) rfl takesB (va_cons (ve_ix (vb_var 0 (pv 0)) (Vx.b ve_int)) (va_cons (ve_var 1 (pv 1)) va_nil)))))))⟩) (fun _ _ _ _ _ => ⟨_, (ve_var 1 (pv 1))⟩))))
  (vss_one (z_ret ve_bl))
  zs_nil)
  (vss_one (z_ret (z_not (Vx.ob (y_lc (own := [("edge", 1), ("following", 2)]) rfl sc.nd (zi_zip rfl n_zip (va_cons (ve_ix (vb_var 0 (pv 0)) (Vx.b ve_int)) (va_cons (ve_sl (Vx.b (ve_ix (vb_var 0 (pv 0)) (Vx.b ve_int))) (zp_some ve_int) zp_none) va_nil))) (blkOk_by (N := ["value", "edge", "following"]) (sc := (defScope s_is_graph)) (by decide +kernel)) rfl (fun _ _ _ _ _ => ⟨_, (vg_tup2 rfl (vgs_cons (vg_name (pg_name (i := 1) sc.nd rfl (by first | exact Or.inl rfl | exact Or.inr rfl))) (vgs_cons (vg_name (pg_name (i := 2) sc.nd rfl (by first | exact Or.inl rfl | exact Or.inr rfl))) vgs_nil)))⟩) (fun _ _ _ _ _ => ⟨_, (vts_one (zt_cmp (op_geA hr.units0) o2_ge (nomark _) (vb_var 1 (pv 1)) (vb_var 2 (pv 2))))⟩) (fun _ _ _ _ _ => ⟨_, ve_int⟩)))))))))⟩) 1 rfl, g, Fn.kp, bd⟩
abbrev s_are_wishes : Stmt := topS 14
theorem sc_are_wishes : FnScope ["graph", "value", "wish"] ["graph", "value"] (defScope s_are_wishes) := ⟨rfl, rfl, rfl, by decide +kernel, rfl, by decide +kernel, by decide +kernel⟩
theorem ok_are_wishes {P : Program} {w : World} {K : PySem.W.Frag} {mg : Str → Option Value} {base : Heap} {f : Addr} {fd : FuncData} (Fn : FunD K "are_wishes" "are_wishes" (defArgs s_are_wishes) (defBody s_are_wishes) (defScope s_are_wishes) [] [] f fd) (g : mg "are_wishes" = some (.ref f)) (c_in_range : Cal P w K mg base "in_range" 1 3 m_in_range) (n_isinstance : mg "isinstance" = none) (n_tuple : mg "tuple" = none) (n_len : mg "len" = none) {t_MAX_WISH : Tok} (k_MAX_WISH : mg "MAX_WISH" = some (.int 6 t_MAX_WISH)) :
    Cal P w K mg base "are_wishes" 2 2 m_are_wishes := by
  have sc := sc_are_wishes
  have bd : Binds K fd ["graph", "value"] [] := Fn.bindsN fun _ _ _ _ _ _ us hl => match us, hl with | [_, _], _ => rfl
  exact ⟨f, fd, _, fv_of (fb := f_are_wishes) Fn sc (fun cdv A outer s H E hr => ⟨_, by exact (zs_cons (z_if (VW.t (zw_or (zt_not (zt_truth (Vx.b (z_isi "tuple" rfl n_isinstance rfl n_tuple (by decide +kernel) (vb_var 1 (pv 1)))))) (vw_or1 (zt_cmp (op_neE hr.units) o2_ne (nomark _) (Vx.b (z_len rfl n_len (vb_var 1 (pv 1)))) (Vx.b (ve_ix (vb_var 0 (pv 0)) (Vx.b ve_int)))))))
  (vss_one (z_ret ve_bl))
  zs_nil)
  (vss_one (z_ret (z_not (Vx.ob (y_lc (own := [("wish", 2)]) rfl sc.nd (zi_seq (ve_var 1 (pv 1))) (blkOk_by (N := ["graph", "value", "wish"]) (sc := (defScope s_are_wishes)) (by decide +kernel)) rfl (fun _ _ _ _ _ => ⟨_, (vg_name (pg_name (i := 2) sc.nd rfl (by first | exact Or.inl rfl | exact Or.inr rfl)))⟩) (fun _ _ _ _ _ => ⟨_, (vts_one (zt_not (zt_truth (Vx.b (z_callC c_in_range (hr.mono (by decide)) rfl takesB (va_cons (ve_var 2 (pv 2)) (va_cons ve_int (va_cons (ve_globI rfl k_MAX_WISH) va_nil))))))))⟩) (fun _ _ _ _ _ => ⟨_, (ve_var 2 (pv 2))⟩)))))))⟩) 2 rfl, g, Fn.kp, bd⟩
abbrev s_parse_choice : Stmt := topS 23
theorem sc_parse_choice : FnScope ["text", "rows", "number", "line", "row", "graph"] ["text"] (defScope s_parse_choice) := ⟨rfl, rfl, rfl, by decide +kernel, rfl, by decide +kernel, by decide +kernel⟩
theorem ok_parse_choice {P : Program} {w : World} {K : PySem.W.Frag} {mg : Str → Option Value} {base : Heap} {f : Addr} {fd : FuncData} (Fn : FunD K "parse_choice" "parse_choice" (defArgs s_parse_choice) (defBody s_parse_choice) (defScope s_parse_choice) [] [] f fd) (g : mg "parse_choice" = some (.ref f)) (c_ParseError : CalX P w K mg base "ParseError" "line" 1) (c_parse_line : Cal P w K mg base "parse_line" 2 2 m_parse_line) (c_is_graph : Cal P w K mg base "is_graph" 3 1 m_is_graph) (c_are_wishes : Cal P w K mg base "are_wishes" 2 2 m_are_wishes) (n_isinstance : mg "isinstance" = none) (n_str : mg "str" = none) (n_enumerate : mg "enumerate" = none) (n_len : mg "len" = none) (n_tuple : mg "tuple" = none) :
    Cal P w K mg base "parse_choice" 4 1 m_parse_choice := by
  have sc := sc_parse_choice
  have bd : Binds K fd ["text"] [] := Fn.bindsN fun _ _ _ _ _ _ us hl => match us, hl with | [_], _ => rfl
  exact ⟨f, fd, _, fv_of (fb := f_parse_choice) Fn sc (fun cdv A outer s H E hr => ⟨_, by exact (zs_cons (z_if (zt_not (zt_truth (Vx.b (z_isi "str" rfl n_isinstance rfl n_str (by decide +kernel) (vb_var 0 (pv 0))))))
  (vss_one (vs_raiseX rfl (takes_def rfl rfl rfl rfl) c_ParseError (hr.mono (by decide)) rfl ve_non))
  zs_nil)
  (zs_cons (z_setO (i := 1) (fun _ h => ps_set (i := 1) sc.nd rfl (by first | exact Or.inl rfl | exact Or.inr rfl) h) (z_lst va_nil))
  (zs_cons (z_wp [2, 3, 4] (z_for (passes_of rfl) rfl (vi_enum rfl n_enumerate (Vx.fz (z_split (vb_var 0 (pv 0)) (Vx.b ve_str)))) (vg_tup2 rfl (vgs_cons (vg_name (pg_name (i := 2) sc.nd rfl (by first | exact Or.inl rfl | exact Or.inr rfl))) (vgs_cons (vg_name (pg_name (i := 3) sc.nd rfl (by first | exact Or.inl rfl | exact Or.inr rfl))) vgs_nil)))
  (zs_wq [2, 3, 4] (zs_cons (z_set (i := 4) (fun _ h => ps_set (i := 4) sc.nd rfl (by first | exact Or.inl rfl | exact Or.inr rfl) h) (z_callC c_parse_line (hr.mono (by decide)) rfl (takes_def rfl rfl rfl rfl) (va_cons (ve_var 3 (pv 3)) (va_cons (ve_cmp (op_eqE hr.units) o2_eq (nomark _) (vb_var 2 (pv 2)) (Vx.b ve_int)) va_nil))))
  (zs_cons (z_if (zt_cmp op_isN o2_is (nomark _) (vb_var 4 (pv 4)) (Vx.b ve_non))
  (vss_one (vs_raiseX rfl (takes_def rfl rfl rfl rfl) c_ParseError (hr.mono (by decide)) rfl (ve_var 2 (pv 2))))
  zs_nil)
  (vss_one (vs_mutA mut_append (fun h => ps_expr (pe_bm PySem.F.plainAttrs_list PySem.F.slot_list_append PySem.F.type_list_append mt_append (pv 1) h)) (va_cons (ve_var 4 (pv 4)) va_nil))))))))
  (zs_cons (z_set (i := 5) (fun _ h => ps_set (i := 5) sc.nd rfl (by first | exact Or.inl rfl | exact Or.inr rfl) h) (z_tup (va_cons (z_len rfl n_len (Vx.b (ve_ix (vb_var 1 (pv 1)) (Vx.b ve_int)))) (va_cons (z_tuple rfl n_tuple (Vx.ob (y_lc (own := [("row", 4)]) rfl sc.nd (zi_seq (ve_sl (vb_var 1 (pv 1)) (zp_some ve_int) zp_none)) (blkOk_by (N := ["text", "rows", "number", "line", "row", "graph"]) (sc := (defScope s_parse_choice)) (by decide +kernel)) rfl (fun _ _ _ _ _ => ⟨_, (vg_name (pg_name (i := 4) sc.nd rfl (by first | exact Or.inl rfl | exact Or.inr rfl)))⟩) (fun _ _ _ _ _ => ⟨_, zts_nil⟩) (fun _ _ _ _ _ => ⟨_, (ve_sl (vb_var 4 (pv 4)) zp_none (zp_some ve_int))⟩)))) va_nil))))
  (zs_cons (z_if (VW.t (zw_or (zt_not (zt_truth (Vx.b (z_callC c_is_graph (hr.mono (by decide)) rfl (takes_def rfl rfl rfl rfl) (va_cons (ve_var 5 (pv 5)) va_nil))))) (vw_or1 (zt_not (zt_truth (Vx.b (z_callC c_are_wishes (hr.mono (by decide)) rfl (takes_def rfl rfl rfl rfl) (va_cons (ve_var 5 (pv 5)) (va_cons (ve_ix (vb_var 1 (pv 1)) (Vx.b ve_int)) va_nil)))))))))
  (vss_one (vs_raiseX rfl (takes_def rfl rfl rfl rfl) c_ParseError (hr.mono (by decide)) rfl ve_non))
  zs_nil)
  (vss_one (z_ret (z_tup (va_cons (ve_var 5 (pv 5)) (va_cons (ve_ix (vb_var 1 (pv 1)) (Vx.b ve_int)) (va_cons (z_tuple rfl n_tuple (Vx.ob (y_lc (own := [("number", 2), ("row", 4)]) rfl sc.nd (vi_enum rfl n_enumerate (ve_sl (vb_var 1 (pv 1)) (zp_some ve_int) zp_none)) (blkOk_by (N := ["text", "rows", "number", "line", "row", "graph"]) (sc := (defScope s_parse_choice)) (by decide +kernel)) rfl (fun _ _ _ _ _ => ⟨_, (vg_tup2 rfl (vgs_cons (vg_name (pg_name (i := 2) sc.nd rfl (by first | exact Or.inl rfl | exact Or.inr rfl))) (vgs_cons (vg_name (pg_name (i := 4) sc.nd rfl (by first | exact Or.inl rfl | exact Or.inr rfl))) vgs_nil)))⟩) (fun _ _ _ _ _ => ⟨_, (vts_one (zt_cmp (op_eqE hr.units) o2_eq (nomark _) (Vx.b (ve_ix (vb_var 4 (pv 4)) (Vx.b ve_int))) (Vx.b ve_str)))⟩) (fun _ _ _ _ _ => ⟨_, (ve_var 2 (pv 2))⟩)))) va_nil)))))))))))⟩) 1 rfl, g, Fn.kp, bd⟩
abbrev s_law_parse : Stmt := topS 30
theorem sc_law_parse : FnScope ["text", "e"] ["text"] (defScope s_law_parse) := ⟨rfl, rfl, rfl, by decide +kernel, rfl, by decide +kernel, by decide +kernel⟩
theorem ok_law_parse {P : Program} {w : World} {K : PySem.W.Frag} {mg : Str → Option Value} {base : Heap} {f : Addr} {fd : FuncData} (Fn : FunD K "_law_parse" "_law_parse" (defArgs s_law_parse) (defBody s_law_parse) (defScope s_law_parse) [] [] f fd) (g : mg "_law_parse" = some (.ref f)) (c_parse_choice : Cal P w K mg base "parse_choice" 4 1 m_parse_choice) (n_isinstance : mg "isinstance" = none) (m_ParseError : mg "ParseError" = some (.ref (He.ga K "ParseError"))) (m_ChoiceError : mg "ChoiceError" = some (.ref (He.ga K "ChoiceError"))) (m_InvalidGraph : mg "InvalidGraph" = some (.ref (He.ga K "InvalidGraph"))) (q : Clt K exs exC subE) (xf : Fld K "ParseError" "line" "ChoiceError") :
    Cal P w K mg base "_law_parse" 5 1 m_law_parse := by
  have sc := sc_law_parse
  have bd : Binds K fd ["text"] [] := Fn.bindsN fun _ _ _ _ _ _ us hl => match us, hl with | [_], _ => rfl
  exact ⟨f, fd, _, fv_of (fb := f_law_parse) Fn sc (fun cdv A outer s H E hr => ⟨_, by exact (vss_one (z_ex (vs_tryF (c := "ParseError") (f := "line") (z := "line") (i := 1) rfl rfl sc.nd (takes_def rfl rfl rfl rfl) (fun W1 pn1 xe1 tk1 po1 => ⟨_, (vss_one (z_ret (z_callC c_parse_choice (hr.mono (by decide)) rfl tk1 (va_cons (ve_var 0 (pv 0)) va_nil))))⟩) rfl rfl ⟨rfl, by decide, .inl m_ParseError⟩ xf.e (fun a oe dd pn hz hf => kf_ret xf.x xf.n hz hf (kf_and (kf_is q hz hf (by decide +kernel) n_isinstance rfl (by decide +kernel) rfl m_ChoiceError (pv 1)) (kf_is q hz hf (by decide +kernel) n_isinstance rfl (by decide +kernel) rfl m_InvalidGraph (pv 1)) (by decide +kernel) (by decide +kernel)) (fun _ _ _ k w => ⟨k, w⟩) (pv 1) (pe_lst (pa_cons pe_str pa_nil))))))⟩) 1 rfl, g, Fn.kp, bd⟩
abbrev s_check_graph : Stmt := topS 13
theorem sc_check_graph : FnScope ["graph"] ["graph"] (defScope s_check_graph) := ⟨rfl, rfl, rfl, by decide +kernel, rfl, by decide +kernel, by decide +kernel⟩
theorem ok_check_graph {P : Program} {w : World} {K : PySem.W.Frag} {mg : Str → Option Value} {base : Heap} {f : Addr} {fd : FuncData} (Fn : FunD K "check_graph" "check_graph" (defArgs s_check_graph) (defBody s_check_graph) (defScope s_check_graph) [] [] f fd) (g : mg "check_graph" = some (.ref f)) (c_is_graph : Cal P w K mg base "is_graph" 3 1 m_is_graph) (x_InvalidGraph : ExOk K mg "InvalidGraph") :
    Cal P w K mg base "check_graph" 4 1 m_check_graph := by
  have sc := sc_check_graph
  have bd : Binds K fd ["graph"] [] := Fn.bindsN fun _ _ _ _ _ _ us hl => match us, hl with | [_], _ => rfl
  exact ⟨f, fd, _, fv_of (fb := f_check_graph) Fn sc (fun cdv A outer s H E hr => ⟨_, by exact (vss_one (z_if (zt_not (zt_truth (Vx.b (z_callC c_is_graph (hr.mono (by decide)) rfl (takes_def rfl rfl rfl rfl) (va_cons (ve_var 0 (pv 0)) va_nil)))))
  (vss_one (vs_raise rfl (takes_def rfl rfl rfl rfl) x_InvalidGraph rfl))
  zs_nil))⟩) 1 rfl, g, Fn.kp, bd⟩
abbrev s_check_wishes : Stmt := topS 15
theorem sc_check_wishes : FnScope ["graph", "wishes"] ["graph", "wishes"] (defScope s_check_wishes) := ⟨rfl, rfl, rfl, by decide +kernel, rfl, by decide +kernel, by decide +kernel⟩
theorem ok_check_wishes {P : Program} {w : World} {K : PySem.W.Frag} {mg : Str → Option Value} {base : Heap} {f : Addr} {fd : FuncData} (Fn : FunD K "check_wishes" "check_wishes" (defArgs s_check_wishes) (defBody s_check_wishes) (defScope s_check_wishes) [] [] f fd) (g : mg "check_wishes" = some (.ref f)) (c_check_graph : Cal P w K mg base "check_graph" 4 1 m_check_graph) (c_are_wishes : Cal P w K mg base "are_wishes" 2 2 m_are_wishes) (x_InvalidWishes : ExOk K mg "InvalidWishes") :
    Cal P w K mg base "check_wishes" 5 2 m_check_wishes := by
  have sc := sc_check_wishes
  have bd : Binds K fd ["graph", "wishes"] [] := Fn.bindsN fun _ _ _ _ _ _ us hl => match us, hl with | [_, _], _ => rfl
  exact ⟨f, fd, _, fv_of (fb := f_check_wishes) Fn sc (fun cdv A outer s H E hr => ⟨_, by exact (zs_cons (z_expr (z_callC c_check_graph (hr.mono (by decide)) rfl (takes_def rfl rfl rfl rfl) (va_cons (ve_var 0 (pv 0)) va_nil)))
  (vss_one (z_if (zt_not (zt_truth (Vx.b (z_callC c_are_wishes (hr.mono (by decide)) rfl (takes_def rfl rfl rfl rfl) (va_cons (ve_var 0 (pv 0)) (va_cons (ve_var 1 (pv 1)) va_nil))))))
  (vss_one (vs_raise rfl (takes_def rfl rfl rfl rfl) x_InvalidWishes rfl))
  zs_nil)))⟩) 2 rfl, g, Fn.kp, bd⟩
abbrev s_is_choice : Stmt := topS 16
theorem sc_is_choice : FnScope ["graph", "value", "number", "following"] ["graph", "value"] (defScope s_is_choice) := ⟨rfl, rfl, rfl, by decide +kernel, rfl, by decide +kernel, by decide +kernel⟩
theorem ok_is_choice {P : Program} {w : World} {K : PySem.W.Frag} {mg : Str → Option Value} {base : Heap} {f : Addr} {fd : FuncData} (Fn : FunD K "is_choice" "is_choice" (defArgs s_is_choice) (defBody s_is_choice) (defScope s_is_choice) [] [] f fd) (g : mg "is_choice" = some (.ref f)) (c_in_range : Cal P w K mg base "in_range" 1 3 m_in_range) (n_isinstance : mg "isinstance" = none) (n_tuple : mg "tuple" = none) (n_len : mg "len" = none) (n_zip : mg "zip" = none) :
    Cal P w K mg base "is_choice" 2 2 m_is_choice := by
  have sc := sc_is_choice
  have bd : Binds K fd ["graph", "value"] [] := Fn.bindsN fun _ _ _ _ _ _ us hl => match us, hl with | [_, _], _ => rfl
  exact ⟨f, fd, _, fv_of (fb := f_is_choice) Fn sc (fun cdv A outer s H E hr => ⟨_, by exact (zs_cons (z_if (VW.t (zw_or (zt_not (zt_truth (Vx.b (z_isi "tuple" rfl n_isinstance rfl n_tuple (by decide +kernel) (vb_var 1 (pv 1)))))) (vw_or1 (zt_truth (Vx.ob (y_lc (own := [("number", 2)]) rfl sc.nd (zi_seq (ve_var 1 (pv 1))) (blkOk_by (N := ["graph", "value", "number", "following"]) (sc := (defScope s_is_choice)) (by decide +kernel)) rfl (fun _ _ _ _ _ => ⟨_, (vg_name (pg_name (i := 2) sc.nd rfl (by first | exact Or.inl rfl | exact Or.inr rfl)))⟩) (fun _ _ _ _ _ => ⟨_, (vts_one (zt_not (zt_truth (Vx.b (z_callC c_in_range (hr.mono (by decide)) rfl takesB (va_cons (ve_var 2 (pv 2)) (va_cons ve_int (va_cons (ve_sub (Vx.b (z_len rfl n_len (Vx.b (ve_ix (vb_var 0 (pv 0)) (Vx.b ve_int))))) (Vx.b ve_int)) va_nil))))))))⟩) (fun _ _ _ _ _ => ⟨_, (ve_var 2 (pv 2))⟩)))))))
  (vss_one (z_ret ve_bl))
  zs_nil)
  (vss_one (z_ret (z_not (Vx.ob (y_lc (own := [("number", 2), ("following", 3)]) rfl sc.nd (zi_zip rfl n_zip (va_cons (ve_var 1 (pv 1)) (va_cons (ve_sl (vb_var 1 (pv 1)) (zp_some ve_int) zp_none) va_nil))) (blkOk_by (N := ["graph", "value", "number", "following"]) (sc := (defScope s_is_choice)) (by decide +kernel)) rfl (fun _ _ _ _ _ => ⟨_, (vg_tup2 rfl (vgs_cons (vg_name (pg_name (i := 2) sc.nd rfl (by first | exact Or.inl rfl | exact Or.inr rfl))) (vgs_cons (vg_name (pg_name (i := 3) sc.nd rfl (by first | exact Or.inl rfl | exact Or.inr rfl))) vgs_nil)))⟩) (fun _ _ _ _ _ => ⟨_, (vts_one (zt_cmp (op_geA hr.units0) o2_ge (nomark _) (vb_var 2 (pv 2)) (vb_var 3 (pv 3))))⟩) (fun _ _ _ _ _ => ⟨_, ve_int⟩)))))))⟩) 2 rfl, g, Fn.kp, bd⟩
abbrev s_check_choice : Stmt := topS 17
theorem sc_check_choice : FnScope ["graph", "choice"] ["graph", "choice"] (defScope s_check_choice) := ⟨rfl, rfl, rfl, by decide +kernel, rfl, by decide +kernel, by decide +kernel⟩
theorem ok_check_choice {P : Program} {w : World} {K : PySem.W.Frag} {mg : Str → Option Value} {base : Heap} {f : Addr} {fd : FuncData} (Fn : FunD K "check_choice" "check_choice" (defArgs s_check_choice) (defBody s_check_choice) (defScope s_check_choice) [] [] f fd) (g : mg "check_choice" = some (.ref f)) (c_is_choice : Cal P w K mg base "is_choice" 2 2 m_is_choice) (x_InvalidChoice : ExOk K mg "InvalidChoice") :
    Cal P w K mg base "check_choice" 3 2 m_check_choice := by
  have sc := sc_check_choice
  have bd : Binds K fd ["graph", "choice"] [] := Fn.bindsN fun _ _ _ _ _ _ us hl => match us, hl with | [_, _], _ => rfl
  exact ⟨f, fd, _, fv_of (fb := f_check_choice) Fn sc (fun cdv A outer s H E hr => ⟨_, by exact (vss_one (z_if (zt_not (zt_truth (Vx.b (z_callC c_is_choice (hr.mono (by decide)) rfl (takes_def rfl rfl rfl rfl) (va_cons (ve_var 0 (pv 0)) (va_cons (ve_var 1 (pv 1)) va_nil))))))
  (vss_one (vs_raise rfl (takes_def rfl rfl rfl rfl) x_InvalidChoice rfl))
  zs_nil))⟩) 2 rfl, g, Fn.kp, bd⟩
abbrev s_format_choice : Stmt := topS 20
theorem sc_format_choice : FnScope ["graph", "wishes", "choice", "lines", "number", "one", "other", "word", "wish"] ["graph", "wishes", "choice"] (defScope s_format_choice) := ⟨rfl, rfl, rfl, by decide +kernel, rfl, by decide +kernel, by decide +kernel⟩
theorem ok_format_choice {P : Program} {w : World} {K : PySem.W.Frag} {mg : Str → Option Value} {base : Heap} {f : Addr} {fd : FuncData} (Fn : FunD K "format_choice" "format_choice" (defArgs s_format_choice) (defBody s_format_choice) (defScope s_format_choice) [] [] f fd) (g : mg "format_choice" = some (.ref f)) (c_check_wishes : Cal P w K mg base "check_wishes" 5 2 m_check_wishes) (c_check_choice : Cal P w K mg base "check_choice" 3 2 m_check_choice) (n_str : mg "str" = none) (n_enumerate : mg "enumerate" = none) :
    Cal P w K mg base "format_choice" 6 3 m_format_choice := by
  have sc := sc_format_choice
  have bd : Binds K fd ["graph", "wishes", "choice"] [] := Fn.bindsN fun _ _ _ _ _ _ us hl => match us, hl with | [_, _, _], _ => rfl
  exact ⟨f, fd, _, fv_of (fb := f_format_choice) Fn sc (fun cdv A outer s H E hr => ⟨_, by exact (zs_cons (z_expr (z_callC c_check_wishes (hr.mono (by decide)) rfl (takes_def rfl rfl rfl rfl) (va_cons (ve_var 0 (pv 0)) (va_cons (ve_var 1 (pv 1)) va_nil))))
  (zs_cons (z_expr (z_callC c_check_choice (hr.mono (by decide)) rfl (takes_def rfl rfl rfl rfl) (va_cons (ve_var 0 (pv 0)) (va_cons (ve_var 2 (pv 2)) va_nil))))
  (zs_cons (z_setO (i := 3) (fun _ h => ps_set (i := 3) sc.nd rfl (by first | exact Or.inl rfl | exact Or.inr rfl) h) (z_lst (va_cons (z_join (Vx.b ve_str) (Vx.b (ve_add (Vx.ob (z_lst (va_cons ve_str va_nil))) (Vx.ob (y_lc (own := [("wish", 8)]) rfl sc.nd (zi_seq (ve_var 1 (pv 1))) (blkOk_by (N := ["graph", "wishes", "choice", "lines", "number", "one", "other", "word", "wish"]) (sc := (defScope s_format_choice)) (by decide +kernel)) rfl (fun _ _ _ _ _ => ⟨_, (vg_name (pg_name (i := 8) sc.nd rfl (by first | exact Or.inl rfl | exact Or.inr rfl)))⟩) (fun _ _ _ _ _ => ⟨_, zts_nil⟩) (fun _ _ _ _ _ => ⟨_, (z_str rfl n_str (vb_var 8 (pv 8)))⟩)))))) va_nil)))
  (zs_cons (z_wp [4, 5, 6, 7] (z_for (passes_of rfl) rfl (vi_enum rfl n_enumerate (ve_ix (vb_var 0 (pv 0)) (Vx.b ve_int))) (vg_tup2 rfl (vgs_cons (vg_name (pg_name (i := 4) sc.nd rfl (by first | exact Or.inl rfl | exact Or.inr rfl))) (vgs_cons (vg_tup2 rfl (vgs_cons (vg_name (pg_name (i := 5) sc.nd rfl (by first | exact Or.inl rfl | exact Or.inr rfl))) (vgs_cons (vg_name (pg_name (i := 6) sc.nd rfl (by first | exact Or.inl rfl | exact Or.inr rfl))) vgs_nil))) vgs_nil)))
  (zs_wq [4, 5, 6, 7] (zs_cons (z_set (i := 7) (fun _ h => ps_set (i := 7) sc.nd rfl (by first | exact Or.inl rfl | exact Or.inr rfl) h) (z_ifE mE (zt_cmp (op_inE hr.units) o2_in (by rfl) (vb_var 4 (pv 4)) (vb_var 2 (pv 2))) ve_str ve_str))
  (vss_one (vs_mutA mut_append (fun h => ps_expr (pe_bm PySem.F.plainAttrs_list PySem.F.slot_list_append PySem.F.type_list_append mt_append (pv 3) h)) (va_cons (z_fstr (.cons (z_fmt (vb_var 5 (pv 5))) (.cons ve_str (.cons (z_fmt (vb_var 6 (pv 6))) (.cons ve_str (.cons (z_fmt (vb_var 7 (pv 7))) .nil)))))) va_nil)))))))
  (vss_one (z_ret (z_join (Vx.b ve_str) (vb_var 3 (pv 3)))))))))⟩) 3 rfl, g, Fn.kp, bd⟩
abbrev s_law : Stmt := topS 31
theorem sc_law : FnScope ["script", "draws", "graph", "wishes", "choice", "lines_here", "number", "one", "other", "text", "spot", "new", "edited", "found", "at", "wrong", "wish"] ["script"] (defScope s_law) := ⟨rfl, rfl, rfl, by decide +kernel, rfl, by decide +kernel, by decide +kernel⟩
theorem fv_law {P : Program} {w : World} {K : PySem.W.Frag} {mg : Str → Option Value} {base : Heap} {f : Addr} {fd : FuncData} (Fn : FunD K "law" "law" (defArgs s_law) (defBody s_law) (defScope s_law) [] [] f fd) (c__law_row : Cal P w K mg base "_law_row" 2 2 m_law_row) (c__law_graph : Cal P w K mg base "_law_graph" 3 4 m_law_graph) (c__law_wishes : Cal P w K mg base "_law_wishes" 3 3 m_law_wishes) (c_format_choice : Cal P w K mg base "format_choice" 6 3 m_format_choice) (c__law_parse : Cal P w K mg base "_law_parse" 5 1 m_law_parse) (n_tuple : mg "tuple" = none) (n_range : mg "range" = none) (n_len : mg "len" = none) (n_str : mg "str" = none) :
    FV P w K mg base 7 f fd ["script"] 1 m_law := by
  have sc := sc_law
  exact fv_of (fb := f_law) Fn sc (fun cdv A outer s H E hr => ⟨_, by exact (zs_cons (z_set (i := 1) (fun _ h => ps_set (i := 1) sc.nd rfl (by first | exact Or.inl rfl | exact Or.inr rfl) h) (z_callC c__law_row (hr.mono (by decide)) rfl (takes_def rfl rfl rfl rfl) (va_cons (ve_var 0 (pv 0)) (va_cons ve_int va_nil))))
  (zs_cons (z_set (i := 2) (fun _ h => ps_set (i := 2) sc.nd rfl (by first | exact Or.inl rfl | exact Or.inr rfl) h) (z_callC c__law_graph (hr.mono (by decide)) rfl (takes_def rfl rfl rfl rfl) (va_cons (ve_var 0 (pv 0)) (va_cons ve_int (va_cons ve_int (va_cons ve_int va_nil))))))
  (zs_cons (z_set (i := 3) (fun _ h => ps_set (i := 3) sc.nd rfl (by first | exact Or.inl rfl | exact Or.inr rfl) h) (z_callC c__law_wishes (hr.mono (by decide)) rfl (takes_def rfl rfl rfl rfl) (va_cons (ve_var 0 (pv 0)) (va_cons ve_int (va_cons (ve_var 2 (pv 2)) va_nil)))))
  (zs_cons (z_set (i := 4) (fun _ h => ps_set (i := 4) sc.nd rfl (by first | exact Or.inl rfl | exact Or.inr rfl) h) (z_tuple rfl n_tuple (Vx.ob (y_lc (own := [("number", 6)]) rfl sc.nd (zi_range1 rfl n_range (va_cons (z_len rfl n_len (Vx.b (ve_ix (vb_var 2 (pv 2)) (Vx.b ve_int)))) va_nil)) (blkOk_by (N := ["script", "draws", "graph", "wishes", "choice", "lines_here", "number", "one", "other", "text", "spot", "new", "edited", "found", "at", "wrong", "wish"]) (sc := (defScope s_law)) (by decide +kernel)) rfl (fun _ _ _ _ _ => ⟨_, (vg_name (pg_name (i := 6) sc.nd rfl (by first | exact Or.inl rfl | exact Or.inr rfl)))⟩) (fun _ _ _ _ _ => ⟨_, (vts_one (zt_cmp (op_eqE hr.units) o2_eq (nomark _) (Vx.b (ve_mod (Vx.b (ve_ix (vb_var 1 (pv 1)) (Vx.b (ve_add (Vx.b ve_int) (vb_var 6 (pv 6)))))) (Vx.b ve_int))) (Vx.b ve_int)))⟩) (fun _ _ _ _ _ => ⟨_, (ve_var 6 (pv 6))⟩)))))
  (zs_cons (z_setO (i := 5) (fun _ h => ps_set (i := 5) sc.nd rfl (by first | exact Or.inl rfl | exact Or.inr rfl) h) (z_lst (va_cons (z_join (Vx.b ve_str) (Vx.b (ve_add (Vx.ob (z_lst (va_cons ve_str va_nil))) (Vx.ob (y_lc (own := [("wish", 16)]) rfl sc.nd (zi_seq (ve_var 3 (pv 3))) (blkOk_by (N := ["script", "draws", "graph", "wishes", "choice", "lines_here", "number", "one", "other", "text", "spot", "new", "edited", "found", "at", "wrong", "wish"]) (sc := (defScope s_law)) (by decide +kernel)) rfl (fun _ _ _ _ _ => ⟨_, (vg_name (pg_name (i := 16) sc.nd rfl (by first | exact Or.inl rfl | exact Or.inr rfl)))⟩) (fun _ _ _ _ _ => ⟨_, zts_nil⟩) (fun _ _ _ _ _ => ⟨_, (z_str rfl n_str (vb_var 16 (pv 16)))⟩)))))) va_nil)))
  (zs_cons (z_wp [6, 7, 8] (z_for (passes_of rfl) rfl (zi_range1 rfl n_range (va_cons (z_len rfl n_len (Vx.b (ve_ix (vb_var 2 (pv 2)) (Vx.b ve_int)))) va_nil)) (vg_name (pg_name (i := 6) sc.nd rfl (by first | exact Or.inl rfl | exact Or.inr rfl)))
  (zs_wq [6, 7, 8] (zs_cons (z_asg (ve_ix (Vx.b (ve_ix (vb_var 2 (pv 2)) (Vx.b ve_int))) (vb_var 6 (pv 6))) (vg_tup2 rfl (vgs_cons (vg_name (pg_name (i := 7) sc.nd rfl (by first | exact Or.inl rfl | exact Or.inr rfl))) (vgs_cons (vg_name (pg_name (i := 8) sc.nd rfl (by first | exact Or.inl rfl | exact Or.inr rfl))) vgs_nil))))
  (vss_one (vs_mutA mut_append (fun h => ps_expr (pe_bm PySem.F.plainAttrs_list PySem.F.slot_list_append PySem.F.type_list_append mt_append (pv 5) h)) (va_cons (z_join (Vx.b ve_str) (Vx.ob (z_lst (va_cons (z_str rfl n_str (vb_var 7 (pv 7))) (va_cons (z_str rfl n_str (vb_var 8 (pv 8))) (va_cons (z_ifE mE (zt_cmp (op_inE hr.units) o2_in (by rfl) (vb_var 6 (pv 6)) (vb_var 4 (pv 4))) ve_str ve_str) va_nil)))))) va_nil)))))))
  (zs_cons (z_set (i := 9) (fun _ h => ps_set (i := 9) sc.nd rfl (by first | exact Or.inl rfl | exact Or.inr rfl) h) (z_join (Vx.b ve_str) (vb_var 5 (pv 5))))
  (zs_cons (z_if (VW.t (zw_or (zt_cmp (op_neE hr.units) o2_ne (nomark _) (Vx.b (z_callC c_format_choice (hr.mono (by decide)) rfl (takes_def rfl rfl rfl rfl) (va_cons (ve_var 2 (pv 2)) (va_cons (ve_var 3 (pv 3)) (va_cons (ve_var 4 (pv 4)) va_nil))))) (vb_var 9 (pv 9))) (vw_or1 (zt_cmp (op_neE hr.units) o2_ne (nomark _) (Vx.b (z_callC c__law_parse (hr.mono (by decide)) rfl (takes_def rfl rfl rfl rfl) (va_cons (ve_var 9 (pv 9)) va_nil))) (Vx.b (z_tup (va_cons (ve_var 2 (pv 2)) (va_cons (ve_var 3 (pv 3)) (va_cons (ve_var 4 (pv 4)) va_nil)))))))))
  (vss_one (z_ret ve_bl))
  zs_nil)
  (zs_cons (z_set (i := 10) (fun _ h => ps_set (i := 10) sc.nd rfl (by first | exact Or.inl rfl | exact Or.inr rfl) h) (ve_mod (Vx.b (ve_mul (Vx.b (ve_ix (vb_var 1 (pv 1)) (Vx.b ve_int))) (Vx.b ve_int))) (Vx.b (ve_add (Vx.b (z_len rfl n_len (vb_var 9 (pv 9)))) (Vx.b ve_int)))))
  (zs_cons (z_set (i := 11) (fun _ h => ps_set (i := 11) sc.nd rfl (by first | exact Or.inl rfl | exact Or.inr rfl) h) (ve_ix (Vx.ob (z_lst (va_cons ve_str (va_cons ve_str (va_cons ve_str (va_cons ve_str (va_cons ve_str (va_cons ve_str va_nil)))))))) (Vx.b (ve_mod (Vx.b (ve_ix (vb_var 1 (pv 1)) (Vx.b ve_int))) (Vx.b ve_int)))))
  (zs_cons (z_set (i := 12) (fun _ h => ps_set (i := 12) sc.nd rfl (by first | exact Or.inl rfl | exact Or.inr rfl) h) (ve_ix (Vx.ob (z_lst (va_cons (ve_add (Vx.b (z_slS (vb_var 9 (pv 9)) zp_none (zp_some (ve_var 10 (pv 10))))) (Vx.b (z_slS (vb_var 9 (pv 9)) (zp_some (ve_add (vb_var 10 (pv 10)) (Vx.b ve_int))) zp_none))) (va_cons (ve_add (Vx.b (ve_add (Vx.b (z_slS (vb_var 9 (pv 9)) zp_none (zp_some (ve_var 10 (pv 10))))) (vb_var 11 (pv 11)))) (Vx.b (z_slS (vb_var 9 (pv 9)) (zp_some (ve_var 10 (pv 10))) zp_none))) (va_cons (ve_add (vb_var 9 (pv 9)) (Vx.b ve_str)) (va_cons (ve_add (Vx.b ve_str) (vb_var 9 (pv 9))) va_nil)))))) (Vx.b (ve_mod (Vx.b (ve_ix (vb_var 1 (pv 1)) (Vx.b ve_int))) (Vx.b ve_int)))))
  (zs_cons (z_set (i := 13) (fun _ h => ps_set (i := 13) sc.nd rfl (by first | exact Or.inl rfl | exact Or.inr rfl) h) (z_callC c__law_parse (hr.mono (by decide)) rfl (takes_def rfl rfl rfl rfl) (va_cons (ve_var 12 (pv 12)) va_nil)))
  (zs_cons (z_if (VW.t (zw_or (zt_cmp (op_eqE hr.units) o2_eq (nomark _) (Vx.b (ve_ix (vb_var 13 (pv 13)) (Vx.b ve_int))) (Vx.b ve_str)) (vw_or1 (VW.t (zw_and (zt_cmp (op_neE hr.units) o2_ne (nomark _) (Vx.b (ve_ix (vb_var 13 (pv 13)) (Vx.b ve_int))) (Vx.b ve_str)) (vw_and1 (zt_cmp (op_neE hr.units) o2_ne (nomark _) (Vx.b (z_callC c_format_choice (hr.mono (by decide)) rfl (takes_def rfl rfl rfl rfl) (va_cons (ve_ix (vb_var 13 (pv 13)) (Vx.b ve_int)) (va_cons (ve_ix (vb_var 13 (pv 13)) (Vx.b ve_int)) (va_cons (ve_ix (vb_var 13 (pv 13)) (Vx.b ve_int)) va_nil))))) (vb_var 12 (pv 12)))))))))
  (vss_one (z_ret ve_bl))
  zs_nil)
  (zs_cons (z_set (i := 14) (fun _ h => ps_set (i := 14) sc.nd rfl (by first | exact Or.inl rfl | exact Or.inr rfl) h) (ve_add (Vx.b ve_int) (Vx.b (ve_mod (Vx.b (ve_ix (vb_var 1 (pv 1)) (Vx.b ve_int))) (Vx.b (z_len rfl n_len (vb_var 5 (pv 5))))))))
  (zs_cons (z_set (i := 15) (fun _ h => ps_set (i := 15) sc.nd rfl (by first | exact Or.inl rfl | exact Or.inr rfl) h) (ve_ix (Vx.ob (z_lst (va_cons ve_str (va_cons ve_str (va_cons ve_str (va_cons ve_str (va_cons ve_str (va_cons ve_str (va_cons ve_str (va_cons ve_str va_nil)))))))))) (Vx.b (ve_mod (Vx.b (ve_ix (vb_var 1 (pv 1)) (Vx.b ve_int))) (Vx.b ve_int)))))
  (zs_cons (z_if (zt_cmp (op_neE hr.units) o2_ne (nomark _) (Vx.b (z_callC c__law_parse (hr.mono (by decide)) rfl (takes_def rfl rfl rfl rfl) (va_cons (z_join (Vx.b ve_str) (Vx.b (ve_add (Vx.b (ve_add (Vx.b (ve_sl (vb_var 5 (pv 5)) zp_none (zp_some (ve_var 14 (pv 14))))) (Vx.ob (z_lst (va_cons (ve_var 15 (pv 15)) va_nil))))) (Vx.b (ve_sl (vb_var 5 (pv 5)) (zp_some (ve_var 14 (pv 14))) zp_none))))) va_nil))) (Vx.ob (z_lst (va_cons ve_str (va_cons (ve_var 14 (pv 14)) va_nil)))))
  (vss_one (z_ret ve_bl))
  zs_nil)
  (zs_cons (z_set (i := 15) (fun _ h => ps_set (i := 15) sc.nd rfl (by first | exact Or.inl rfl | exact Or.inr rfl) h) (ve_ix (Vx.ob (z_lst (va_cons ve_str (va_cons ve_str (va_cons ve_str (va_cons ve_str (va_cons ve_str (va_cons ve_str va_nil)))))))) (Vx.b (ve_mod (Vx.b (ve_ix (vb_var 1 (pv 1)) (Vx.b ve_int))) (Vx.b ve_int)))))
  (zs_cons (z_if (zt_cmp (op_neE hr.units) o2_ne (nomark _) (Vx.b (z_callC c__law_parse (hr.mono (by decide)) rfl (takes_def rfl rfl rfl rfl) (va_cons (z_join (Vx.b ve_str) (Vx.b (ve_add (Vx.ob (z_lst (va_cons (ve_var 15 (pv 15)) va_nil))) (Vx.b (ve_sl (vb_var 5 (pv 5)) (zp_some ve_int) zp_none))))) va_nil))) (Vx.ob (z_lst (va_cons ve_str (va_cons ve_int va_nil)))))
  (vss_one (z_ret ve_bl))
  zs_nil)
  (zs_cons (z_if (VW.t (zw_or (zt_cmp (op_neE hr.units) o2_ne (nomark _) (Vx.b (z_callC c__law_parse (hr.mono (by decide)) rfl (takes_def rfl rfl rfl rfl) (va_cons ve_str va_nil))) (Vx.ob (z_lst (va_cons ve_str (va_cons ve_non va_nil))))) (vw_or1 (zt_cmp (op_neE hr.units) o2_ne (nomark _) (Vx.b (z_callC c__law_parse (hr.mono (by decide)) rfl (takes_def rfl rfl rfl rfl) (va_cons ve_str va_nil))) (Vx.ob (z_lst (va_cons ve_str (va_cons ve_non va_nil))))))))
  (vss_one (z_ret ve_bl))
  zs_nil)
  (vss_one (z_fz 5 (z_ret (ve_cmp (op_eqE hr.units) o2_eq (nomark _) (Vx.b (z_callC c__law_parse (hr.mono (by decide)) rfl (takes_def rfl rfl rfl rfl) (va_cons (ve_ix (Vx.ob (z_lst (va_cons ve_non (va_cons ve_int (va_cons (ve_var 5 (pv 5)) (va_cons (ve_var 2 (pv 2)) va_nil)))))) (Vx.b (ve_mod (Vx.b (ve_ix (vb_var 1 (pv 1)) (Vx.b ve_int))) (Vx.b ve_int)))) va_nil))) (Vx.ob (z_lst (va_cons ve_str (va_cons ve_non va_nil)))))))))))))))))))))))))))⟩) 1 rfl
end K18
namespace K18
open PySem L2 DL Com
/-- the value of a digit -/
def pd (s : Str) : Option Int := match s.cps.toList with
  | [c] => if 48 ≤ c ∧ c ≤ 57 then some ((c : Int) - 48) else none
  | _ => none
def oD : Option Int → PyData
  | some d => .int d
  | none => .none
theorem dig_in (c : Nat) : (c ∈ ("0123456789" : Str).cps.toList) ↔ 48 ≤ c ∧ c ≤ 57 := by
  have e : ("0123456789" : Str).cps.toList = [48, 49, 50, 51, 52, 53, 54, 55, 56, 57] := by kernel_rfl
  rw [e]
  simp only [List.mem_cons, List.not_mem_nil, or_false]
  omega
theorem dig_ix {c : Nat} (h : 48 ≤ c ∧ c ≤ 57) : sidxD "0123456789" (.str ⟨#[c]⟩) = .ok (.int ((c : Int) - 48)) := by
  have : c = 48 ∨ c = 49 ∨ c = 50 ∨ c = 51 ∨ c = 52 ∨ c = 53 ∨ c = 54 ∨ c = 55 ∨ c = 56 ∨ c = 57 := by omega
  rcases this with rfl | rfl | rfl | rfl | rfl | rfl | rfl | rfl | rfl | rfl <;> kernel_rfl
theorem parse_digit_eq {s : Str} (hl : s.length ≤ sizeLine) : m_parse_digit [.str s] = .ok (oD (pd s)) := by
  rw [r_parse_digit]
  have ln : lenD (.str s) = .ok (.int (s.length : Int)) := if_pos hl
  by_cases h1 : (s.length : Int) = 1
  · have d1 : decide ((s.length : Int) = 1) = true := decide_eq_true h1
    obtain ⟨⟨l⟩⟩ := s
    have ll : l.length = 1 := by
      have : (⟨⟨l⟩⟩ : Str).length = l.length := rfl
      omega
    obtain ⟨c, rfl⟩ : ∃ c, l = [c] := List.length_eq_one_iff.mp ll
    have ii : inSD (.str ⟨⟨[c]⟩⟩) (.str "0123456789") = .ok (.bool (decide (c ∈ ("0123456789" : Str).cps.toList))) := rfl
    by_cases h2 : 48 ≤ c ∧ c ≤ 57
    · have d2 : decide (c ∈ ("0123456789" : Str).cps.toList) = true := decide_eq_true ((dig_in c).mpr h2)
      have p : pd ⟨⟨[c]⟩⟩ = some ((c : Int) - 48) := if_pos h2
      have ix := dig_ix h2
      have ix' : sidxD "0123456789" (.str ⟨⟨[c]⟩⟩) = .ok (.int ((c : Int) - 48)) := ix
      rw [p]
      simp only [f_parse_digit, sSeq_ap, sIf_ap, sRet_ap, sExpr_ap, sSet_ap, sSetO_ap, sFor_ap, sFz_ap, sFzb_ap, sAsg_ap, sSetItem_ap, sAugItem_ap, sAug_ap, sRaise_ap, sNil_ap, sBad_ap, mutO_ap, cA_ap, cNot_ap, cAnd_ap, cOr_ap, cIf_ap, cTup_ap, cLst_ap, pNone_ap, pSome_ap, wAnd_ap, wOr_ap, wNot_ap, wTru_ap, wCmp_ap, wYes_ap, iA_ap, iS_ap, aNil_ap, aCons_ap, kR_ap, b2_ap, b3_ap, c1_ap, chainD_ap, lcF_ap, datE_ap, datB_ap, ownAt_ap, endO_rt, endO_nx, endO_exc, endO_bad, bn_ok, bn_exc, bn_bad, to_ok, to_exc, to_bad, sq_nx, sq_rt, sq_bk, sq_ct, sq_exc, sq_bad, andR_ok, orR_ok, notR_ok, andV_ok, orV_ok, notV_ok, ifV_ok, truD_b, boolD_b, intD_i, tupR0, tupR1, tupR2, tupR3, tupR4, lstR0, lstR1, lstR2, lstR3, lstR4, lstR5, lstR6, lstR7, lstR8, lstR9, negD_i, slA3_l, slA3_t, tupleD_l, tupleD_t, listD_l, listD_t, revD_t, addE_ii, subD_ii, leD_ii, ltD_ii, geD_ii, gtI_ii, eqD_ii, neD_ii, isi_tup_tup, isi_tup_list, isi_tup_none, isi_tup_int, isi_tup_bool, isi_tup_str, isi_tup_dict, isi_int_int, isi_int_bool, isi_int_none, isi_int_str, isi_int_list, isi_int_tup, isi_int_dict, isi_bool_int, isi_bool_bool, isi_bool_none, isi_bool_str, isi_bool_list, isi_bool_tup, isi_bool_dict, lenD_t, lenD_l, seqD_l, seqD_t, List.getElem?_cons_zero, List.getElem?_cons_succ, List.set_cons_zero, List.set_cons_succ, ↓reduceIte, Bool.false_eq_true, Bool.not_true, Bool.not_false, sWp_ap, sWq_ap, wipeO_nx, wipeO_rt, wipeO_bk, wipeO_ct, wipeO_exc, wipeO_bad, wipeE_nil, wipeE_cons, fzE_ap, DL.ownO_l, asgO_2, DL.truD_l, DL.truD_t, datI_ap, augN_ap, zip2_tt, zip2_ll, sPar_ap, wFz_ap, ln, d1, ii, d2, m1, ix']
      rfl
    · have d2 : decide (c ∈ ("0123456789" : Str).cps.toList) = false := decide_eq_false fun z => h2 ((dig_in c).mp z)
      have p : pd ⟨⟨[c]⟩⟩ = none := if_neg h2
      rw [p]
      simp only [f_parse_digit, sSeq_ap, sIf_ap, sRet_ap, sExpr_ap, sSet_ap, sSetO_ap, sFor_ap, sFz_ap, sFzb_ap, sAsg_ap, sSetItem_ap, sAugItem_ap, sAug_ap, sRaise_ap, sNil_ap, sBad_ap, mutO_ap, cA_ap, cNot_ap, cAnd_ap, cOr_ap, cIf_ap, cTup_ap, cLst_ap, pNone_ap, pSome_ap, wAnd_ap, wOr_ap, wNot_ap, wTru_ap, wCmp_ap, wYes_ap, iA_ap, iS_ap, aNil_ap, aCons_ap, kR_ap, b2_ap, b3_ap, c1_ap, chainD_ap, lcF_ap, datE_ap, datB_ap, ownAt_ap, endO_rt, endO_nx, endO_exc, endO_bad, bn_ok, bn_exc, bn_bad, to_ok, to_exc, to_bad, sq_nx, sq_rt, sq_bk, sq_ct, sq_exc, sq_bad, andR_ok, orR_ok, notR_ok, andV_ok, orV_ok, notV_ok, ifV_ok, truD_b, boolD_b, intD_i, tupR0, tupR1, tupR2, tupR3, tupR4, lstR0, lstR1, lstR2, lstR3, lstR4, lstR5, lstR6, lstR7, lstR8, lstR9, negD_i, slA3_l, slA3_t, tupleD_l, tupleD_t, listD_l, listD_t, revD_t, addE_ii, subD_ii, leD_ii, ltD_ii, geD_ii, gtI_ii, eqD_ii, neD_ii, isi_tup_tup, isi_tup_list, isi_tup_none, isi_tup_int, isi_tup_bool, isi_tup_str, isi_tup_dict, isi_int_int, isi_int_bool, isi_int_none, isi_int_str, isi_int_list, isi_int_tup, isi_int_dict, isi_bool_int, isi_bool_bool, isi_bool_none, isi_bool_str, isi_bool_list, isi_bool_tup, isi_bool_dict, lenD_t, lenD_l, seqD_l, seqD_t, List.getElem?_cons_zero, List.getElem?_cons_succ, List.set_cons_zero, List.set_cons_succ, ↓reduceIte, Bool.false_eq_true, Bool.not_true, Bool.not_false, sWp_ap, sWq_ap, wipeO_nx, wipeO_rt, wipeO_bk, wipeO_ct, wipeO_exc, wipeO_bad, wipeE_nil, wipeE_cons, fzE_ap, DL.ownO_l, asgO_2, DL.truD_l, DL.truD_t, datI_ap, augN_ap, zip2_tt, zip2_ll, sPar_ap, wFz_ap, ln, d1, ii, d2]
      rfl
  · have d1 : decide ((s.length : Int) = 1) = false := decide_eq_false h1
    have p : pd s = none := by
      obtain ⟨⟨l⟩⟩ := s
      have : (⟨⟨l⟩⟩ : Str).length = l.length := rfl
      match l, this with
      | [], _ => rfl
      | [c], e => exact absurd (by rw [e]; rfl) h1
      | _ :: _ :: _, _ => rfl
    rw [p]
    simp only [f_parse_digit, sSeq_ap, sIf_ap, sRet_ap, sExpr_ap, sSet_ap, sSetO_ap, sFor_ap, sFz_ap, sFzb_ap, sAsg_ap, sSetItem_ap, sAugItem_ap, sAug_ap, sRaise_ap, sNil_ap, sBad_ap, mutO_ap, cA_ap, cNot_ap, cAnd_ap, cOr_ap, cIf_ap, cTup_ap, cLst_ap, pNone_ap, pSome_ap, wAnd_ap, wOr_ap, wNot_ap, wTru_ap, wCmp_ap, wYes_ap, iA_ap, iS_ap, aNil_ap, aCons_ap, kR_ap, b2_ap, b3_ap, c1_ap, chainD_ap, lcF_ap, datE_ap, datB_ap, ownAt_ap, endO_rt, endO_nx, endO_exc, endO_bad, bn_ok, bn_exc, bn_bad, to_ok, to_exc, to_bad, sq_nx, sq_rt, sq_bk, sq_ct, sq_exc, sq_bad, andR_ok, orR_ok, notR_ok, andV_ok, orV_ok, notV_ok, ifV_ok, truD_b, boolD_b, intD_i, tupR0, tupR1, tupR2, tupR3, tupR4, lstR0, lstR1, lstR2, lstR3, lstR4, lstR5, lstR6, lstR7, lstR8, lstR9, negD_i, slA3_l, slA3_t, tupleD_l, tupleD_t, listD_l, listD_t, revD_t, addE_ii, subD_ii, leD_ii, ltD_ii, geD_ii, gtI_ii, eqD_ii, neD_ii, isi_tup_tup, isi_tup_list, isi_tup_none, isi_tup_int, isi_tup_bool, isi_tup_str, isi_tup_dict, isi_int_int, isi_int_bool, isi_int_none, isi_int_str, isi_int_list, isi_int_tup, isi_int_dict, isi_bool_int, isi_bool_bool, isi_bool_none, isi_bool_str, isi_bool_list, isi_bool_tup, isi_bool_dict, lenD_t, lenD_l, seqD_l, seqD_t, List.getElem?_cons_zero, List.getElem?_cons_succ, List.set_cons_zero, List.set_cons_succ, ↓reduceIte, Bool.false_eq_true, Bool.not_true, Bool.not_false, sWp_ap, sWq_ap, wipeO_nx, wipeO_rt, wipeO_bk, wipeO_ct, wipeO_exc, wipeO_bad, wipeE_nil, wipeE_cons, fzE_ap, DL.ownO_l, asgO_2, DL.truD_l, DL.truD_t, datI_ap, augN_ap, zip2_tt, zip2_ll, sPar_ap, wFz_ap, ln, d1]
    rfl
theorem oD_inj (a b : Option Int) (h : oD a = oD b) : a = b := by
  cases a <;> cases b <;> first | rfl | (cases h; rfl) | (cases h)
theorem oD_ni (a : Option Int) : Ni 50 (oD a) := by
  cases a with
  | none => exact ni_none.mono (by decide)
  | some d => exact (ni_int d).mono (by decide)
theorem none_in (os : List (Option Int)) : inD .none (.list (os.map oD)) = .ok (.bool (decide (none ∈ os))) := (inEnc_l oD_inj oD_ni none os).trans (by congr)
def pAll (ts : List Str) : Option (List Int) := if none ∈ ts.map pd then none else some (ts.map fun t => (pd t).getD 0)
def pL1 (s : Str) : Option (List Int) := match Txt.split s " " with
  | [] => none
  | w :: ts => if w = "wishes" ∧ ts ≠ [] then pAll ts else none
def pT2 : List Str → Option (Int × Int × Str)
  | [a, b, w] => if w = "chosen" ∨ w = "free" then (match pd a, pd b with
    | some x, some y => some (x, y, w)
    | _, _ => none) else none
  | _ => none
theorem pT2_ne : ∀ {T : List Str}, T.length ≠ 3 → pT2 T = none
  | [], _ => rfl
  | [_], _ => rfl
  | [_, _], _ => rfl
  | [_, _, _], h => absurd rfl h
  | _ :: _ :: _ :: _ :: _, _ => rfl
def pL2 (s : Str) : Option (Int × Int × Str) := pT2 (Txt.split s " ")
def rowD1 : Option (List Int) → PyData
  | some ws => tI ws
  | none => .none
def rwD (p : Int × Int × Str) : PyData := .tuple [.int p.1, .int p.2.1, .str p.2.2]
def rowD2 : Option (Int × Int × Str) → PyData
  | some p => rwD p
  | none => .none
theorem okW : PyData.strOk "wishes" = true := by decide +kernel
theorem okC : PyData.strOk "chosen" = true := by decide +kernel
theorem okF : PyData.strOk "free" = true := by decide +kernel
theorem all_oD {ts : List Str} (h : none ∉ ts.map pd) : (ts.map pd).map oD = (ts.map fun t => (pd t).getD 0).map PyData.int := by
  rw [List.map_map, List.map_map]
  refine List.map_congr_left fun t m => ?_
  cases e : pd t with
  | none => exact absurd (List.mem_map.mpr ⟨t, m, e⟩) h
  | some d => simp [Function.comp, e, oD]
theorem split_eq {s : Str} (hl : s.length + 2 ≤ sizeLine) : splitD s (.str " ") = .ok (.list ((Txt.split s " ").map .str)) := by
  have : splitD s (.str " ") = if ((" " : Str).length == 0) = false ∧ s.length + 2 ≤ sizeLine then .ok (.list ((Txt.split s " ").map .str)) else .bad := rfl
  rw [this, if_pos ⟨by decide +kernel, hl⟩]
section
variable {s : Str} (hl : s.length + 2 ≤ sizeLine) (ok : PyData.strOk s = true)
include hl ok
theorem parse_line1 : m_parse_line [.str s, .bool true] = .ok (rowD1 (pL1 s)) := by
  rw [r_parse_line]
  have sp := split_eq hl
  have sb := split_sub tl_sp (by decide) s
  obtain ⟨_, ne, _⟩ := split_ok tl_sp (by decide) s
  have sb : ∀ p ∈ Txt.split s " ", (PyData.strOk s = true → PyData.strOk p = true) ∧ p.length ≤ s.length := sb
  have ne : Txt.split s " " ≠ [] := ne
  unfold pL1
  generalize Txt.split s " " = T at *
  cases T with
  | nil => exact absurd rfl ne
  | cons w ts =>
    have ow := (sb w List.mem_cons_self).1 ok
    have sl : slA3 (.list ((w :: ts).map .str)) (some 1) none = .ok (.list (ts.map .str)) := by
      have : slA3 (.list ((w :: ts).map PyData.str)) (some 1) none = .ok (.list (cutL ((w :: ts).map .str) (some ((1 : Nat) : Int)) none)) := rfl
      rw [this, cut_from]
      rfl
    have i0 : ixD (.list ((w :: ts).map .str)) (.int 0) = .ok (.str w) := ix_l (by decide) rfl
    have sq : seqD (.list (ts.map .str)) = .ok (ts.map .str) := rfl
    have cm := compM (ft := gN 4) (fc := wYes) (fe := ce_parse_line_1) (r0 := [.dat (.str s), .dat (.bool true), .dat (.list ((w :: ts).map .str)), .un, .un]) PyData.str (fun _ => true) (fun t => oD (pd t)) ts (by
      intro t mt
      have pe := parse_digit_eq (s := t) (by have := (sb t (List.mem_cons_of_mem _ mt)).2; omega)
      refine ⟨_, rfl, rfl, fun _ => ?_⟩
      simp only [ce_parse_line_1, sSeq_ap, sIf_ap, sRet_ap, sExpr_ap, sSet_ap, sSetO_ap, sFor_ap, sFz_ap, sFzb_ap, sAsg_ap, sSetItem_ap, sAugItem_ap, sAug_ap, sRaise_ap, sNil_ap, sBad_ap, mutO_ap, cA_ap, cNot_ap, cAnd_ap, cOr_ap, cIf_ap, cTup_ap, cLst_ap, pNone_ap, pSome_ap, wAnd_ap, wOr_ap, wNot_ap, wTru_ap, wCmp_ap, wYes_ap, iA_ap, iS_ap, aNil_ap, aCons_ap, kR_ap, b2_ap, b3_ap, c1_ap, chainD_ap, lcF_ap, datE_ap, datB_ap, ownAt_ap, endO_rt, endO_nx, endO_exc, endO_bad, bn_ok, bn_exc, bn_bad, to_ok, to_exc, to_bad, sq_nx, sq_rt, sq_bk, sq_ct, sq_exc, sq_bad, andR_ok, orR_ok, notR_ok, andV_ok, orV_ok, notV_ok, ifV_ok, truD_b, boolD_b, intD_i, tupR0, tupR1, tupR2, tupR3, tupR4, lstR0, lstR1, lstR2, lstR3, lstR4, lstR5, lstR6, lstR7, lstR8, lstR9, negD_i, slA3_l, slA3_t, tupleD_l, tupleD_t, listD_l, listD_t, revD_t, addE_ii, subD_ii, leD_ii, ltD_ii, geD_ii, gtI_ii, eqD_ii, neD_ii, isi_tup_tup, isi_tup_list, isi_tup_none, isi_tup_int, isi_tup_bool, isi_tup_str, isi_tup_dict, isi_int_int, isi_int_bool, isi_int_none, isi_int_str, isi_int_list, isi_int_tup, isi_int_dict, isi_bool_int, isi_bool_bool, isi_bool_none, isi_bool_str, isi_bool_list, isi_bool_tup, isi_bool_dict, lenD_t, lenD_l, seqD_l, seqD_t, List.getElem?_cons_zero, List.getElem?_cons_succ, List.set_cons_zero, List.set_cons_succ, ↓reduceIte, Bool.false_eq_true, Bool.not_true, Bool.not_false, sWp_ap, sWq_ap, wipeO_nx, wipeO_rt, wipeO_bk, wipeO_ct, wipeO_exc, wipeO_bad, wipeE_nil, wipeE_cons, fzE_ap, DL.ownO_l, asgO_2, DL.truD_l, DL.truD_t, datI_ap, augN_ap, zip2_tt, zip2_ll, sPar_ap, wFz_ap, pe])
    rw [filt_true] at cm
    have cm' : compL (gN 4) wYes ce_parse_line_1 [.dat (.str s), .dat (.bool true), .dat (.list ((w :: ts).map .str)), .un, .un] (ts.map .str) = .ok ((ts.map pd).map oD) := by
      rw [cm, List.map_map]
      rfl
    have nw := ne_S ow okW
    have em : ((ts.map pd).map oD).isEmpty = ts.isEmpty := by cases ts <;> rfl
    have ni := none_in (ts.map pd)
    have td : tupleD (.list ((ts.map pd).map oD)) = .ok (.tuple ((ts.map pd).map oD)) := rfl
    show _ = R.ok (rowD1 (if w = "wishes" ∧ ts ≠ [] then pAll ts else none))
    generalize (w :: ts).map PyData.str = WT at *
    by_cases c1 : w = "wishes"
    · have d1 : decide (w = "wishes") = true := decide_eq_true c1
      by_cases c2 : ts = []
      · have e2 : ts.isEmpty = true := by rw [c2]; rfl
        rw [if_neg (fun z => z.2 c2)]
        simp only [f_parse_line, sSeq_ap, sIf_ap, sRet_ap, sExpr_ap, sSet_ap, sSetO_ap, sFor_ap, sFz_ap, sFzb_ap, sAsg_ap, sSetItem_ap, sAugItem_ap, sAug_ap, sRaise_ap, sNil_ap, sBad_ap, mutO_ap, cA_ap, cNot_ap, cAnd_ap, cOr_ap, cIf_ap, cTup_ap, cLst_ap, pNone_ap, pSome_ap, wAnd_ap, wOr_ap, wNot_ap, wTru_ap, wCmp_ap, wYes_ap, iA_ap, iS_ap, aNil_ap, aCons_ap, kR_ap, b2_ap, b3_ap, c1_ap, chainD_ap, lcF_ap, datE_ap, datB_ap, ownAt_ap, endO_rt, endO_nx, endO_exc, endO_bad, bn_ok, bn_exc, bn_bad, to_ok, to_exc, to_bad, sq_nx, sq_rt, sq_bk, sq_ct, sq_exc, sq_bad, andR_ok, orR_ok, notR_ok, andV_ok, orV_ok, notV_ok, ifV_ok, truD_b, boolD_b, intD_i, tupR0, tupR1, tupR2, tupR3, tupR4, lstR0, lstR1, lstR2, lstR3, lstR4, lstR5, lstR6, lstR7, lstR8, lstR9, negD_i, slA3_l, slA3_t, tupleD_l, tupleD_t, listD_l, listD_t, revD_t, addE_ii, subD_ii, leD_ii, ltD_ii, geD_ii, gtI_ii, eqD_ii, neD_ii, isi_tup_tup, isi_tup_list, isi_tup_none, isi_tup_int, isi_tup_bool, isi_tup_str, isi_tup_dict, isi_int_int, isi_int_bool, isi_int_none, isi_int_str, isi_int_list, isi_int_tup, isi_int_dict, isi_bool_int, isi_bool_bool, isi_bool_none, isi_bool_str, isi_bool_list, isi_bool_tup, isi_bool_dict, lenD_t, lenD_l, seqD_l, seqD_t, List.getElem?_cons_zero, List.getElem?_cons_succ, List.set_cons_zero, List.set_cons_succ, ↓reduceIte, Bool.false_eq_true, Bool.not_true, Bool.not_false, sWp_ap, sWq_ap, wipeO_nx, wipeO_rt, wipeO_bk, wipeO_ct, wipeO_exc, wipeO_bad, wipeE_nil, wipeE_cons, fzE_ap, DL.ownO_l, asgO_2, DL.truD_l, DL.truD_t, datI_ap, augN_ap, zip2_tt, zip2_ll, sPar_ap, wFz_ap, m1, sp, sl, sq, cm', i0, nw, d1, em, e2]
        rfl
      · have e2 : ts.isEmpty = false := by
          cases ts with
          | nil => exact absurd rfl c2
          | cons => rfl
        rw [if_pos ⟨c1, c2⟩]
        unfold pAll
        by_cases c3 : none ∈ ts.map pd
        · have d3 : decide (none ∈ ts.map pd) = true := decide_eq_true c3
          rw [if_pos c3]
          simp only [f_parse_line, sSeq_ap, sIf_ap, sRet_ap, sExpr_ap, sSet_ap, sSetO_ap, sFor_ap, sFz_ap, sFzb_ap, sAsg_ap, sSetItem_ap, sAugItem_ap, sAug_ap, sRaise_ap, sNil_ap, sBad_ap, mutO_ap, cA_ap, cNot_ap, cAnd_ap, cOr_ap, cIf_ap, cTup_ap, cLst_ap, pNone_ap, pSome_ap, wAnd_ap, wOr_ap, wNot_ap, wTru_ap, wCmp_ap, wYes_ap, iA_ap, iS_ap, aNil_ap, aCons_ap, kR_ap, b2_ap, b3_ap, c1_ap, chainD_ap, lcF_ap, datE_ap, datB_ap, ownAt_ap, endO_rt, endO_nx, endO_exc, endO_bad, bn_ok, bn_exc, bn_bad, to_ok, to_exc, to_bad, sq_nx, sq_rt, sq_bk, sq_ct, sq_exc, sq_bad, andR_ok, orR_ok, notR_ok, andV_ok, orV_ok, notV_ok, ifV_ok, truD_b, boolD_b, intD_i, tupR0, tupR1, tupR2, tupR3, tupR4, lstR0, lstR1, lstR2, lstR3, lstR4, lstR5, lstR6, lstR7, lstR8, lstR9, negD_i, slA3_l, slA3_t, tupleD_l, tupleD_t, listD_l, listD_t, revD_t, addE_ii, subD_ii, leD_ii, ltD_ii, geD_ii, gtI_ii, eqD_ii, neD_ii, isi_tup_tup, isi_tup_list, isi_tup_none, isi_tup_int, isi_tup_bool, isi_tup_str, isi_tup_dict, isi_int_int, isi_int_bool, isi_int_none, isi_int_str, isi_int_list, isi_int_tup, isi_int_dict, isi_bool_int, isi_bool_bool, isi_bool_none, isi_bool_str, isi_bool_list, isi_bool_tup, isi_bool_dict, lenD_t, lenD_l, seqD_l, seqD_t, List.getElem?_cons_zero, List.getElem?_cons_succ, List.set_cons_zero, List.set_cons_succ, ↓reduceIte, Bool.false_eq_true, Bool.not_true, Bool.not_false, sWp_ap, sWq_ap, wipeO_nx, wipeO_rt, wipeO_bk, wipeO_ct, wipeO_exc, wipeO_bad, wipeE_nil, wipeE_cons, fzE_ap, DL.ownO_l, asgO_2, DL.truD_l, DL.truD_t, datI_ap, augN_ap, zip2_tt, zip2_ll, sPar_ap, wFz_ap, m1, sp, sl, sq, cm', i0, nw, d1, em, e2, ni, d3]
          rfl
        · have d3 : decide (none ∈ ts.map pd) = false := decide_eq_false c3
          rw [if_neg c3]
          simp only [f_parse_line, sSeq_ap, sIf_ap, sRet_ap, sExpr_ap, sSet_ap, sSetO_ap, sFor_ap, sFz_ap, sFzb_ap, sAsg_ap, sSetItem_ap, sAugItem_ap, sAug_ap, sRaise_ap, sNil_ap, sBad_ap, mutO_ap, cA_ap, cNot_ap, cAnd_ap, cOr_ap, cIf_ap, cTup_ap, cLst_ap, pNone_ap, pSome_ap, wAnd_ap, wOr_ap, wNot_ap, wTru_ap, wCmp_ap, wYes_ap, iA_ap, iS_ap, aNil_ap, aCons_ap, kR_ap, b2_ap, b3_ap, c1_ap, chainD_ap, lcF_ap, datE_ap, datB_ap, ownAt_ap, endO_rt, endO_nx, endO_exc, endO_bad, bn_ok, bn_exc, bn_bad, to_ok, to_exc, to_bad, sq_nx, sq_rt, sq_bk, sq_ct, sq_exc, sq_bad, andR_ok, orR_ok, notR_ok, andV_ok, orV_ok, notV_ok, ifV_ok, truD_b, boolD_b, intD_i, tupR0, tupR1, tupR2, tupR3, tupR4, lstR0, lstR1, lstR2, lstR3, lstR4, lstR5, lstR6, lstR7, lstR8, lstR9, negD_i, slA3_l, slA3_t, tupleD_l, tupleD_t, listD_l, listD_t, revD_t, addE_ii, subD_ii, leD_ii, ltD_ii, geD_ii, gtI_ii, eqD_ii, neD_ii, isi_tup_tup, isi_tup_list, isi_tup_none, isi_tup_int, isi_tup_bool, isi_tup_str, isi_tup_dict, isi_int_int, isi_int_bool, isi_int_none, isi_int_str, isi_int_list, isi_int_tup, isi_int_dict, isi_bool_int, isi_bool_bool, isi_bool_none, isi_bool_str, isi_bool_list, isi_bool_tup, isi_bool_dict, lenD_t, lenD_l, seqD_l, seqD_t, List.getElem?_cons_zero, List.getElem?_cons_succ, List.set_cons_zero, List.set_cons_succ, ↓reduceIte, Bool.false_eq_true, Bool.not_true, Bool.not_false, sWp_ap, sWq_ap, wipeO_nx, wipeO_rt, wipeO_bk, wipeO_ct, wipeO_exc, wipeO_bad, wipeE_nil, wipeE_cons, fzE_ap, DL.ownO_l, asgO_2, DL.truD_l, DL.truD_t, datI_ap, augN_ap, zip2_tt, zip2_ll, sPar_ap, wFz_ap, m1, sp, sl, sq, cm', i0, nw, d1, em, e2, ni, d3, td]
          rw [all_oD c3]
          rfl
    · have d1 : decide (w = "wishes") = false := decide_eq_false c1
      rw [if_neg (fun z => c1 z.1)]
      simp only [f_parse_line, sSeq_ap, sIf_ap, sRet_ap, sExpr_ap, sSet_ap, sSetO_ap, sFor_ap, sFz_ap, sFzb_ap, sAsg_ap, sSetItem_ap, sAugItem_ap, sAug_ap, sRaise_ap, sNil_ap, sBad_ap, mutO_ap, cA_ap, cNot_ap, cAnd_ap, cOr_ap, cIf_ap, cTup_ap, cLst_ap, pNone_ap, pSome_ap, wAnd_ap, wOr_ap, wNot_ap, wTru_ap, wCmp_ap, wYes_ap, iA_ap, iS_ap, aNil_ap, aCons_ap, kR_ap, b2_ap, b3_ap, c1_ap, chainD_ap, lcF_ap, datE_ap, datB_ap, ownAt_ap, endO_rt, endO_nx, endO_exc, endO_bad, bn_ok, bn_exc, bn_bad, to_ok, to_exc, to_bad, sq_nx, sq_rt, sq_bk, sq_ct, sq_exc, sq_bad, andR_ok, orR_ok, notR_ok, andV_ok, orV_ok, notV_ok, ifV_ok, truD_b, boolD_b, intD_i, tupR0, tupR1, tupR2, tupR3, tupR4, lstR0, lstR1, lstR2, lstR3, lstR4, lstR5, lstR6, lstR7, lstR8, lstR9, negD_i, slA3_l, slA3_t, tupleD_l, tupleD_t, listD_l, listD_t, revD_t, addE_ii, subD_ii, leD_ii, ltD_ii, geD_ii, gtI_ii, eqD_ii, neD_ii, isi_tup_tup, isi_tup_list, isi_tup_none, isi_tup_int, isi_tup_bool, isi_tup_str, isi_tup_dict, isi_int_int, isi_int_bool, isi_int_none, isi_int_str, isi_int_list, isi_int_tup, isi_int_dict, isi_bool_int, isi_bool_bool, isi_bool_none, isi_bool_str, isi_bool_list, isi_bool_tup, isi_bool_dict, lenD_t, lenD_l, seqD_l, seqD_t, List.getElem?_cons_zero, List.getElem?_cons_succ, List.set_cons_zero, List.set_cons_succ, ↓reduceIte, Bool.false_eq_true, Bool.not_true, Bool.not_false, sWp_ap, sWq_ap, wipeO_nx, wipeO_rt, wipeO_bk, wipeO_ct, wipeO_exc, wipeO_bad, wipeE_nil, wipeE_cons, fzE_ap, DL.ownO_l, asgO_2, DL.truD_l, DL.truD_t, datI_ap, augN_ap, zip2_tt, zip2_ll, sPar_ap, wFz_ap, m1, sp, sl, sq, cm', i0, nw, d1]
      rfl
theorem parse_line2 : m_parse_line [.str s, .bool false] = .ok (rowD2 (pL2 s)) := by
  rw [r_parse_line]
  have sp := split_eq hl
  have sb := split_sub tl_sp (by decide) s
  have sb : ∀ p ∈ Txt.split s " ", (PyData.strOk s = true → PyData.strOk p = true) ∧ p.length ≤ s.length := sb
  have ct : (Txt.split s " ").length ≤ s.length + 1 := split_cnt tl_sp (by decide) s
  unfold pL2
  generalize Txt.split s " " = T at *
  have ln : lenD (.list (T.map PyData.str)) = .ok (.int (T.length : Int)) := by
    have : lenD (.list (T.map PyData.str)) = .ok (.int ((T.map PyData.str).length : Int)) := rfl
    rw [this, List.length_map]
  by_cases h3 : T.length = 3
  · obtain ⟨a, b, w, rfl⟩ : ∃ a b w, T = [a, b, w] := by
      match T, h3 with
      | [a, b, w], _ => exact ⟨a, b, w, rfl⟩
    have d3 : decide ((([a, b, w] : List Str).length : Int) = 3) = true := rfl
    have ow := (sb w (by simp)).1 ok
    have i2 : ixD (.list ([a, b, w].map .str)) (.int 2) = .ok (.str w) := ix_l (by decide) rfl
    have nw := nin_S2 ow okC okF
    have sl : slA3 (.list ([a, b, w].map .str)) none (some 2) = .ok (.list ([a, b].map .str)) := rfl
    have sq : seqD (.list ([a, b].map .str)) = .ok ([a, b].map .str) := rfl
    have cm := compM (ft := gN 4) (fc := wYes) (fe := ce_parse_line_2) (r0 := [.dat (.str s), .dat (.bool false), .dat (.list ([a, b, w].map .str)), .un, .un]) PyData.str (fun _ => true) (fun t => oD (pd t)) [a, b] (by
      intro t mt
      have pe := parse_digit_eq (s := t) (by
        have := (sb t (by simp only [List.mem_cons, List.not_mem_nil, or_false] at mt ⊢; rcases mt with h | h <;> simp [h])).2
        omega)
      refine ⟨_, rfl, rfl, fun _ => ?_⟩
      simp only [ce_parse_line_2, sSeq_ap, sIf_ap, sRet_ap, sExpr_ap, sSet_ap, sSetO_ap, sFor_ap, sFz_ap, sFzb_ap, sAsg_ap, sSetItem_ap, sAugItem_ap, sAug_ap, sRaise_ap, sNil_ap, sBad_ap, mutO_ap, cA_ap, cNot_ap, cAnd_ap, cOr_ap, cIf_ap, cTup_ap, cLst_ap, pNone_ap, pSome_ap, wAnd_ap, wOr_ap, wNot_ap, wTru_ap, wCmp_ap, wYes_ap, iA_ap, iS_ap, aNil_ap, aCons_ap, kR_ap, b2_ap, b3_ap, c1_ap, chainD_ap, lcF_ap, datE_ap, datB_ap, ownAt_ap, endO_rt, endO_nx, endO_exc, endO_bad, bn_ok, bn_exc, bn_bad, to_ok, to_exc, to_bad, sq_nx, sq_rt, sq_bk, sq_ct, sq_exc, sq_bad, andR_ok, orR_ok, notR_ok, andV_ok, orV_ok, notV_ok, ifV_ok, truD_b, boolD_b, intD_i, tupR0, tupR1, tupR2, tupR3, tupR4, lstR0, lstR1, lstR2, lstR3, lstR4, lstR5, lstR6, lstR7, lstR8, lstR9, negD_i, slA3_l, slA3_t, tupleD_l, tupleD_t, listD_l, listD_t, revD_t, addE_ii, subD_ii, leD_ii, ltD_ii, geD_ii, gtI_ii, eqD_ii, neD_ii, isi_tup_tup, isi_tup_list, isi_tup_none, isi_tup_int, isi_tup_bool, isi_tup_str, isi_tup_dict, isi_int_int, isi_int_bool, isi_int_none, isi_int_str, isi_int_list, isi_int_tup, isi_int_dict, isi_bool_int, isi_bool_bool, isi_bool_none, isi_bool_str, isi_bool_list, isi_bool_tup, isi_bool_dict, lenD_t, lenD_l, seqD_l, seqD_t, List.getElem?_cons_zero, List.getElem?_cons_succ, List.set_cons_zero, List.set_cons_succ, ↓reduceIte, Bool.false_eq_true, Bool.not_true, Bool.not_false, sWp_ap, sWq_ap, wipeO_nx, wipeO_rt, wipeO_bk, wipeO_ct, wipeO_exc, wipeO_bad, wipeE_nil, wipeE_cons, fzE_ap, DL.ownO_l, asgO_2, DL.truD_l, DL.truD_t, datI_ap, augN_ap, zip2_tt, zip2_ll, sPar_ap, wFz_ap, pe])
    rw [filt_true] at cm
    have cm' : compL (gN 4) wYes ce_parse_line_2 [.dat (.str s), .dat (.bool false), .dat (.list ([a, b, w].map .str)), .un, .un] ([a, b].map .str) = .ok ([pd a, pd b].map oD) := cm
    have ni := none_in [pd a, pd b]
    have j0 : ixD (.list ([pd a, pd b].map oD)) (.int 0) = .ok (oD (pd a)) := ix_l (by decide) rfl
    have j1 : ixD (.list ([pd a, pd b].map oD)) (.int 1) = .ok (oD (pd b)) := ix_l (by decide) rfl
    show _ = R.ok (rowD2 (if w = "chosen" ∨ w = "free" then (match pd a, pd b with
      | some x, some y => some (x, y, w)
      | _, _ => none) else none))
    generalize [a, b, w].map PyData.str = WT at *
    generalize [a, b].map PyData.str = WU at *
    by_cases c : w = "chosen" ∨ w = "free"
    · have dc : (decide (w = "chosen") || decide (w = "free")) = true := by
        rw [Bool.or_eq_true, decide_eq_true_iff, decide_eq_true_iff]
        exact c
      rw [if_pos c]
      cases ea : pd a with
      | none =>
        have dn : decide (none ∈ [pd a, pd b]) = true := decide_eq_true (by rw [ea]; simp)
        simp only [f_parse_line, sSeq_ap, sIf_ap, sRet_ap, sExpr_ap, sSet_ap, sSetO_ap, sFor_ap, sFz_ap, sFzb_ap, sAsg_ap, sSetItem_ap, sAugItem_ap, sAug_ap, sRaise_ap, sNil_ap, sBad_ap, mutO_ap, cA_ap, cNot_ap, cAnd_ap, cOr_ap, cIf_ap, cTup_ap, cLst_ap, pNone_ap, pSome_ap, wAnd_ap, wOr_ap, wNot_ap, wTru_ap, wCmp_ap, wYes_ap, iA_ap, iS_ap, aNil_ap, aCons_ap, kR_ap, b2_ap, b3_ap, c1_ap, chainD_ap, lcF_ap, datE_ap, datB_ap, ownAt_ap, endO_rt, endO_nx, endO_exc, endO_bad, bn_ok, bn_exc, bn_bad, to_ok, to_exc, to_bad, sq_nx, sq_rt, sq_bk, sq_ct, sq_exc, sq_bad, andR_ok, orR_ok, notR_ok, andV_ok, orV_ok, notV_ok, ifV_ok, truD_b, boolD_b, intD_i, tupR0, tupR1, tupR2, tupR3, tupR4, lstR0, lstR1, lstR2, lstR3, lstR4, lstR5, lstR6, lstR7, lstR8, lstR9, negD_i, slA3_l, slA3_t, tupleD_l, tupleD_t, listD_l, listD_t, revD_t, addE_ii, subD_ii, leD_ii, ltD_ii, geD_ii, gtI_ii, eqD_ii, neD_ii, isi_tup_tup, isi_tup_list, isi_tup_none, isi_tup_int, isi_tup_bool, isi_tup_str, isi_tup_dict, isi_int_int, isi_int_bool, isi_int_none, isi_int_str, isi_int_list, isi_int_tup, isi_int_dict, isi_bool_int, isi_bool_bool, isi_bool_none, isi_bool_str, isi_bool_list, isi_bool_tup, isi_bool_dict, lenD_t, lenD_l, seqD_l, seqD_t, List.getElem?_cons_zero, List.getElem?_cons_succ, List.set_cons_zero, List.set_cons_succ, ↓reduceIte, Bool.false_eq_true, Bool.not_true, Bool.not_false, sWp_ap, sWq_ap, wipeO_nx, wipeO_rt, wipeO_bk, wipeO_ct, wipeO_exc, wipeO_bad, wipeE_nil, wipeE_cons, fzE_ap, DL.ownO_l, asgO_2, DL.truD_l, DL.truD_t, datI_ap, augN_ap, zip2_tt, zip2_ll, sPar_ap, wFz_ap, m1, sp, ln, d3, i2, nw, dc, sl, sq, cm', ni, dn]
        rfl
      | some x =>
        cases eb : pd b with
        | none =>
          have dn : decide (none ∈ [pd a, pd b]) = true := decide_eq_true (by rw [eb]; simp)
          simp only [f_parse_line, sSeq_ap, sIf_ap, sRet_ap, sExpr_ap, sSet_ap, sSetO_ap, sFor_ap, sFz_ap, sFzb_ap, sAsg_ap, sSetItem_ap, sAugItem_ap, sAug_ap, sRaise_ap, sNil_ap, sBad_ap, mutO_ap, cA_ap, cNot_ap, cAnd_ap, cOr_ap, cIf_ap, cTup_ap, cLst_ap, pNone_ap, pSome_ap, wAnd_ap, wOr_ap, wNot_ap, wTru_ap, wCmp_ap, wYes_ap, iA_ap, iS_ap, aNil_ap, aCons_ap, kR_ap, b2_ap, b3_ap, c1_ap, chainD_ap, lcF_ap, datE_ap, datB_ap, ownAt_ap, endO_rt, endO_nx, endO_exc, endO_bad, bn_ok, bn_exc, bn_bad, to_ok, to_exc, to_bad, sq_nx, sq_rt, sq_bk, sq_ct, sq_exc, sq_bad, andR_ok, orR_ok, notR_ok, andV_ok, orV_ok, notV_ok, ifV_ok, truD_b, boolD_b, intD_i, tupR0, tupR1, tupR2, tupR3, tupR4, lstR0, lstR1, lstR2, lstR3, lstR4, lstR5, lstR6, lstR7, lstR8, lstR9, negD_i, slA3_l, slA3_t, tupleD_l, tupleD_t, listD_l, listD_t, revD_t, addE_ii, subD_ii, leD_ii, ltD_ii, geD_ii, gtI_ii, eqD_ii, neD_ii, isi_tup_tup, isi_tup_list, isi_tup_none, isi_tup_int, isi_tup_bool, isi_tup_str, isi_tup_dict, isi_int_int, isi_int_bool, isi_int_none, isi_int_str, isi_int_list, isi_int_tup, isi_int_dict, isi_bool_int, isi_bool_bool, isi_bool_none, isi_bool_str, isi_bool_list, isi_bool_tup, isi_bool_dict, lenD_t, lenD_l, seqD_l, seqD_t, List.getElem?_cons_zero, List.getElem?_cons_succ, List.set_cons_zero, List.set_cons_succ, ↓reduceIte, Bool.false_eq_true, Bool.not_true, Bool.not_false, sWp_ap, sWq_ap, wipeO_nx, wipeO_rt, wipeO_bk, wipeO_ct, wipeO_exc, wipeO_bad, wipeE_nil, wipeE_cons, fzE_ap, DL.ownO_l, asgO_2, DL.truD_l, DL.truD_t, datI_ap, augN_ap, zip2_tt, zip2_ll, sPar_ap, wFz_ap, m1, sp, ln, d3, i2, nw, dc, sl, sq, cm', ni, dn]
          rfl
        | some y =>
          have dn : decide (none ∈ [pd a, pd b]) = false := decide_eq_false (by rw [ea, eb]; simp)
          simp only [f_parse_line, sSeq_ap, sIf_ap, sRet_ap, sExpr_ap, sSet_ap, sSetO_ap, sFor_ap, sFz_ap, sFzb_ap, sAsg_ap, sSetItem_ap, sAugItem_ap, sAug_ap, sRaise_ap, sNil_ap, sBad_ap, mutO_ap, cA_ap, cNot_ap, cAnd_ap, cOr_ap, cIf_ap, cTup_ap, cLst_ap, pNone_ap, pSome_ap, wAnd_ap, wOr_ap, wNot_ap, wTru_ap, wCmp_ap, wYes_ap, iA_ap, iS_ap, aNil_ap, aCons_ap, kR_ap, b2_ap, b3_ap, c1_ap, chainD_ap, lcF_ap, datE_ap, datB_ap, ownAt_ap, endO_rt, endO_nx, endO_exc, endO_bad, bn_ok, bn_exc, bn_bad, to_ok, to_exc, to_bad, sq_nx, sq_rt, sq_bk, sq_ct, sq_exc, sq_bad, andR_ok, orR_ok, notR_ok, andV_ok, orV_ok, notV_ok, ifV_ok, truD_b, boolD_b, intD_i, tupR0, tupR1, tupR2, tupR3, tupR4, lstR0, lstR1, lstR2, lstR3, lstR4, lstR5, lstR6, lstR7, lstR8, lstR9, negD_i, slA3_l, slA3_t, tupleD_l, tupleD_t, listD_l, listD_t, revD_t, addE_ii, subD_ii, leD_ii, ltD_ii, geD_ii, gtI_ii, eqD_ii, neD_ii, isi_tup_tup, isi_tup_list, isi_tup_none, isi_tup_int, isi_tup_bool, isi_tup_str, isi_tup_dict, isi_int_int, isi_int_bool, isi_int_none, isi_int_str, isi_int_list, isi_int_tup, isi_int_dict, isi_bool_int, isi_bool_bool, isi_bool_none, isi_bool_str, isi_bool_list, isi_bool_tup, isi_bool_dict, lenD_t, lenD_l, seqD_l, seqD_t, List.getElem?_cons_zero, List.getElem?_cons_succ, List.set_cons_zero, List.set_cons_succ, ↓reduceIte, Bool.false_eq_true, Bool.not_true, Bool.not_false, sWp_ap, sWq_ap, wipeO_nx, wipeO_rt, wipeO_bk, wipeO_ct, wipeO_exc, wipeO_bad, wipeE_nil, wipeE_cons, fzE_ap, DL.ownO_l, asgO_2, DL.truD_l, DL.truD_t, datI_ap, augN_ap, zip2_tt, zip2_ll, sPar_ap, wFz_ap, m1, sp, ln, d3, i2, nw, dc, sl, sq, cm', ni, dn, j0, j1]
          rw [ea, eb]
          rfl
    · have dc : (decide (w = "chosen") || decide (w = "free")) = false := by
        rw [Bool.or_eq_false_iff, decide_eq_false_iff_not, decide_eq_false_iff_not]
        exact ⟨fun z => c (.inl z), fun z => c (.inr z)⟩
      rw [if_neg c]
      simp only [f_parse_line, sSeq_ap, sIf_ap, sRet_ap, sExpr_ap, sSet_ap, sSetO_ap, sFor_ap, sFz_ap, sFzb_ap, sAsg_ap, sSetItem_ap, sAugItem_ap, sAug_ap, sRaise_ap, sNil_ap, sBad_ap, mutO_ap, cA_ap, cNot_ap, cAnd_ap, cOr_ap, cIf_ap, cTup_ap, cLst_ap, pNone_ap, pSome_ap, wAnd_ap, wOr_ap, wNot_ap, wTru_ap, wCmp_ap, wYes_ap, iA_ap, iS_ap, aNil_ap, aCons_ap, kR_ap, b2_ap, b3_ap, c1_ap, chainD_ap, lcF_ap, datE_ap, datB_ap, ownAt_ap, endO_rt, endO_nx, endO_exc, endO_bad, bn_ok, bn_exc, bn_bad, to_ok, to_exc, to_bad, sq_nx, sq_rt, sq_bk, sq_ct, sq_exc, sq_bad, andR_ok, orR_ok, notR_ok, andV_ok, orV_ok, notV_ok, ifV_ok, truD_b, boolD_b, intD_i, tupR0, tupR1, tupR2, tupR3, tupR4, lstR0, lstR1, lstR2, lstR3, lstR4, lstR5, lstR6, lstR7, lstR8, lstR9, negD_i, slA3_l, slA3_t, tupleD_l, tupleD_t, listD_l, listD_t, revD_t, addE_ii, subD_ii, leD_ii, ltD_ii, geD_ii, gtI_ii, eqD_ii, neD_ii, isi_tup_tup, isi_tup_list, isi_tup_none, isi_tup_int, isi_tup_bool, isi_tup_str, isi_tup_dict, isi_int_int, isi_int_bool, isi_int_none, isi_int_str, isi_int_list, isi_int_tup, isi_int_dict, isi_bool_int, isi_bool_bool, isi_bool_none, isi_bool_str, isi_bool_list, isi_bool_tup, isi_bool_dict, lenD_t, lenD_l, seqD_l, seqD_t, List.getElem?_cons_zero, List.getElem?_cons_succ, List.set_cons_zero, List.set_cons_succ, ↓reduceIte, Bool.false_eq_true, Bool.not_true, Bool.not_false, sWp_ap, sWq_ap, wipeO_nx, wipeO_rt, wipeO_bk, wipeO_ct, wipeO_exc, wipeO_bad, wipeE_nil, wipeE_cons, fzE_ap, DL.ownO_l, asgO_2, DL.truD_l, DL.truD_t, datI_ap, augN_ap, zip2_tt, zip2_ll, sPar_ap, wFz_ap, m1, sp, ln, d3, i2, nw, dc]
      rfl
  · have d3 : decide ((T.length : Int) = 3) = false := decide_eq_false (by omega)
    rw [pT2_ne h3]
    simp only [f_parse_line, sSeq_ap, sIf_ap, sRet_ap, sExpr_ap, sSet_ap, sSetO_ap, sFor_ap, sFz_ap, sFzb_ap, sAsg_ap, sSetItem_ap, sAugItem_ap, sAug_ap, sRaise_ap, sNil_ap, sBad_ap, mutO_ap, cA_ap, cNot_ap, cAnd_ap, cOr_ap, cIf_ap, cTup_ap, cLst_ap, pNone_ap, pSome_ap, wAnd_ap, wOr_ap, wNot_ap, wTru_ap, wCmp_ap, wYes_ap, iA_ap, iS_ap, aNil_ap, aCons_ap, kR_ap, b2_ap, b3_ap, c1_ap, chainD_ap, lcF_ap, datE_ap, datB_ap, ownAt_ap, endO_rt, endO_nx, endO_exc, endO_bad, bn_ok, bn_exc, bn_bad, to_ok, to_exc, to_bad, sq_nx, sq_rt, sq_bk, sq_ct, sq_exc, sq_bad, andR_ok, orR_ok, notR_ok, andV_ok, orV_ok, notV_ok, ifV_ok, truD_b, boolD_b, intD_i, tupR0, tupR1, tupR2, tupR3, tupR4, lstR0, lstR1, lstR2, lstR3, lstR4, lstR5, lstR6, lstR7, lstR8, lstR9, negD_i, slA3_l, slA3_t, tupleD_l, tupleD_t, listD_l, listD_t, revD_t, addE_ii, subD_ii, leD_ii, ltD_ii, geD_ii, gtI_ii, eqD_ii, neD_ii, isi_tup_tup, isi_tup_list, isi_tup_none, isi_tup_int, isi_tup_bool, isi_tup_str, isi_tup_dict, isi_int_int, isi_int_bool, isi_int_none, isi_int_str, isi_int_list, isi_int_tup, isi_int_dict, isi_bool_int, isi_bool_bool, isi_bool_none, isi_bool_str, isi_bool_list, isi_bool_tup, isi_bool_dict, lenD_t, lenD_l, seqD_l, seqD_t, List.getElem?_cons_zero, List.getElem?_cons_succ, List.set_cons_zero, List.set_cons_succ, ↓reduceIte, Bool.false_eq_true, Bool.not_true, Bool.not_false, sWp_ap, sWq_ap, wipeO_nx, wipeO_rt, wipeO_bk, wipeO_ct, wipeO_exc, wipeO_bad, wipeE_nil, wipeE_cons, fzE_ap, DL.ownO_l, asgO_2, DL.truD_l, DL.truD_t, datI_ap, augN_ap, zip2_tt, zip2_ll, sPar_ap, wFz_ap, m1, sp, ln, d3]
    rfl
end
/-- a loop that goes on or raises -/
theorem forEx {α β : Type} {ft : PyData → En → Option En} {fb : En → O} (enc : α → PyData) (st : β → En) (step : β → α → β) (bad : α → Bool) (c : Str) (fs : α → Option (List (Str × PyData))) (J : β → List α → Prop) : ∀ (xs : List α) (b : β),
    (∀ b x t, J b (x :: t) → ∃ r1, ft (enc x) (st b) = some r1 ∧ (bad x = false → fb r1 = .nx (st (step b x)) ∧ J (step b x) t) ∧ (bad x = true → ∃ r', fb r1 = .exc c (fs x) r')) → J b xs →
    (xs.find? bad = none → forL ft fb (xs.map enc) (st b) = .nx (st (xs.foldl step b))) ∧ ∀ x, xs.find? bad = some x → ∃ r', forL ft fb (xs.map enc) (st b) = .exc c (fs x) r'
  | [], b, _, h => ⟨fun _ => rfl, fun x e => by cases e⟩
  | x :: t, b, hs, h => by
    obtain ⟨r1, h1, h2, h3⟩ := hs b x t h
    rw [List.map_cons, forL, h1, List.find?_cons]
    cases e : bad x with
    | false =>
      obtain ⟨k1, k2⟩ := h2 e
      obtain ⟨i1, i2⟩ := forEx enc st step bad c fs J t (step b x) hs k2
      refine ⟨fun z => ?_, fun y z => ?_⟩
      · show (match fb r1 with
          | .nx r2 => forL ft fb (t.map enc) r2
          | .ct r2 => forL ft fb (t.map enc) r2
          | .bk r2 => .nx r2
          | .rt d => .rt d
          | .exc c fs r2 => .exc c fs r2
          | .bad => .bad) = _
        rw [k1]
        exact i1 z
      · obtain ⟨r', i2⟩ := i2 y z
        refine ⟨r', ?_⟩
        show (match fb r1 with
          | .nx r2 => forL ft fb (t.map enc) r2
          | .ct r2 => forL ft fb (t.map enc) r2
          | .bk r2 => .nx r2
          | .rt d => .rt d
          | .exc c fs r2 => .exc c fs r2
          | .bad => .bad) = _
        rw [k1]
        exact i2
    | true =>
      obtain ⟨r', k⟩ := h3 e
      refine ⟨fun z => (by simp at z), fun y z => ?_⟩
      obtain rfl : x = y := by simpa using z
      refine ⟨r', ?_⟩
      show (match fb r1 with
        | .nx r2 => forL ft fb (t.map enc) r2
        | .ct r2 => forL ft fb (t.map enc) r2
        | .bk r2 => .nx r2
        | .rt d => .rt d
        | .exc c fs r2 => .exc c fs r2
        | .bad => .bad) = _
      rw [k]
/-! ### all lines -/
def rw1 (p : Str × Nat) : PyData := if p.2 = 0 then rowD1 (pL1 p.1) else rowD2 (pL2 p.1)
def bd (p : Str × Nat) : Bool := isN (rw1 p)
def eN (p : Str × Nat) : PyData := .tuple [.int (p.2 : Int), .str p.1]
theorem enum_str (L : List Str) : enumL (L.map .str) = (L.zipIdx).map eN := by
  unfold enumL
  rw [List.zipIdx_map, List.map_map]
  rfl
theorem loop_eq {t : Str} {L : List Str} (hL : ∀ s ∈ L, s.length + 2 ≤ sizeLine ∧ PyData.strOk s = true) (hn : L.length ≤ 5000) :
    (L.zipIdx.find? bd = none → forL (gT (gsC (gN 2) (gsC (gN 3) gsN))) b_parse_choice_1 (L.zipIdx.map eN) [.dat (.str t), .own [], .un, .un, .un, .un] = .nx [.dat (.str t), .own (L.zipIdx.map rw1), .un, .un, .un, .un]) ∧
      ∀ p, L.zipIdx.find? bd = some p → ∃ r', forL (gT (gsC (gN 2) (gsC (gN 3) gsN))) b_parse_choice_1 (L.zipIdx.map eN) [.dat (.str t), .own [], .un, .un, .un, .un] = .exc "ParseError" (some [("line", .int (p.2 : Int))]) r' := by
  have sz := sz1000000
  have lp := forEx (ft := gT (gsC (gN 2) (gsC (gN 3) gsN))) (fb := b_parse_choice_1) eN (fun rows : List PyData => [.dat (.str t), .own rows, .un, .un, .un, .un]) (fun rows p => rows ++ [rw1 p]) bd "ParseError" (fun p => some [("line", .int (p.2 : Int))]) (fun rows u => rows.length + u.length ≤ 5000 ∧ ∀ p ∈ u, p.1 ∈ L) L.zipIdx [] (by
    rintro rows ⟨x, n⟩ u ⟨h1, h2⟩
    rw [List.length_cons] at h1
    obtain ⟨l1, l2⟩ := hL x (h2 (x, n) List.mem_cons_self)
    have pl : m_parse_line [.str x, .bool (decide ((n : Int) = 0))] = .ok (rw1 (x, n)) := by
      unfold rw1
      by_cases c : n = 0
      · rw [decide_eq_true (by omega), if_pos c]
        exact parse_line1 l1 l2
      · rw [decide_eq_false (by omega), if_neg c]
        exact parse_line2 l1 l2
    have isn : isNoneD (rw1 (x, n)) .none = .ok (.bool (bd (x, n))) := rfl
    refine ⟨[.dat (.str t), .own rows, .dat (.int (n : Int)), .dat (.str x), .un, .un], rfl, fun e => ⟨?_, by rw [List.length_append]; simp; omega, fun p m => h2 p (List.mem_cons_of_mem _ m)⟩, fun e => ⟨[.dat (.str t), .own rows, .dat (.int (n : Int)), .dat (.str x), .dat (rw1 (x, n)), .un], ?_⟩⟩
    · rw [e] at isn
      have ga : gApp rows [rw1 (x, n)] = some (rows ++ [rw1 (x, n)]) := gApp_ok (by omega)
      simp only [b_parse_choice_1, sSeq_ap, sIf_ap, sRet_ap, sExpr_ap, sSet_ap, sSetO_ap, sFor_ap, sFz_ap, sFzb_ap, sAsg_ap, sSetItem_ap, sAugItem_ap, sAug_ap, sRaise_ap, sNil_ap, sBad_ap, mutO_ap, cA_ap, cNot_ap, cAnd_ap, cOr_ap, cIf_ap, cTup_ap, cLst_ap, pNone_ap, pSome_ap, wAnd_ap, wOr_ap, wNot_ap, wTru_ap, wCmp_ap, wYes_ap, iA_ap, iS_ap, aNil_ap, aCons_ap, kR_ap, b2_ap, b3_ap, c1_ap, chainD_ap, lcF_ap, datE_ap, datB_ap, ownAt_ap, endO_rt, endO_nx, endO_exc, endO_bad, bn_ok, bn_exc, bn_bad, to_ok, to_exc, to_bad, sq_nx, sq_rt, sq_bk, sq_ct, sq_exc, sq_bad, andR_ok, orR_ok, notR_ok, andV_ok, orV_ok, notV_ok, ifV_ok, truD_b, boolD_b, intD_i, tupR0, tupR1, tupR2, tupR3, tupR4, lstR0, lstR1, lstR2, lstR3, lstR4, lstR5, lstR6, lstR7, lstR8, lstR9, negD_i, slA3_l, slA3_t, tupleD_l, tupleD_t, listD_l, listD_t, revD_t, addE_ii, subD_ii, leD_ii, ltD_ii, geD_ii, gtI_ii, eqD_ii, neD_ii, isi_tup_tup, isi_tup_list, isi_tup_none, isi_tup_int, isi_tup_bool, isi_tup_str, isi_tup_dict, isi_int_int, isi_int_bool, isi_int_none, isi_int_str, isi_int_list, isi_int_tup, isi_int_dict, isi_bool_int, isi_bool_bool, isi_bool_none, isi_bool_str, isi_bool_list, isi_bool_tup, isi_bool_dict, lenD_t, lenD_l, seqD_l, seqD_t, List.getElem?_cons_zero, List.getElem?_cons_succ, List.set_cons_zero, List.set_cons_succ, ↓reduceIte, Bool.false_eq_true, Bool.not_true, Bool.not_false, sWp_ap, sWq_ap, wipeO_nx, wipeO_rt, wipeO_bk, wipeO_ct, wipeO_exc, wipeO_bad, wipeE_nil, wipeE_cons, fzE_ap, DL.ownO_l, asgO_2, DL.truD_l, DL.truD_t, datI_ap, augN_ap, zip2_tt, zip2_ll, sPar_ap, wFz_ap, pl, isn, ga]
    · rw [e] at isn
      simp only [b_parse_choice_1, sSeq_ap, sIf_ap, sRet_ap, sExpr_ap, sSet_ap, sSetO_ap, sFor_ap, sFz_ap, sFzb_ap, sAsg_ap, sSetItem_ap, sAugItem_ap, sAug_ap, sRaise_ap, sNil_ap, sBad_ap, mutO_ap, cA_ap, cNot_ap, cAnd_ap, cOr_ap, cIf_ap, cTup_ap, cLst_ap, pNone_ap, pSome_ap, wAnd_ap, wOr_ap, wNot_ap, wTru_ap, wCmp_ap, wYes_ap, iA_ap, iS_ap, aNil_ap, aCons_ap, kR_ap, b2_ap, b3_ap, c1_ap, chainD_ap, lcF_ap, datE_ap, datB_ap, ownAt_ap, endO_rt, endO_nx, endO_exc, endO_bad, bn_ok, bn_exc, bn_bad, to_ok, to_exc, to_bad, sq_nx, sq_rt, sq_bk, sq_ct, sq_exc, sq_bad, andR_ok, orR_ok, notR_ok, andV_ok, orV_ok, notV_ok, ifV_ok, truD_b, boolD_b, intD_i, tupR0, tupR1, tupR2, tupR3, tupR4, lstR0, lstR1, lstR2, lstR3, lstR4, lstR5, lstR6, lstR7, lstR8, lstR9, negD_i, slA3_l, slA3_t, tupleD_l, tupleD_t, listD_l, listD_t, revD_t, addE_ii, subD_ii, leD_ii, ltD_ii, geD_ii, gtI_ii, eqD_ii, neD_ii, isi_tup_tup, isi_tup_list, isi_tup_none, isi_tup_int, isi_tup_bool, isi_tup_str, isi_tup_dict, isi_int_int, isi_int_bool, isi_int_none, isi_int_str, isi_int_list, isi_int_tup, isi_int_dict, isi_bool_int, isi_bool_bool, isi_bool_none, isi_bool_str, isi_bool_list, isi_bool_tup, isi_bool_dict, lenD_t, lenD_l, seqD_l, seqD_t, List.getElem?_cons_zero, List.getElem?_cons_succ, List.set_cons_zero, List.set_cons_succ, ↓reduceIte, Bool.false_eq_true, Bool.not_true, Bool.not_false, sWp_ap, sWq_ap, wipeO_nx, wipeO_rt, wipeO_bk, wipeO_ct, wipeO_exc, wipeO_bad, wipeE_nil, wipeE_cons, fzE_ap, DL.ownO_l, asgO_2, DL.truD_l, DL.truD_t, datI_ap, augN_ap, zip2_tt, zip2_ll, sPar_ap, wFz_ap, pl, isn, sRaiseX]) ⟨by rw [List.length_zipIdx]; simp; omega, fun p m => by
        obtain ⟨x, n⟩ := p
        exact List.mem_of_getElem? (List.mk_mem_zipIdx_iff_getElem?.mp m)⟩
  have fe : ∀ (l : List (Str × Nat)) (a : List PyData), l.foldl (fun rows p => rows ++ [rw1 p]) a = a ++ l.map rw1 := by
    intro l
    induction l with
    | nil => intro a; simp
    | cons p l ih => intro a; rw [List.foldl_cons, ih]; simp
  rw [fe, List.nil_append] at lp
  exact lp
theorem zip1 : ∀ (ls : List Str) (n : Nat), 0 < n → (ls.zipIdx n).map rw1 = ls.map fun x => rowD2 (pL2 x)
  | [], _, _ => rfl
  | x :: ls, n, h => by
    rw [List.zipIdx_cons, List.map_cons, zip1 ls (n + 1) (by omega), List.map_cons]
    congr 1
    show (if n = 0 then _ else _) = _
    rw [if_neg (by omega)]
def e2 (p : Int × Int × Str) : Int × Int := (p.1, p.2.1)
def chs3 (ps : List (Int × Int × Str)) : List Int := ((ps.zipIdx).filter fun q => decide (q.1.2.2 = ("chosen" : Str))).map fun q => (q.2 : Int)
/-- the lines that are all in order -/
structure Good (L : List Str) (ws : List Int) (ps : List (Int × Int × Str)) : Prop where
  h : ∃ l0 ls, L = l0 :: ls ∧ pL1 l0 = some ws ∧ ls.map pL2 = ps.map some
theorem Good.rows {L : List Str} {ws : List Int} {ps : List (Int × Int × Str)} (g : Good L ws ps) : L.zipIdx.find? bd = none ∧ L.zipIdx.map rw1 = tI ws :: ps.map rwD := by
  obtain ⟨l0, ls, rfl, h1, h2⟩ := g.h
  have e : ((l0 :: ls).zipIdx).map rw1 = tI ws :: ps.map rwD := by
    rw [List.zipIdx_cons, List.map_cons, zip1 ls 1 (by decide)]
    have e0 : rw1 (l0, 0) = tI ws := by
      unfold rw1
      rw [if_pos rfl, h1]
      rfl
    have e1 : (ls.map fun x => rowD2 (pL2 x)) = ps.map rwD := by
      have := congrArg (List.map rowD2) h2
      rw [List.map_map, List.map_map] at this
      exact this
    rw [e0, e1]
  refine ⟨?_, e⟩
  rw [List.find?_eq_none]
  intro p mp
  have : rw1 p ∈ tI ws :: ps.map rwD := by
    rw [← e]
    exact List.mem_map.mpr ⟨p, mp, rfl⟩
  unfold bd
  rcases List.mem_cons.mp this with h | h
  · rw [h]; simp [isN, tI]
  · obtain ⟨q, _, h⟩ := List.mem_map.mp h
    rw [← h]
    simp [isN, rwD]
theorem good_of {L : List Str} (ne : L ≠ []) (h : L.zipIdx.find? bd = none) : ∃ ws ps, Good L ws ps := by
  cases L with
  | nil => exact absurd rfl ne
  | cons l0 ls =>
    rw [List.find?_eq_none] at h
    have h0 := h (l0, 0) (by rw [List.zipIdx_cons]; exact List.mem_cons_self)
    have hr : ∀ x ∈ ls, pL2 x ≠ none := fun x mx e => by
      obtain ⟨k, hk, rfl⟩ := List.mem_iff_getElem.mp mx
      have := h (ls[k], 1 + k) (by
        rw [List.zipIdx_cons]
        refine List.mem_cons_of_mem _ ?_
        rw [List.mk_mem_zipIdx_iff_le_and_getElem?_sub]
        refine ⟨by omega, ?_⟩
        rw [show 1 + k - 1 = k by omega]
        exact List.getElem?_eq_getElem hk)
      unfold bd rw1 at this
      rw [if_neg (by simp)] at this
      simp only at this
      rw [e] at this
      simp [isN, rowD2] at this
    cases e0 : pL1 l0 with
    | none =>
      unfold bd rw1 at h0
      rw [if_pos rfl] at h0
      simp only at h0
      rw [e0] at h0
      simp [isN, rowD1] at h0
    | some ws =>
      refine ⟨ws, ls.map fun x => (pL2 x).getD (0, 0, ""), ⟨l0, ls, rfl, e0, ?_⟩⟩
      rw [List.map_map]
      refine List.map_congr_left fun x mx => ?_
      cases e : pL2 x with
      | none => exact absurd e (hr x mx)
      | some p => simp [Function.comp, e]
theorem nl_eq {t : Str} (hl : t.length + 2 ≤ sizeLine) : splitD t (.str "\n") = .ok (.list ((Txt.split t "\n").map .str)) := by
  have : splitD t (.str "\n") = if (("\n" : Str).length == 0) = false ∧ t.length + 2 ≤ sizeLine then .ok (.list ((Txt.split t "\n").map .str)) else .bad := rfl
  rw [this, if_pos ⟨by decide +kernel, hl⟩]
theorem isS (t : Str) : isiD "str" (.str t) = .ok (.bool true) := rfl
section
variable {t : Str} (hl : t.length ≤ 4000) (ok : PyData.strOk t = true)
include hl ok
theorem lines_ok : (∀ s ∈ Txt.split t "\n", s.length + 2 ≤ sizeLine ∧ PyData.strOk s = true) ∧ (Txt.split t "\n").length ≤ 5000 ∧ Txt.split t "\n" ≠ [] := by
  have sz := sz1000000
  have a : ∀ p ∈ Txt.split t "\n", (PyData.strOk t = true → PyData.strOk p = true) ∧ p.length ≤ t.length := split_sub tl_nl (by decide) t
  have b : (Txt.split t "\n").length ≤ t.length + 1 := split_cnt tl_nl (by decide) t
  refine ⟨fun s m => ⟨?_, (a s m).1 ok⟩, by omega, (split_ok tl_nl (by decide) t).2.1⟩
  have := (a s m).2
  omega
theorem parse_bad {p : Str × Nat} (e : (Txt.split t "\n").zipIdx.find? bd = some p) : m_parse_choice [.str t] = .exc "ParseError" (some [("line", .int (p.2 : Int))]) := by
  rw [r_parse_choice]
  have sz := sz1000000
  obtain ⟨h1, h2, h3⟩ := lines_ok hl ok
  have nl := nl_eq (t := t) (by omega)
  generalize Txt.split t "\n" = L at *
  obtain ⟨r', lp⟩ := (loop_eq (t := t) h1 h2).2 p e
  have en : enumD (.list (L.map .str)) = .ok (L.zipIdx.map eN) := by
    have : enumD (.list (L.map PyData.str)) = .ok (enumL (L.map .str)) := rfl
    rw [this, enum_str]
  simp only [f_parse_choice, sSeq_ap, sIf_ap, sRet_ap, sExpr_ap, sSet_ap, sSetO_ap, sFor_ap, sFz_ap, sFzb_ap, sAsg_ap, sSetItem_ap, sAugItem_ap, sAug_ap, sRaise_ap, sNil_ap, sBad_ap, mutO_ap, cA_ap, cNot_ap, cAnd_ap, cOr_ap, cIf_ap, cTup_ap, cLst_ap, pNone_ap, pSome_ap, wAnd_ap, wOr_ap, wNot_ap, wTru_ap, wCmp_ap, wYes_ap, iA_ap, iS_ap, aNil_ap, aCons_ap, kR_ap, b2_ap, b3_ap, c1_ap, chainD_ap, lcF_ap, datE_ap, datB_ap, ownAt_ap, endO_rt, endO_nx, endO_exc, endO_bad, bn_ok, bn_exc, bn_bad, to_ok, to_exc, to_bad, sq_nx, sq_rt, sq_bk, sq_ct, sq_exc, sq_bad, andR_ok, orR_ok, notR_ok, andV_ok, orV_ok, notV_ok, ifV_ok, truD_b, boolD_b, intD_i, tupR0, tupR1, tupR2, tupR3, tupR4, lstR0, lstR1, lstR2, lstR3, lstR4, lstR5, lstR6, lstR7, lstR8, lstR9, negD_i, slA3_l, slA3_t, tupleD_l, tupleD_t, listD_l, listD_t, revD_t, addE_ii, subD_ii, leD_ii, ltD_ii, geD_ii, gtI_ii, eqD_ii, neD_ii, isi_tup_tup, isi_tup_list, isi_tup_none, isi_tup_int, isi_tup_bool, isi_tup_str, isi_tup_dict, isi_int_int, isi_int_bool, isi_int_none, isi_int_str, isi_int_list, isi_int_tup, isi_int_dict, isi_bool_int, isi_bool_bool, isi_bool_none, isi_bool_str, isi_bool_list, isi_bool_tup, isi_bool_dict, lenD_t, lenD_l, seqD_l, seqD_t, List.getElem?_cons_zero, List.getElem?_cons_succ, List.set_cons_zero, List.set_cons_succ, ↓reduceIte, Bool.false_eq_true, Bool.not_true, Bool.not_false, sWp_ap, sWq_ap, wipeO_nx, wipeO_rt, wipeO_bk, wipeO_ct, wipeO_exc, wipeO_bad, wipeE_nil, wipeE_cons, fzE_ap, DL.ownO_l, asgO_2, DL.truD_l, DL.truD_t, datI_ap, augN_ap, zip2_tt, zip2_ll, sPar_ap, wFz_ap, m1, isS, nl, en, lp]
theorem parse_good {ws : List Int} {ps : List (Int × Int × Str)} (g : Good (Txt.split t "\n") ws ps) (hp : ∀ p ∈ ps, PyData.strOk p.2.2 = true) :
    m_parse_choice [.str t] = if isG (graphD (ws.length : Int) (ps.map e2)) = true ∧ isW (ws.length : Int) (tI ws) = true then .ok (.tuple [graphD (ws.length : Int) (ps.map e2), tI ws, tI (chs3 ps)]) else .exc "ParseError" (some [("line", .none)]) := by
  rw [r_parse_choice]
  have sz := sz1000000
  obtain ⟨h1, h2, h3⟩ := lines_ok hl ok
  have nl := nl_eq (t := t) (by omega)
  obtain ⟨g1, g2⟩ := g.rows
  generalize Txt.split t "\n" = L at *
  have lp := (loop_eq (t := t) h1 h2).1 g1
  rw [g2] at lp
  have en : enumD (.list (L.map .str)) = .ok (L.zipIdx.map eN) := by
    have : enumD (.list (L.map PyData.str)) = .ok (enumL (L.map .str)) := rfl
    rw [this, enum_str]
  have i0 : ixD (.list (tI ws :: ps.map rwD)) (.int 0) = .ok (tI ws) := ix_l (by decide) rfl
  have ln : lenD (tI ws) = .ok (.int (ws.length : Int)) := by
    have : lenD (tI ws) = .ok (.int ((ws.map PyData.int).length : Int)) := rfl
    rw [this, List.length_map]
  have sl : slA3 (.list (tI ws :: ps.map rwD)) (some 1) none = .ok (.list (ps.map rwD)) := by
    have : slA3 (.list (tI ws :: ps.map rwD)) (some 1) none = .ok (.list (cutL (tI ws :: ps.map rwD) (some ((1 : Nat) : Int)) none)) := rfl
    rw [this, cut_from]
    rfl
  have sq : seqD (.list (ps.map rwD)) = .ok (ps.map rwD) := rfl
  have c1' := compM (ft := gN 4) (fc := wYes) (fe := ce_parse_choice_1) (r0 := [.dat (.str t), .own (tI ws :: ps.map rwD), .un, .un, .un, .un]) rwD (fun _ => true) (fun p => edgeD (e2 p)) ps (by
    intro p mp
    have sp : slA3 (rwD p) none (some 2) = .ok (edgeD (e2 p)) := rfl
    refine ⟨_, rfl, rfl, fun _ => ?_⟩
    simp only [ce_parse_choice_1, sSeq_ap, sIf_ap, sRet_ap, sExpr_ap, sSet_ap, sSetO_ap, sFor_ap, sFz_ap, sFzb_ap, sAsg_ap, sSetItem_ap, sAugItem_ap, sAug_ap, sRaise_ap, sNil_ap, sBad_ap, mutO_ap, cA_ap, cNot_ap, cAnd_ap, cOr_ap, cIf_ap, cTup_ap, cLst_ap, pNone_ap, pSome_ap, wAnd_ap, wOr_ap, wNot_ap, wTru_ap, wCmp_ap, wYes_ap, iA_ap, iS_ap, aNil_ap, aCons_ap, kR_ap, b2_ap, b3_ap, c1_ap, chainD_ap, lcF_ap, datE_ap, datB_ap, ownAt_ap, endO_rt, endO_nx, endO_exc, endO_bad, bn_ok, bn_exc, bn_bad, to_ok, to_exc, to_bad, sq_nx, sq_rt, sq_bk, sq_ct, sq_exc, sq_bad, andR_ok, orR_ok, notR_ok, andV_ok, orV_ok, notV_ok, ifV_ok, truD_b, boolD_b, intD_i, tupR0, tupR1, tupR2, tupR3, tupR4, lstR0, lstR1, lstR2, lstR3, lstR4, lstR5, lstR6, lstR7, lstR8, lstR9, negD_i, slA3_l, slA3_t, tupleD_l, tupleD_t, listD_l, listD_t, revD_t, addE_ii, subD_ii, leD_ii, ltD_ii, geD_ii, gtI_ii, eqD_ii, neD_ii, isi_tup_tup, isi_tup_list, isi_tup_none, isi_tup_int, isi_tup_bool, isi_tup_str, isi_tup_dict, isi_int_int, isi_int_bool, isi_int_none, isi_int_str, isi_int_list, isi_int_tup, isi_int_dict, isi_bool_int, isi_bool_bool, isi_bool_none, isi_bool_str, isi_bool_list, isi_bool_tup, isi_bool_dict, lenD_t, lenD_l, seqD_l, seqD_t, List.getElem?_cons_zero, List.getElem?_cons_succ, List.set_cons_zero, List.set_cons_succ, ↓reduceIte, Bool.false_eq_true, Bool.not_true, Bool.not_false, sWp_ap, sWq_ap, wipeO_nx, wipeO_rt, wipeO_bk, wipeO_ct, wipeO_exc, wipeO_bad, wipeE_nil, wipeE_cons, fzE_ap, DL.ownO_l, asgO_2, DL.truD_l, DL.truD_t, datI_ap, augN_ap, zip2_tt, zip2_ll, sPar_ap, wFz_ap, sp])
  rw [filt_true] at c1'
  have c1'' : compL (gN 4) wYes ce_parse_choice_1 [.dat (.str t), .own (tI ws :: ps.map rwD), .un, .un, .un, .un] (ps.map rwD) = .ok ((ps.map e2).map edgeD) := by
    rw [c1', List.map_map]
    rfl
  have td : tupleD (.list ((ps.map e2).map edgeD)) = .ok (.tuple ((ps.map e2).map edgeD)) := rfl
  have gd : PyData.tuple [.int (ws.length : Int), .tuple ((ps.map e2).map edgeD)] = graphD (ws.length : Int) (ps.map e2) := rfl
  have ig := is_graph_eq (graphD (ws.length : Int) (ps.map e2))
  have aw := are_wishes_eq (v := (ws.length : Int)) (ps := ps.map e2) (tI ws)
  by_cases a1 : isG (graphD (ws.length : Int) (ps.map e2)) = true
  · by_cases a2 : isW (ws.length : Int) (tI ws) = true
    · rw [if_pos ⟨a1, a2⟩]
      rw [a1] at ig
      rw [a2] at aw
      have en2 : enumD (.list (ps.map rwD)) = .ok (ps.zipIdx.map fun q => .tuple [.int (q.2 : Int), rwD q.1]) := by
        have : enumD (.list (ps.map rwD)) = .ok (enumL (ps.map rwD)) := rfl
        rw [this]
        unfold enumL
        rw [List.zipIdx_map, List.map_map]
        rfl
      have c2' := compM (ft := gT (gsC (gN 2) (gsC (gN 4) gsN))) (fc := ct_parse_choice_1) (fe := datE 2) (r0 := [.dat (.str t), .own (tI ws :: ps.map rwD), .un, .un, .un, .dat (graphD (ws.length : Int) (ps.map e2))]) (fun q : (Int × Int × Str) × Nat => .tuple [.int (q.2 : Int), rwD q.1]) (fun q => decide (q.1.2.2 = ("chosen" : Str))) (fun q => .int (q.2 : Int)) ps.zipIdx (by
        rintro ⟨p, n⟩ mp
        have mp' : p ∈ ps := List.mem_of_getElem? (List.mk_mem_zipIdx_iff_getElem?.mp mp)
        have i2 : ixD (rwD p) (.int 2) = .ok (.str p.2.2) := ix_t (by decide) rfl
        refine ⟨_, rfl, ?_, fun _ => rfl⟩
        simp only [ct_parse_choice_1, sSeq_ap, sIf_ap, sRet_ap, sExpr_ap, sSet_ap, sSetO_ap, sFor_ap, sFz_ap, sFzb_ap, sAsg_ap, sSetItem_ap, sAugItem_ap, sAug_ap, sRaise_ap, sNil_ap, sBad_ap, mutO_ap, cA_ap, cNot_ap, cAnd_ap, cOr_ap, cIf_ap, cTup_ap, cLst_ap, pNone_ap, pSome_ap, wAnd_ap, wOr_ap, wNot_ap, wTru_ap, wCmp_ap, wYes_ap, iA_ap, iS_ap, aNil_ap, aCons_ap, kR_ap, b2_ap, b3_ap, c1_ap, chainD_ap, lcF_ap, datE_ap, datB_ap, ownAt_ap, endO_rt, endO_nx, endO_exc, endO_bad, bn_ok, bn_exc, bn_bad, to_ok, to_exc, to_bad, sq_nx, sq_rt, sq_bk, sq_ct, sq_exc, sq_bad, andR_ok, orR_ok, notR_ok, andV_ok, orV_ok, notV_ok, ifV_ok, truD_b, boolD_b, intD_i, tupR0, tupR1, tupR2, tupR3, tupR4, lstR0, lstR1, lstR2, lstR3, lstR4, lstR5, lstR6, lstR7, lstR8, lstR9, negD_i, slA3_l, slA3_t, tupleD_l, tupleD_t, listD_l, listD_t, revD_t, addE_ii, subD_ii, leD_ii, ltD_ii, geD_ii, gtI_ii, eqD_ii, neD_ii, isi_tup_tup, isi_tup_list, isi_tup_none, isi_tup_int, isi_tup_bool, isi_tup_str, isi_tup_dict, isi_int_int, isi_int_bool, isi_int_none, isi_int_str, isi_int_list, isi_int_tup, isi_int_dict, isi_bool_int, isi_bool_bool, isi_bool_none, isi_bool_str, isi_bool_list, isi_bool_tup, isi_bool_dict, lenD_t, lenD_l, seqD_l, seqD_t, List.getElem?_cons_zero, List.getElem?_cons_succ, List.set_cons_zero, List.set_cons_succ, ↓reduceIte, Bool.false_eq_true, Bool.not_true, Bool.not_false, sWp_ap, sWq_ap, wipeO_nx, wipeO_rt, wipeO_bk, wipeO_ct, wipeO_exc, wipeO_bad, wipeE_nil, wipeE_cons, fzE_ap, DL.ownO_l, asgO_2, DL.truD_l, DL.truD_t, datI_ap, augN_ap, zip2_tt, zip2_ll, sPar_ap, wFz_ap, i2, eq_S (hp p mp') okC])
      have c2'' : compL (gT (gsC (gN 2) (gsC (gN 4) gsN))) ct_parse_choice_1 (datE 2) [.dat (.str t), .own (tI ws :: ps.map rwD), .un, .un, .un, .dat (graphD (ws.length : Int) (ps.map e2))] (ps.zipIdx.map fun q => .tuple [.int (q.2 : Int), rwD q.1]) = .ok ((chs3 ps).map .int) := by
        rw [c2']
        unfold chs3
        rw [List.map_map]
        rfl
      have td2 : tupleD (.list ((chs3 ps).map .int)) = .ok (tI (chs3 ps)) := rfl
      simp only [f_parse_choice, sSeq_ap, sIf_ap, sRet_ap, sExpr_ap, sSet_ap, sSetO_ap, sFor_ap, sFz_ap, sFzb_ap, sAsg_ap, sSetItem_ap, sAugItem_ap, sAug_ap, sRaise_ap, sNil_ap, sBad_ap, mutO_ap, cA_ap, cNot_ap, cAnd_ap, cOr_ap, cIf_ap, cTup_ap, cLst_ap, pNone_ap, pSome_ap, wAnd_ap, wOr_ap, wNot_ap, wTru_ap, wCmp_ap, wYes_ap, iA_ap, iS_ap, aNil_ap, aCons_ap, kR_ap, b2_ap, b3_ap, c1_ap, chainD_ap, lcF_ap, datE_ap, datB_ap, ownAt_ap, endO_rt, endO_nx, endO_exc, endO_bad, bn_ok, bn_exc, bn_bad, to_ok, to_exc, to_bad, sq_nx, sq_rt, sq_bk, sq_ct, sq_exc, sq_bad, andR_ok, orR_ok, notR_ok, andV_ok, orV_ok, notV_ok, ifV_ok, truD_b, boolD_b, intD_i, tupR0, tupR1, tupR2, tupR3, tupR4, lstR0, lstR1, lstR2, lstR3, lstR4, lstR5, lstR6, lstR7, lstR8, lstR9, negD_i, slA3_l, slA3_t, tupleD_l, tupleD_t, listD_l, listD_t, revD_t, addE_ii, subD_ii, leD_ii, ltD_ii, geD_ii, gtI_ii, eqD_ii, neD_ii, isi_tup_tup, isi_tup_list, isi_tup_none, isi_tup_int, isi_tup_bool, isi_tup_str, isi_tup_dict, isi_int_int, isi_int_bool, isi_int_none, isi_int_str, isi_int_list, isi_int_tup, isi_int_dict, isi_bool_int, isi_bool_bool, isi_bool_none, isi_bool_str, isi_bool_list, isi_bool_tup, isi_bool_dict, lenD_t, lenD_l, seqD_l, seqD_t, List.getElem?_cons_zero, List.getElem?_cons_succ, List.set_cons_zero, List.set_cons_succ, ↓reduceIte, Bool.false_eq_true, Bool.not_true, Bool.not_false, sWp_ap, sWq_ap, wipeO_nx, wipeO_rt, wipeO_bk, wipeO_ct, wipeO_exc, wipeO_bad, wipeE_nil, wipeE_cons, fzE_ap, DL.ownO_l, asgO_2, DL.truD_l, DL.truD_t, datI_ap, augN_ap, zip2_tt, zip2_ll, sPar_ap, wFz_ap, m1, isS, nl, en, lp, i0, ln, sl, sq, c1'', td, gd, ig, aw, en2, c2'', td2]
    · rw [if_neg (fun z => a2 z.2)]
      rw [a1] at ig
      rw [Bool.eq_false_iff.mpr a2] at aw
      simp only [f_parse_choice, sSeq_ap, sIf_ap, sRet_ap, sExpr_ap, sSet_ap, sSetO_ap, sFor_ap, sFz_ap, sFzb_ap, sAsg_ap, sSetItem_ap, sAugItem_ap, sAug_ap, sRaise_ap, sNil_ap, sBad_ap, mutO_ap, cA_ap, cNot_ap, cAnd_ap, cOr_ap, cIf_ap, cTup_ap, cLst_ap, pNone_ap, pSome_ap, wAnd_ap, wOr_ap, wNot_ap, wTru_ap, wCmp_ap, wYes_ap, iA_ap, iS_ap, aNil_ap, aCons_ap, kR_ap, b2_ap, b3_ap, c1_ap, chainD_ap, lcF_ap, datE_ap, datB_ap, ownAt_ap, endO_rt, endO_nx, endO_exc, endO_bad, bn_ok, bn_exc, bn_bad, to_ok, to_exc, to_bad, sq_nx, sq_rt, sq_bk, sq_ct, sq_exc, sq_bad, andR_ok, orR_ok, notR_ok, andV_ok, orV_ok, notV_ok, ifV_ok, truD_b, boolD_b, intD_i, tupR0, tupR1, tupR2, tupR3, tupR4, lstR0, lstR1, lstR2, lstR3, lstR4, lstR5, lstR6, lstR7, lstR8, lstR9, negD_i, slA3_l, slA3_t, tupleD_l, tupleD_t, listD_l, listD_t, revD_t, addE_ii, subD_ii, leD_ii, ltD_ii, geD_ii, gtI_ii, eqD_ii, neD_ii, isi_tup_tup, isi_tup_list, isi_tup_none, isi_tup_int, isi_tup_bool, isi_tup_str, isi_tup_dict, isi_int_int, isi_int_bool, isi_int_none, isi_int_str, isi_int_list, isi_int_tup, isi_int_dict, isi_bool_int, isi_bool_bool, isi_bool_none, isi_bool_str, isi_bool_list, isi_bool_tup, isi_bool_dict, lenD_t, lenD_l, seqD_l, seqD_t, List.getElem?_cons_zero, List.getElem?_cons_succ, List.set_cons_zero, List.set_cons_succ, ↓reduceIte, Bool.false_eq_true, Bool.not_true, Bool.not_false, sWp_ap, sWq_ap, wipeO_nx, wipeO_rt, wipeO_bk, wipeO_ct, wipeO_exc, wipeO_bad, wipeE_nil, wipeE_cons, fzE_ap, DL.ownO_l, asgO_2, DL.truD_l, DL.truD_t, datI_ap, augN_ap, zip2_tt, zip2_ll, sPar_ap, wFz_ap, m1, isS, nl, en, lp, i0, ln, sl, sq, c1'', td, gd, ig, aw, sRaiseX]
  · rw [if_neg (fun z => a1 z.1)]
    rw [Bool.eq_false_iff.mpr a1] at ig
    simp only [f_parse_choice, sSeq_ap, sIf_ap, sRet_ap, sExpr_ap, sSet_ap, sSetO_ap, sFor_ap, sFz_ap, sFzb_ap, sAsg_ap, sSetItem_ap, sAugItem_ap, sAug_ap, sRaise_ap, sNil_ap, sBad_ap, mutO_ap, cA_ap, cNot_ap, cAnd_ap, cOr_ap, cIf_ap, cTup_ap, cLst_ap, pNone_ap, pSome_ap, wAnd_ap, wOr_ap, wNot_ap, wTru_ap, wCmp_ap, wYes_ap, iA_ap, iS_ap, aNil_ap, aCons_ap, kR_ap, b2_ap, b3_ap, c1_ap, chainD_ap, lcF_ap, datE_ap, datB_ap, ownAt_ap, endO_rt, endO_nx, endO_exc, endO_bad, bn_ok, bn_exc, bn_bad, to_ok, to_exc, to_bad, sq_nx, sq_rt, sq_bk, sq_ct, sq_exc, sq_bad, andR_ok, orR_ok, notR_ok, andV_ok, orV_ok, notV_ok, ifV_ok, truD_b, boolD_b, intD_i, tupR0, tupR1, tupR2, tupR3, tupR4, lstR0, lstR1, lstR2, lstR3, lstR4, lstR5, lstR6, lstR7, lstR8, lstR9, negD_i, slA3_l, slA3_t, tupleD_l, tupleD_t, listD_l, listD_t, revD_t, addE_ii, subD_ii, leD_ii, ltD_ii, geD_ii, gtI_ii, eqD_ii, neD_ii, isi_tup_tup, isi_tup_list, isi_tup_none, isi_tup_int, isi_tup_bool, isi_tup_str, isi_tup_dict, isi_int_int, isi_int_bool, isi_int_none, isi_int_str, isi_int_list, isi_int_tup, isi_int_dict, isi_bool_int, isi_bool_bool, isi_bool_none, isi_bool_str, isi_bool_list, isi_bool_tup, isi_bool_dict, lenD_t, lenD_l, seqD_l, seqD_t, List.getElem?_cons_zero, List.getElem?_cons_succ, List.set_cons_zero, List.set_cons_succ, ↓reduceIte, Bool.false_eq_true, Bool.not_true, Bool.not_false, sWp_ap, sWq_ap, wipeO_nx, wipeO_rt, wipeO_bk, wipeO_ct, wipeO_exc, wipeO_bad, wipeE_nil, wipeE_cons, fzE_ap, DL.ownO_l, asgO_2, DL.truD_l, DL.truD_t, datI_ap, augN_ap, zip2_tt, zip2_ll, sPar_ap, wFz_ap, m1, isS, nl, en, lp, i0, ln, sl, sq, c1'', td, gd, ig, sRaiseX]
end
theorem lparse_exc {x d : PyData} (h : m_parse_choice [x] = .exc "ParseError" (some [("line", d)])) : m_law_parse [x] = .ok (.list [.str "line", d]) := by
  rw [r_law_parse]
  have fb : (sRet (cA m_parse_choice (aCons (datE 0) aNil))) [.dat x, .un] = .exc "ParseError" (some [("line", d)]) [.dat x, .un] := by simp only [sSeq_ap, sIf_ap, sRet_ap, sExpr_ap, sSet_ap, sSetO_ap, sFor_ap, sFz_ap, sFzb_ap, sAsg_ap, sSetItem_ap, sAugItem_ap, sAug_ap, sRaise_ap, sNil_ap, sBad_ap, mutO_ap, cA_ap, cNot_ap, cAnd_ap, cOr_ap, cIf_ap, cTup_ap, cLst_ap, pNone_ap, pSome_ap, wAnd_ap, wOr_ap, wNot_ap, wTru_ap, wCmp_ap, wYes_ap, iA_ap, iS_ap, aNil_ap, aCons_ap, kR_ap, b2_ap, b3_ap, c1_ap, chainD_ap, lcF_ap, datE_ap, datB_ap, ownAt_ap, endO_rt, endO_nx, endO_exc, endO_bad, bn_ok, bn_exc, bn_bad, to_ok, to_exc, to_bad, sq_nx, sq_rt, sq_bk, sq_ct, sq_exc, sq_bad, andR_ok, orR_ok, notR_ok, andV_ok, orV_ok, notV_ok, ifV_ok, truD_b, boolD_b, intD_i, tupR0, tupR1, tupR2, tupR3, tupR4, lstR0, lstR1, lstR2, lstR3, lstR4, lstR5, lstR6, lstR7, lstR8, lstR9, negD_i, slA3_l, slA3_t, tupleD_l, tupleD_t, listD_l, listD_t, revD_t, addE_ii, subD_ii, leD_ii, ltD_ii, geD_ii, gtI_ii, eqD_ii, neD_ii, isi_tup_tup, isi_tup_list, isi_tup_none, isi_tup_int, isi_tup_bool, isi_tup_str, isi_tup_dict, isi_int_int, isi_int_bool, isi_int_none, isi_int_str, isi_int_list, isi_int_tup, isi_int_dict, isi_bool_int, isi_bool_bool, isi_bool_none, isi_bool_str, isi_bool_list, isi_bool_tup, isi_bool_dict, lenD_t, lenD_l, seqD_l, seqD_t, List.getElem?_cons_zero, List.getElem?_cons_succ, List.set_cons_zero, List.set_cons_succ, ↓reduceIte, Bool.false_eq_true, Bool.not_true, Bool.not_false, sWp_ap, sWq_ap, wipeO_nx, wipeO_rt, wipeO_bk, wipeO_ct, wipeO_exc, wipeO_bad, wipeE_nil, wipeE_cons, fzE_ap, DL.ownO_l, asgO_2, DL.truD_l, DL.truD_t, datI_ap, augN_ap, zip2_tt, zip2_ll, sPar_ap, wFz_ap, h]
  unfold f_law_parse sTryF
  rw [fb]
  show endO (if ("ParseError" : Str) = "ParseError" ∧ ("line" : Str) = "line" ∧ 1 < ([.dat x, .un] : En).length then O.rt (.list [.str "line", d]) else .bad) = _
  rw [if_pos ⟨rfl, rfl, by simp⟩]
  rfl
theorem lparse_ok {x d : PyData} (h : m_parse_choice [x] = .ok d) : m_law_parse [x] = .ok d := by
  rw [r_law_parse]
  have fb : (sRet (cA m_parse_choice (aCons (datE 0) aNil))) [.dat x, .un] = .rt d := by simp only [sSeq_ap, sIf_ap, sRet_ap, sExpr_ap, sSet_ap, sSetO_ap, sFor_ap, sFz_ap, sFzb_ap, sAsg_ap, sSetItem_ap, sAugItem_ap, sAug_ap, sRaise_ap, sNil_ap, sBad_ap, mutO_ap, cA_ap, cNot_ap, cAnd_ap, cOr_ap, cIf_ap, cTup_ap, cLst_ap, pNone_ap, pSome_ap, wAnd_ap, wOr_ap, wNot_ap, wTru_ap, wCmp_ap, wYes_ap, iA_ap, iS_ap, aNil_ap, aCons_ap, kR_ap, b2_ap, b3_ap, c1_ap, chainD_ap, lcF_ap, datE_ap, datB_ap, ownAt_ap, endO_rt, endO_nx, endO_exc, endO_bad, bn_ok, bn_exc, bn_bad, to_ok, to_exc, to_bad, sq_nx, sq_rt, sq_bk, sq_ct, sq_exc, sq_bad, andR_ok, orR_ok, notR_ok, andV_ok, orV_ok, notV_ok, ifV_ok, truD_b, boolD_b, intD_i, tupR0, tupR1, tupR2, tupR3, tupR4, lstR0, lstR1, lstR2, lstR3, lstR4, lstR5, lstR6, lstR7, lstR8, lstR9, negD_i, slA3_l, slA3_t, tupleD_l, tupleD_t, listD_l, listD_t, revD_t, addE_ii, subD_ii, leD_ii, ltD_ii, geD_ii, gtI_ii, eqD_ii, neD_ii, isi_tup_tup, isi_tup_list, isi_tup_none, isi_tup_int, isi_tup_bool, isi_tup_str, isi_tup_dict, isi_int_int, isi_int_bool, isi_int_none, isi_int_str, isi_int_list, isi_int_tup, isi_int_dict, isi_bool_int, isi_bool_bool, isi_bool_none, isi_bool_str, isi_bool_list, isi_bool_tup, isi_bool_dict, lenD_t, lenD_l, seqD_l, seqD_t, List.getElem?_cons_zero, List.getElem?_cons_succ, List.set_cons_zero, List.set_cons_succ, ↓reduceIte, Bool.false_eq_true, Bool.not_true, Bool.not_false, sWp_ap, sWq_ap, wipeO_nx, wipeO_rt, wipeO_bk, wipeO_ct, wipeO_exc, wipeO_bad, wipeE_nil, wipeE_cons, fzE_ap, DL.ownO_l, asgO_2, DL.truD_l, DL.truD_t, datI_ap, augN_ap, zip2_tt, zip2_ll, sPar_ap, wFz_ap, h]
  unfold f_law_parse sTryF
  rw [fb]
  rfl
theorem lparse_no {x : PyData} (h : isiD "str" x = .ok (.bool false)) : m_law_parse [x] = .ok (.list [.str "line", .none]) := by
  refine lparse_exc ?_
  rw [r_parse_choice]
  simp only [f_parse_choice, sSeq_ap, sIf_ap, sRet_ap, sExpr_ap, sSet_ap, sSetO_ap, sFor_ap, sFz_ap, sFzb_ap, sAsg_ap, sSetItem_ap, sAugItem_ap, sAug_ap, sRaise_ap, sNil_ap, sBad_ap, mutO_ap, cA_ap, cNot_ap, cAnd_ap, cOr_ap, cIf_ap, cTup_ap, cLst_ap, pNone_ap, pSome_ap, wAnd_ap, wOr_ap, wNot_ap, wTru_ap, wCmp_ap, wYes_ap, iA_ap, iS_ap, aNil_ap, aCons_ap, kR_ap, b2_ap, b3_ap, c1_ap, chainD_ap, lcF_ap, datE_ap, datB_ap, ownAt_ap, endO_rt, endO_nx, endO_exc, endO_bad, bn_ok, bn_exc, bn_bad, to_ok, to_exc, to_bad, sq_nx, sq_rt, sq_bk, sq_ct, sq_exc, sq_bad, andR_ok, orR_ok, notR_ok, andV_ok, orV_ok, notV_ok, ifV_ok, truD_b, boolD_b, intD_i, tupR0, tupR1, tupR2, tupR3, tupR4, lstR0, lstR1, lstR2, lstR3, lstR4, lstR5, lstR6, lstR7, lstR8, lstR9, negD_i, slA3_l, slA3_t, tupleD_l, tupleD_t, listD_l, listD_t, revD_t, addE_ii, subD_ii, leD_ii, ltD_ii, geD_ii, gtI_ii, eqD_ii, neD_ii, isi_tup_tup, isi_tup_list, isi_tup_none, isi_tup_int, isi_tup_bool, isi_tup_str, isi_tup_dict, isi_int_int, isi_int_bool, isi_int_none, isi_int_str, isi_int_list, isi_int_tup, isi_int_dict, isi_bool_int, isi_bool_bool, isi_bool_none, isi_bool_str, isi_bool_list, isi_bool_tup, isi_bool_dict, lenD_t, lenD_l, seqD_l, seqD_t, List.getElem?_cons_zero, List.getElem?_cons_succ, List.set_cons_zero, List.set_cons_succ, ↓reduceIte, Bool.false_eq_true, Bool.not_true, Bool.not_false, sWp_ap, sWq_ap, wipeO_nx, wipeO_rt, wipeO_bk, wipeO_ct, wipeO_exc, wipeO_bad, wipeE_nil, wipeE_cons, fzE_ap, DL.ownO_l, asgO_2, DL.truD_l, DL.truD_t, datI_ap, augN_ap, zip2_tt, zip2_ll, sPar_ap, wFz_ap, h, sRaiseX]
/-! ### digits -/
def dS (d : Int) : Str := Str.ofString (toString d)
theorem dS_tl {d : Int} (h0 : 0 ≤ d) (h9 : d ≤ 9) : TL.tl (dS d) = [48 + d.toNat] := by
  obtain ⟨n, rfl⟩ := Int.eq_ofNat_of_zero_le h0
  unfold dS
  rw [TL.tl_num, TL.numL_lt (by omega)]
  rfl
theorem pd_dS {d : Int} (h0 : 0 ≤ d) (h9 : d ≤ 9) : pd (dS d) = some d := by
  have e : (dS d).cps.toList = [48 + d.toNat] := dS_tl h0 h9
  unfold pd
  rw [e]
  show (if _ then _ else _) = _
  rw [if_pos (by omega)]
  congr 1
  omega
theorem dS_pd {s : Str} {d : Int} (h : pd s = some d) : s = dS d ∧ 0 ≤ d ∧ d ≤ 9 := by
  unfold pd at h
  split at h
  · rename_i c e
    by_cases k : 48 ≤ c ∧ c ≤ 57
    · rw [if_pos k] at h
      cases h
      refine ⟨TL.ext_tl ?_, by omega, by omega⟩
      rw [dS_tl (by omega) (by omega)]
      show s.cps.toList = _
      rw [e]
      congr 1
      omega
    · rw [if_neg k] at h
      cases h
  · cases h
theorem dS_ok {d : Int} (h0 : 0 ≤ d) (h9 : d ≤ 9) : PyData.strOk (dS d) = true ∧ (dS d).length = 1 ∧ 32 ∉ TL.tl (dS d) ∧ 10 ∉ TL.tl (dS d) := by
  have e := dS_tl h0 h9
  refine ⟨?_, ?_, ?_, ?_⟩
  · unfold PyData.strOk
    rw [← Array.all_toList]
    show (TL.tl (dS d)).all _ = true
    rw [e]
    simp
    omega
  · rw [TL.len_tl, e]
    rfl
  · rw [e]
    simp
    omega
  · rw [e]
    simp
    omega
theorem strD_eq {d : Int} (h0 : 0 ≤ d) (h9 : d ≤ 9) : strD (.int d) = .ok (.str (dS d)) ∧ fmtD (.int d) = .ok (.str (dS d)) := by
  have : d = 0 ∨ d = 1 ∨ d = 2 ∨ d = 3 ∨ d = 4 ∨ d = 5 ∨ d = 6 ∨ d = 7 ∨ d = 8 ∨ d = 9 := by omega
  have l : d.natAbs.log2 < 1920 := by rcases this with rfl | rfl | rfl | rfl | rfl | rfl | rfl | rfl | rfl | rfl <;> decide +kernel
  exact ⟨if_pos l, if_pos l⟩
/-! ### the text of a graph with wishes and a choice -/
def wd (b : Bool) : Str := if b = true then "chosen" else "free"
def ln1 (ws : List Int) : Str := Txt.join " " ("wishes" :: ws.map dS)
def ln2 (a b : Int) (w : Str) : Str := Txt.join " " [dS a, dS b, w]
def lns (ps : List (Int × Int)) (c : List Int) : List Str := (rg ps.length).map fun z => ln2 (eg ps z).1 (eg ps z).2 (wd (decide (z ∈ c)))
def fmt (ps : List (Int × Int)) (ws c : List Int) : Str := Txt.join "\n" (ln1 ws :: lns ps c)
theorem fs5 {a b w : Str} {f1 f2 f3 : En → R PyData} {r : En} (h1 : f1 r = .ok (.str a)) (h2 : f2 r = .ok (.str b)) (h3 : f3 r = .ok (.str w)) (hl : a.length + b.length + w.length ≤ 1000) : fsF [f1, kR (.str " "), f2, kR (.str " "), f3] r = .ok (.str (Txt.join " " [a, b, w])) := by
  have sz := sz1000000
  have sp : (" " : Str).length = 1 := by kernel_rfl
  have la : ∀ x y : Str, (x ++ y).length = x.length + y.length := fun x y => by rw [TL.len_tl, TL.tl_append, List.length_append, ← TL.len_tl, ← TL.len_tl]
  have l0 : (Str.empty : Str).length = 0 := rfl
  unfold fsF jsD
  rw [h1]
  show (if (Str.empty ++ a).length ≤ sizeLine then jsD [kR (.str " "), f2, kR (.str " "), f3] (Str.empty ++ a) r else .bad) = _
  rw [if_pos (by rw [la, l0]; omega)]
  unfold jsD
  show (if (Str.empty ++ a ++ " ").length ≤ sizeLine then jsD [f2, kR (.str " "), f3] (Str.empty ++ a ++ " ") r else .bad) = _
  rw [if_pos (by rw [la, la, l0, sp]; omega)]
  unfold jsD
  rw [h2]
  show (if (Str.empty ++ a ++ " " ++ b).length ≤ sizeLine then jsD [kR (.str " "), f3] (Str.empty ++ a ++ " " ++ b) r else .bad) = _
  rw [if_pos (by rw [la, la, la, l0, sp]; omega)]
  unfold jsD
  show (if (Str.empty ++ a ++ " " ++ b ++ " ").length ≤ sizeLine then jsD [f3] (Str.empty ++ a ++ " " ++ b ++ " ") r else .bad) = _
  rw [if_pos (by rw [la, la, la, la, l0, sp]; omega)]
  unfold jsD
  rw [h3]
  show (if (Str.empty ++ a ++ " " ++ b ++ " " ++ w).length ≤ sizeLine then jsD [] (Str.empty ++ a ++ " " ++ b ++ " " ++ w) r else .bad) = _
  rw [if_pos (by rw [la, la, la, la, la, l0, sp]; omega)]
  unfold jsD
  congr 2
  refine TL.ext_tl ?_
  rw [join_tl (y := " ") (s := 32) tl_sp (by decide)]
  have et : TL.tl (" " : Str) = [32] := tl_sp
  have ee : TL.tl Str.empty = [] := rfl
  rw [TL.tl_append, TL.tl_append, TL.tl_append, TL.tl_append, TL.tl_append, et, ee]
  simp [TL.joinL]
theorem join_eq' {a : Str} {ys : List Str} (h : (ys.map (·.length)).sum + ys.length * a.length ≤ 16777216) : joinD a (.list (ys.map .str)) = .ok (.str (Txt.join a ys)) := by
  have : joinD a (.list (ys.map .str)) = (match strsOf (ys.map .str) with
    | some ys => if (ys.map (·.length)).sum + ys.length * a.length ≤ 16777216 then .ok (.str (Txt.join a ys)) else .bad
    | none => .bad) := rfl
  rw [this, strsOf_map]
  exact if_pos h
theorem sum_le {ys : List Str} {k : Nat} (h : ∀ y ∈ ys, y.length ≤ k) : (ys.map (·.length)).sum ≤ ys.length * k := by
  induction ys with
  | nil => simp
  | cons y ys ih =>
    have := ih fun z m => h z (List.mem_cons_of_mem _ m)
    have := h y List.mem_cons_self
    rw [List.map_cons, List.sum_cons, List.length_cons, Nat.add_mul]
    omega
theorem join_len {a : Str} {ys : List Str} (ha : a.length = 1) {k : Nat} (h : ∀ y ∈ ys, y.length ≤ k) (n : ys.length ≤ 1000) (hk : k ≤ 10000) : joinD a (.list (ys.map .str)) = .ok (.str (Txt.join a ys)) := by
  refine join_eq' ?_
  have h1 := sum_le h
  have h2 : ys.length * k ≤ 1000 * 10000 := Nat.mul_le_mul n hk
  rw [ha]
  omega
theorem jl_len (s : Nat) : ∀ ps : List (List Nat), (TL.joinL [s] ps).length ≤ (ps.map List.length).sum + ps.length
  | [] => by simp [TL.joinL]
  | [q] => by simp [TL.joinL]
  | q :: r :: ps => by
    show (q ++ ([s] ++ TL.joinL [s] (r :: ps))).length ≤ _
    have := jl_len s (r :: ps)
    rw [List.length_append, List.length_append, List.map_cons, List.sum_cons, List.length_cons (a := q), List.length_singleton]
    omega
theorem jn_len {y : Str} {s : Nat} (ey : TL.tl y = [s]) (hs : s < 256) {ys : List Str} {k : Nat} (h : ∀ x ∈ ys, x.length ≤ k) : (Txt.join y ys).length ≤ ys.length * k + ys.length := by
  rw [TL.len_tl, join_tl ey hs]
  have h1 := jl_len s (ys.map TL.tl)
  have h2 := sum_le h
  have e : (ys.map TL.tl).map List.length = ys.map (·.length) := by
    rw [List.map_map]
    exact List.map_congr_left fun x _ => (TL.len_tl x).symm
  rw [e, List.length_map] at h1
  omega
theorem pw_inc : ∀ {ns : List Int}, ns.Pairwise (· < ·) → incB ns = true
  | [], _ => rfl
  | [p], _ => rfl
  | p :: q :: r, h => by
    cases h with
    | cons h1 h2 =>
      show (decide (p < q) && incB (q :: r)) = true
      rw [decide_eq_true (h1 q List.mem_cons_self), pw_inc h2]
      rfl
theorem enum_edge (ps : List (Int × Int)) : enumD (.tuple (ps.map edgeD)) = .ok ((rg ps.length).map fun z => .tuple [.int z, edgeD (eg ps z)]) := by
  have : enumD (.tuple (ps.map edgeD)) = .ok (enumL (ps.map edgeD)) := rfl
  rw [this]
  congr 1
  refine List.ext_getElem? fun i => ?_
  by_cases hi : i < ps.length
  · rw [enumL_at (d := edgeD ps[i]) (by rw [List.getElem?_map, List.getElem?_eq_getElem hi]; rfl)]
    unfold rg eg
    simp [hi]
  · rw [List.getElem?_eq_none (by rw [enumL_len, List.length_map]; omega), List.getElem?_eq_none (by rw [List.length_map]; unfold rg; simp; omega)]
theorem sp1 : (" " : Str).length = 1 := by kernel_rfl
theorem nl1 : ("\n" : Str).length = 1 := by kernel_rfl
theorem wd_ok (b : Bool) : PyData.strOk (wd b) = true ∧ (wd b).length ≤ 6 ∧ 32 ∉ TL.tl (wd b) ∧ 10 ∉ TL.tl (wd b) := by cases b <;> decide +kernel
section
variable {v : Int} {ps : List (Int × Int)} (gk : Gok v ps) {ws : List Int} (hl : ws.length = v.toNat) (hw : ∀ w ∈ ws, 0 ≤ w ∧ w ≤ 6) {c : List Int} (hc : Ch ps.length c)
include gk hl hw
theorem toks1 : (∀ y ∈ (("wishes" : Str) :: ws.map dS), y.length ≤ 6) ∧ (("wishes" : Str) :: ws.map dS).length ≤ 8 := by
  have := gk.hi
  refine ⟨fun y m => ?_, by rw [List.length_cons, List.length_map]; omega⟩
  rcases List.mem_cons.mp m with rfl | m
  · exact (by decide +kernel : ("wishes" : Str).length ≤ 6)
  · obtain ⟨w, mw, rfl⟩ := List.mem_map.mp m
    have := hw w mw
    rw [(dS_ok this.1 (by omega)).2.1]
    decide
include hc
theorem format_choice_eq : m_format_choice [graphD v ps, tI ws, tI c] = .ok (.str (fmt ps ws c)) := by
  rw [r_format_choice]
  have pl := gk.len
  have sz := sz1000000
  have cw := cw_ok gk hl hw
  have cc : m_check_choice [graphD v ps, tI c] = .ok .none := by
    have : isC ps.length (tI c) = true := by
      show ((c.map PyData.int).all (inR 0 ((ps.length : Int) - 1)) && incB ((c.map PyData.int).map unI)) = true
      have e : (c.map PyData.int).map unI = c := by
        rw [List.map_map]
        conv => rhs; rw [← List.map_id c]
        rfl
      rw [e, pw_inc hc.1, Bool.and_true, List.all_eq_true]
      intro x mx
      obtain ⟨z, mz, rfl⟩ := List.mem_map.mp mx
      have := hc.2 z mz
      simp [inR]
      omega
    rw [check_choice_eq, this]
    rfl
  have g1 : ixD (graphD v ps) (.int 1) = .ok (.tuple (ps.map edgeD)) := gix1
  generalize graphD v ps = G at *
  have sq : seqD (tI ws) = .ok (ws.map .int) := rfl
  have c1' := compM (ft := gN 8) (fc := wYes) (fe := ce_format_choice_1) (r0 := [.dat G, .dat (tI ws), .dat (tI c), .un, .un, .un, .un, .un, .un]) PyData.int (fun _ => true) (fun w => .str (dS w)) ws (by
    intro w mw
    have := hw w mw
    refine ⟨_, rfl, rfl, fun _ => ?_⟩
    simp only [ce_format_choice_1, sSeq_ap, sIf_ap, sRet_ap, sExpr_ap, sSet_ap, sSetO_ap, sFor_ap, sFz_ap, sFzb_ap, sAsg_ap, sSetItem_ap, sAugItem_ap, sAug_ap, sRaise_ap, sNil_ap, sBad_ap, mutO_ap, cA_ap, cNot_ap, cAnd_ap, cOr_ap, cIf_ap, cTup_ap, cLst_ap, pNone_ap, pSome_ap, wAnd_ap, wOr_ap, wNot_ap, wTru_ap, wCmp_ap, wYes_ap, iA_ap, iS_ap, aNil_ap, aCons_ap, kR_ap, b2_ap, b3_ap, c1_ap, chainD_ap, lcF_ap, datE_ap, datB_ap, ownAt_ap, endO_rt, endO_nx, endO_exc, endO_bad, bn_ok, bn_exc, bn_bad, to_ok, to_exc, to_bad, sq_nx, sq_rt, sq_bk, sq_ct, sq_exc, sq_bad, andR_ok, orR_ok, notR_ok, andV_ok, orV_ok, notV_ok, ifV_ok, truD_b, boolD_b, intD_i, tupR0, tupR1, tupR2, tupR3, tupR4, lstR0, lstR1, lstR2, lstR3, lstR4, lstR5, lstR6, lstR7, lstR8, lstR9, negD_i, slA3_l, slA3_t, tupleD_l, tupleD_t, listD_l, listD_t, revD_t, addE_ii, subD_ii, leD_ii, ltD_ii, geD_ii, gtI_ii, eqD_ii, neD_ii, isi_tup_tup, isi_tup_list, isi_tup_none, isi_tup_int, isi_tup_bool, isi_tup_str, isi_tup_dict, isi_int_int, isi_int_bool, isi_int_none, isi_int_str, isi_int_list, isi_int_tup, isi_int_dict, isi_bool_int, isi_bool_bool, isi_bool_none, isi_bool_str, isi_bool_list, isi_bool_tup, isi_bool_dict, lenD_t, lenD_l, seqD_l, seqD_t, List.getElem?_cons_zero, List.getElem?_cons_succ, List.set_cons_zero, List.set_cons_succ, ↓reduceIte, Bool.false_eq_true, Bool.not_true, Bool.not_false, sWp_ap, sWq_ap, wipeO_nx, wipeO_rt, wipeO_bk, wipeO_ct, wipeO_exc, wipeO_bad, wipeE_nil, wipeE_cons, fzE_ap, DL.ownO_l, asgO_2, DL.truD_l, DL.truD_t, datI_ap, augN_ap, zip2_tt, zip2_ll, sPar_ap, wFz_ap, (strD_eq this.1 (by omega : w ≤ 9)).1])
  rw [filt_true] at c1'
  have c1'' : compL (gN 8) wYes ce_format_choice_1 [.dat G, .dat (tI ws), .dat (tI c), .un, .un, .un, .un, .un, .un] (ws.map .int) = .ok ((ws.map dS).map .str) := by
    rw [c1', List.map_map]
    rfl
  obtain ⟨t1, t2⟩ := toks1 gk hl hw
  have ad : addE (.list [.str "wishes"]) (.list ((ws.map dS).map .str)) = .ok (.list ((("wishes" : Str) :: ws.map dS).map .str)) := by
    have : addE (.list [.str "wishes"]) (.list ((ws.map dS).map .str)) = .ok (.list ([.str "wishes"] ++ (ws.map dS).map .str)) := addE_ll (by rw [List.length_map, List.length_map]; simp; have := gk.hi; omega)
    rw [this]
    rfl
  have j1 : joinD " " (.list ((("wishes" : Str) :: ws.map dS).map .str)) = .ok (.str (ln1 ws)) := join_len sp1 t1 (by omega) (by decide)
  have lp := (forM (ft := gT (gsC (gN 4) (gsC (gT (gsC (gN 5) (gsC (gN 6) gsN))) gsN))) (fb := b_format_choice_1) (fun z => .tuple [.int z, edgeD (eg ps z)]) (fun acc : List Str => [.dat G, .dat (tI ws), .dat (tI c), .own (acc.map .str), .un, .un, .un, .un, .un]) (fun acc z => acc ++ [ln2 (eg ps z).1 (eg ps z).2 (wd (decide (z ∈ c)))]) (fun acc u => acc.length + u.length ≤ 100 ∧ ∀ z ∈ u, 0 ≤ z ∧ z < (ps.length : Int)) (rg ps.length) [ln1 ws] (by
    rintro acc z u ⟨h1, h2⟩
    have hz := h2 z List.mem_cons_self
    rw [List.length_cons] at h1
    have he := gk.ed _ (eg_mem hz.1 hz.2)
    have h7 := gk.hi
    have ii := in_tI z c
    have f1 := (strD_eq he.1 (by omega : (eg ps z).1 ≤ 9)).2
    have f2 := (strD_eq (d := (eg ps z).2) (by omega) (by omega)).2
    have la := (dS_ok he.1 (by omega : (eg ps z).1 ≤ 9)).2.1
    have lb := (dS_ok (d := (eg ps z).2) (by omega) (by omega)).2.1
    have lw := wd_ok (decide (z ∈ c))
    have f3 : fmtD (.str (wd (decide (z ∈ c)))) = .ok (.str (wd (decide (z ∈ c)))) := if_pos (by omega)
    have ga : gApp (acc.map .str) [.str (ln2 (eg ps z).1 (eg ps z).2 (wd (decide (z ∈ c))))] = some (acc.map .str ++ [.str (ln2 (eg ps z).1 (eg ps z).2 (wd (decide (z ∈ c))))]) := gApp_ok (by rw [List.length_map]; omega)
    have fs : fsF [c1 fmtD (datB 5), kR (.str " "), c1 fmtD (datB 6), kR (.str " "), c1 fmtD (datB 7)] [.dat G, .dat (tI ws), .dat (tI c), .own (acc.map .str), .dat (.int z), .dat (.int (eg ps z).1), .dat (.int (eg ps z).2), .dat (.str (wd (decide (z ∈ c)))), .un] = .ok (.str (ln2 (eg ps z).1 (eg ps z).2 (wd (decide (z ∈ c))))) :=
      fs5 (by simp only [sSeq_ap, sIf_ap, sRet_ap, sExpr_ap, sSet_ap, sSetO_ap, sFor_ap, sFz_ap, sFzb_ap, sAsg_ap, sSetItem_ap, sAugItem_ap, sAug_ap, sRaise_ap, sNil_ap, sBad_ap, mutO_ap, cA_ap, cNot_ap, cAnd_ap, cOr_ap, cIf_ap, cTup_ap, cLst_ap, pNone_ap, pSome_ap, wAnd_ap, wOr_ap, wNot_ap, wTru_ap, wCmp_ap, wYes_ap, iA_ap, iS_ap, aNil_ap, aCons_ap, kR_ap, b2_ap, b3_ap, c1_ap, chainD_ap, lcF_ap, datE_ap, datB_ap, ownAt_ap, endO_rt, endO_nx, endO_exc, endO_bad, bn_ok, bn_exc, bn_bad, to_ok, to_exc, to_bad, sq_nx, sq_rt, sq_bk, sq_ct, sq_exc, sq_bad, andR_ok, orR_ok, notR_ok, andV_ok, orV_ok, notV_ok, ifV_ok, truD_b, boolD_b, intD_i, tupR0, tupR1, tupR2, tupR3, tupR4, lstR0, lstR1, lstR2, lstR3, lstR4, lstR5, lstR6, lstR7, lstR8, lstR9, negD_i, slA3_l, slA3_t, tupleD_l, tupleD_t, listD_l, listD_t, revD_t, addE_ii, subD_ii, leD_ii, ltD_ii, geD_ii, gtI_ii, eqD_ii, neD_ii, isi_tup_tup, isi_tup_list, isi_tup_none, isi_tup_int, isi_tup_bool, isi_tup_str, isi_tup_dict, isi_int_int, isi_int_bool, isi_int_none, isi_int_str, isi_int_list, isi_int_tup, isi_int_dict, isi_bool_int, isi_bool_bool, isi_bool_none, isi_bool_str, isi_bool_list, isi_bool_tup, isi_bool_dict, lenD_t, lenD_l, seqD_l, seqD_t, List.getElem?_cons_zero, List.getElem?_cons_succ, List.set_cons_zero, List.set_cons_succ, ↓reduceIte, Bool.false_eq_true, Bool.not_true, Bool.not_false, sWp_ap, sWq_ap, wipeO_nx, wipeO_rt, wipeO_bk, wipeO_ct, wipeO_exc, wipeO_bad, wipeE_nil, wipeE_cons, fzE_ap, DL.ownO_l, asgO_2, DL.truD_l, DL.truD_t, datI_ap, augN_ap, zip2_tt, zip2_ll, sPar_ap, wFz_ap, f1]) (by simp only [sSeq_ap, sIf_ap, sRet_ap, sExpr_ap, sSet_ap, sSetO_ap, sFor_ap, sFz_ap, sFzb_ap, sAsg_ap, sSetItem_ap, sAugItem_ap, sAug_ap, sRaise_ap, sNil_ap, sBad_ap, mutO_ap, cA_ap, cNot_ap, cAnd_ap, cOr_ap, cIf_ap, cTup_ap, cLst_ap, pNone_ap, pSome_ap, wAnd_ap, wOr_ap, wNot_ap, wTru_ap, wCmp_ap, wYes_ap, iA_ap, iS_ap, aNil_ap, aCons_ap, kR_ap, b2_ap, b3_ap, c1_ap, chainD_ap, lcF_ap, datE_ap, datB_ap, ownAt_ap, endO_rt, endO_nx, endO_exc, endO_bad, bn_ok, bn_exc, bn_bad, to_ok, to_exc, to_bad, sq_nx, sq_rt, sq_bk, sq_ct, sq_exc, sq_bad, andR_ok, orR_ok, notR_ok, andV_ok, orV_ok, notV_ok, ifV_ok, truD_b, boolD_b, intD_i, tupR0, tupR1, tupR2, tupR3, tupR4, lstR0, lstR1, lstR2, lstR3, lstR4, lstR5, lstR6, lstR7, lstR8, lstR9, negD_i, slA3_l, slA3_t, tupleD_l, tupleD_t, listD_l, listD_t, revD_t, addE_ii, subD_ii, leD_ii, ltD_ii, geD_ii, gtI_ii, eqD_ii, neD_ii, isi_tup_tup, isi_tup_list, isi_tup_none, isi_tup_int, isi_tup_bool, isi_tup_str, isi_tup_dict, isi_int_int, isi_int_bool, isi_int_none, isi_int_str, isi_int_list, isi_int_tup, isi_int_dict, isi_bool_int, isi_bool_bool, isi_bool_none, isi_bool_str, isi_bool_list, isi_bool_tup, isi_bool_dict, lenD_t, lenD_l, seqD_l, seqD_t, List.getElem?_cons_zero, List.getElem?_cons_succ, List.set_cons_zero, List.set_cons_succ, ↓reduceIte, Bool.false_eq_true, Bool.not_true, Bool.not_false, sWp_ap, sWq_ap, wipeO_nx, wipeO_rt, wipeO_bk, wipeO_ct, wipeO_exc, wipeO_bad, wipeE_nil, wipeE_cons, fzE_ap, DL.ownO_l, asgO_2, DL.truD_l, DL.truD_t, datI_ap, augN_ap, zip2_tt, zip2_ll, sPar_ap, wFz_ap, f2]) (by simp only [sSeq_ap, sIf_ap, sRet_ap, sExpr_ap, sSet_ap, sSetO_ap, sFor_ap, sFz_ap, sFzb_ap, sAsg_ap, sSetItem_ap, sAugItem_ap, sAug_ap, sRaise_ap, sNil_ap, sBad_ap, mutO_ap, cA_ap, cNot_ap, cAnd_ap, cOr_ap, cIf_ap, cTup_ap, cLst_ap, pNone_ap, pSome_ap, wAnd_ap, wOr_ap, wNot_ap, wTru_ap, wCmp_ap, wYes_ap, iA_ap, iS_ap, aNil_ap, aCons_ap, kR_ap, b2_ap, b3_ap, c1_ap, chainD_ap, lcF_ap, datE_ap, datB_ap, ownAt_ap, endO_rt, endO_nx, endO_exc, endO_bad, bn_ok, bn_exc, bn_bad, to_ok, to_exc, to_bad, sq_nx, sq_rt, sq_bk, sq_ct, sq_exc, sq_bad, andR_ok, orR_ok, notR_ok, andV_ok, orV_ok, notV_ok, ifV_ok, truD_b, boolD_b, intD_i, tupR0, tupR1, tupR2, tupR3, tupR4, lstR0, lstR1, lstR2, lstR3, lstR4, lstR5, lstR6, lstR7, lstR8, lstR9, negD_i, slA3_l, slA3_t, tupleD_l, tupleD_t, listD_l, listD_t, revD_t, addE_ii, subD_ii, leD_ii, ltD_ii, geD_ii, gtI_ii, eqD_ii, neD_ii, isi_tup_tup, isi_tup_list, isi_tup_none, isi_tup_int, isi_tup_bool, isi_tup_str, isi_tup_dict, isi_int_int, isi_int_bool, isi_int_none, isi_int_str, isi_int_list, isi_int_tup, isi_int_dict, isi_bool_int, isi_bool_bool, isi_bool_none, isi_bool_str, isi_bool_list, isi_bool_tup, isi_bool_dict, lenD_t, lenD_l, seqD_l, seqD_t, List.getElem?_cons_zero, List.getElem?_cons_succ, List.set_cons_zero, List.set_cons_succ, ↓reduceIte, Bool.false_eq_true, Bool.not_true, Bool.not_false, sWp_ap, sWq_ap, wipeO_nx, wipeO_rt, wipeO_bk, wipeO_ct, wipeO_exc, wipeO_bad, wipeE_nil, wipeE_cons, fzE_ap, DL.ownO_l, asgO_2, DL.truD_l, DL.truD_t, datI_ap, augN_ap, zip2_tt, zip2_ll, sPar_ap, wFz_ap, f3]) (by omega)
    refine ⟨[.dat G, .dat (tI ws), .dat (tI c), .own (acc.map .str), .dat (.int z), .dat (.int (eg ps z).1), .dat (.int (eg ps z).2), .un, .un], rfl, ?_, by rw [List.length_append]; simp; omega, fun y m => h2 y (List.mem_cons_of_mem _ m)⟩
    by_cases q : z ∈ c
    · have dq : decide (z ∈ c) = true := decide_eq_true q
      rw [dq] at ii fs ga
      rw [dq]
      have ew : wd true = "chosen" := rfl
      rw [ew] at fs ga ⊢
      simp only [b_format_choice_1, sSeq_ap, sIf_ap, sRet_ap, sExpr_ap, sSet_ap, sSetO_ap, sFor_ap, sFz_ap, sFzb_ap, sAsg_ap, sSetItem_ap, sAugItem_ap, sAug_ap, sRaise_ap, sNil_ap, sBad_ap, mutO_ap, cA_ap, cNot_ap, cAnd_ap, cOr_ap, cIf_ap, cTup_ap, cLst_ap, pNone_ap, pSome_ap, wAnd_ap, wOr_ap, wNot_ap, wTru_ap, wCmp_ap, wYes_ap, iA_ap, iS_ap, aNil_ap, aCons_ap, kR_ap, b2_ap, b3_ap, c1_ap, chainD_ap, lcF_ap, datE_ap, datB_ap, ownAt_ap, endO_rt, endO_nx, endO_exc, endO_bad, bn_ok, bn_exc, bn_bad, to_ok, to_exc, to_bad, sq_nx, sq_rt, sq_bk, sq_ct, sq_exc, sq_bad, andR_ok, orR_ok, notR_ok, andV_ok, orV_ok, notV_ok, ifV_ok, truD_b, boolD_b, intD_i, tupR0, tupR1, tupR2, tupR3, tupR4, lstR0, lstR1, lstR2, lstR3, lstR4, lstR5, lstR6, lstR7, lstR8, lstR9, negD_i, slA3_l, slA3_t, tupleD_l, tupleD_t, listD_l, listD_t, revD_t, addE_ii, subD_ii, leD_ii, ltD_ii, geD_ii, gtI_ii, eqD_ii, neD_ii, isi_tup_tup, isi_tup_list, isi_tup_none, isi_tup_int, isi_tup_bool, isi_tup_str, isi_tup_dict, isi_int_int, isi_int_bool, isi_int_none, isi_int_str, isi_int_list, isi_int_tup, isi_int_dict, isi_bool_int, isi_bool_bool, isi_bool_none, isi_bool_str, isi_bool_list, isi_bool_tup, isi_bool_dict, lenD_t, lenD_l, seqD_l, seqD_t, List.getElem?_cons_zero, List.getElem?_cons_succ, List.set_cons_zero, List.set_cons_succ, ↓reduceIte, Bool.false_eq_true, Bool.not_true, Bool.not_false, sWp_ap, sWq_ap, wipeO_nx, wipeO_rt, wipeO_bk, wipeO_ct, wipeO_exc, wipeO_bad, wipeE_nil, wipeE_cons, fzE_ap, DL.ownO_l, asgO_2, DL.truD_l, DL.truD_t, datI_ap, augN_ap, zip2_tt, zip2_ll, sPar_ap, wFz_ap, ii, fs, ga, List.map_append, List.map_cons, List.map_nil]
    · have dq : decide (z ∈ c) = false := decide_eq_false q
      rw [dq] at ii fs ga
      rw [dq]
      have ew : wd false = "free" := rfl
      rw [ew] at fs ga ⊢
      simp only [b_format_choice_1, sSeq_ap, sIf_ap, sRet_ap, sExpr_ap, sSet_ap, sSetO_ap, sFor_ap, sFz_ap, sFzb_ap, sAsg_ap, sSetItem_ap, sAugItem_ap, sAug_ap, sRaise_ap, sNil_ap, sBad_ap, mutO_ap, cA_ap, cNot_ap, cAnd_ap, cOr_ap, cIf_ap, cTup_ap, cLst_ap, pNone_ap, pSome_ap, wAnd_ap, wOr_ap, wNot_ap, wTru_ap, wCmp_ap, wYes_ap, iA_ap, iS_ap, aNil_ap, aCons_ap, kR_ap, b2_ap, b3_ap, c1_ap, chainD_ap, lcF_ap, datE_ap, datB_ap, ownAt_ap, endO_rt, endO_nx, endO_exc, endO_bad, bn_ok, bn_exc, bn_bad, to_ok, to_exc, to_bad, sq_nx, sq_rt, sq_bk, sq_ct, sq_exc, sq_bad, andR_ok, orR_ok, notR_ok, andV_ok, orV_ok, notV_ok, ifV_ok, truD_b, boolD_b, intD_i, tupR0, tupR1, tupR2, tupR3, tupR4, lstR0, lstR1, lstR2, lstR3, lstR4, lstR5, lstR6, lstR7, lstR8, lstR9, negD_i, slA3_l, slA3_t, tupleD_l, tupleD_t, listD_l, listD_t, revD_t, addE_ii, subD_ii, leD_ii, ltD_ii, geD_ii, gtI_ii, eqD_ii, neD_ii, isi_tup_tup, isi_tup_list, isi_tup_none, isi_tup_int, isi_tup_bool, isi_tup_str, isi_tup_dict, isi_int_int, isi_int_bool, isi_int_none, isi_int_str, isi_int_list, isi_int_tup, isi_int_dict, isi_bool_int, isi_bool_bool, isi_bool_none, isi_bool_str, isi_bool_list, isi_bool_tup, isi_bool_dict, lenD_t, lenD_l, seqD_l, seqD_t, List.getElem?_cons_zero, List.getElem?_cons_succ, List.set_cons_zero, List.set_cons_succ, ↓reduceIte, Bool.false_eq_true, Bool.not_true, Bool.not_false, sWp_ap, sWq_ap, wipeO_nx, wipeO_rt, wipeO_bk, wipeO_ct, wipeO_exc, wipeO_bad, wipeE_nil, wipeE_cons, fzE_ap, DL.ownO_l, asgO_2, DL.truD_l, DL.truD_t, datI_ap, augN_ap, zip2_tt, zip2_ll, sPar_ap, wFz_ap, ii, fs, ga, List.map_append, List.map_cons, List.map_nil]) ⟨by rw [show (rg ps.length).length = ps.length by unfold rg; simp]; simp; omega, fun z m => rg_mem.mp m⟩).1
  have fe : ∀ (l : List Int) (a : List Str), l.foldl (fun acc z => acc ++ [ln2 (eg ps z).1 (eg ps z).2 (wd (decide (z ∈ c)))]) a = a ++ l.map fun z => ln2 (eg ps z).1 (eg ps z).2 (wd (decide (z ∈ c))) := by
    intro l
    induction l with
    | nil => intro a; simp
    | cons p l ih => intro a; rw [List.foldl_cons, ih]; simp
  rw [fe] at lp
  have en := enum_edge ps
  have lp' : forL (gT (gsC (gN 4) (gsC (gT (gsC (gN 5) (gsC (gN 6) gsN))) gsN))) b_format_choice_1 ((rg ps.length).map fun z => .tuple [.int z, edgeD (eg ps z)]) [.dat G, .dat (tI ws), .dat (tI c), .own [.str (ln1 ws)], .un, .un, .un, .un, .un] = .nx [.dat G, .dat (tI ws), .dat (tI c), .own ((ln1 ws :: lns ps c).map .str), .un, .un, .un, .un, .un] := lp
  have jl : joinD "\n" (.list ((ln1 ws :: lns ps c).map .str)) = .ok (.str (fmt ps ws c)) := by
    refine join_len nl1 (k := 100) (fun y m => ?_) ?_ (by decide)
    · rcases List.mem_cons.mp m with rfl | m
      · have := jn_len tl_sp (by decide) t1
        have this : (ln1 ws).length ≤ (("wishes" : Str) :: ws.map dS).length * 6 + (("wishes" : Str) :: ws.map dS).length := this
        omega
      · obtain ⟨z, mz, rfl⟩ := List.mem_map.mp m
        have hz := rg_mem.mp mz
        have he := gk.ed _ (eg_mem hz.1 hz.2)
        have h7 := gk.hi
        have la := (dS_ok he.1 (by omega : (eg ps z).1 ≤ 9)).2.1
        have lb := (dS_ok (d := (eg ps z).2) (by omega) (by omega)).2.1
        have lw := wd_ok (decide (z ∈ c))
        have := jn_len tl_sp (by decide) (ys := [dS (eg ps z).1, dS (eg ps z).2, wd (decide (z ∈ c))]) (k := 6) (fun x mx => by
          simp only [List.mem_cons, List.not_mem_nil, or_false] at mx
          rcases mx with rfl | rfl | rfl <;> omega)
        have this : (ln2 (eg ps z).1 (eg ps z).2 (wd (decide (z ∈ c)))).length ≤ 3 * 6 + 3 := this
        omega
    · rw [List.length_cons]
      unfold lns rg
      simp
      omega
  simp only [f_format_choice, sSeq_ap, sIf_ap, sRet_ap, sExpr_ap, sSet_ap, sSetO_ap, sFor_ap, sFz_ap, sFzb_ap, sAsg_ap, sSetItem_ap, sAugItem_ap, sAug_ap, sRaise_ap, sNil_ap, sBad_ap, mutO_ap, cA_ap, cNot_ap, cAnd_ap, cOr_ap, cIf_ap, cTup_ap, cLst_ap, pNone_ap, pSome_ap, wAnd_ap, wOr_ap, wNot_ap, wTru_ap, wCmp_ap, wYes_ap, iA_ap, iS_ap, aNil_ap, aCons_ap, kR_ap, b2_ap, b3_ap, c1_ap, chainD_ap, lcF_ap, datE_ap, datB_ap, ownAt_ap, endO_rt, endO_nx, endO_exc, endO_bad, bn_ok, bn_exc, bn_bad, to_ok, to_exc, to_bad, sq_nx, sq_rt, sq_bk, sq_ct, sq_exc, sq_bad, andR_ok, orR_ok, notR_ok, andV_ok, orV_ok, notV_ok, ifV_ok, truD_b, boolD_b, intD_i, tupR0, tupR1, tupR2, tupR3, tupR4, lstR0, lstR1, lstR2, lstR3, lstR4, lstR5, lstR6, lstR7, lstR8, lstR9, negD_i, slA3_l, slA3_t, tupleD_l, tupleD_t, listD_l, listD_t, revD_t, addE_ii, subD_ii, leD_ii, ltD_ii, geD_ii, gtI_ii, eqD_ii, neD_ii, isi_tup_tup, isi_tup_list, isi_tup_none, isi_tup_int, isi_tup_bool, isi_tup_str, isi_tup_dict, isi_int_int, isi_int_bool, isi_int_none, isi_int_str, isi_int_list, isi_int_tup, isi_int_dict, isi_bool_int, isi_bool_bool, isi_bool_none, isi_bool_str, isi_bool_list, isi_bool_tup, isi_bool_dict, lenD_t, lenD_l, seqD_l, seqD_t, List.getElem?_cons_zero, List.getElem?_cons_succ, List.set_cons_zero, List.set_cons_succ, ↓reduceIte, Bool.false_eq_true, Bool.not_true, Bool.not_false, sWp_ap, sWq_ap, wipeO_nx, wipeO_rt, wipeO_bk, wipeO_ct, wipeO_exc, wipeO_bad, wipeE_nil, wipeE_cons, fzE_ap, DL.ownO_l, asgO_2, DL.truD_l, DL.truD_t, datI_ap, augN_ap, zip2_tt, zip2_ll, sPar_ap, wFz_ap, cw, cc, sq, c1'', ad, m1, j1, g1, en, lp', jl]
end
/-! ### what was read is what is written -/
theorem pL1_ln {x : Str} {ws : List Int} (h : pL1 x = some ws) : x = ln1 ws := by
  have e : Txt.join " " (Txt.split x " ") = x := (split_ok tl_sp (by decide) x).1
  unfold pL1 at h
  generalize Txt.split x " " = T at *
  cases T with
  | nil => cases h
  | cons w ts =>
    have h : (if w = "wishes" ∧ ts ≠ [] then pAll ts else none) = some ws := h
    by_cases k : w = "wishes" ∧ ts ≠ []
    · rw [if_pos k] at h
      unfold pAll at h
      by_cases q : none ∈ ts.map pd
      · rw [if_pos q] at h; cases h
      · rw [if_neg q] at h
        cases h
        rw [← e, k.1]
        unfold ln1
        congr 2
        rw [List.map_map]
        conv => lhs; rw [← List.map_id ts]
        refine List.map_congr_left fun t mt => ?_
        cases ep : pd t with
        | none => exact absurd (List.mem_map.mpr ⟨t, mt, ep⟩) q
        | some d =>
          simp only [Function.comp, ep, Option.getD_some]
          exact (dS_pd ep).1
    · rw [if_neg k] at h
      cases h
theorem pL2_ln {x : Str} {p : Int × Int × Str} (h : pL2 x = some p) : x = ln2 p.1 p.2.1 p.2.2 ∧ (p.2.2 = "chosen" ∨ p.2.2 = "free") := by
  have e : Txt.join " " (Txt.split x " ") = x := (split_ok tl_sp (by decide) x).1
  unfold pL2 at h
  generalize Txt.split x " " = T at *
  by_cases l3 : T.length = 3
  · obtain ⟨a, b, w, rfl⟩ : ∃ a b w, T = [a, b, w] := by
      match T, l3 with
      | [a, b, w], _ => exact ⟨a, b, w, rfl⟩
    have h : (if w = "chosen" ∨ w = "free" then (match pd a, pd b with
      | some x, some y => some (x, y, w)
      | _, _ => none) else none) = some p := h
    by_cases k : w = "chosen" ∨ w = "free"
    · rw [if_pos k] at h
      cases ea : pd a with
      | none => rw [ea] at h; cases h
      | some i =>
        cases eb : pd b with
        | none => rw [ea, eb] at h; cases h
        | some j =>
          rw [ea, eb] at h
          cases h
          refine ⟨?_, k⟩
          rw [← e, (dS_pd ea).1, (dS_pd eb).1]
          rfl
    · rw [if_neg k] at h
      cases h
  · rw [pT2_ne l3] at h
    cases h
theorem gok_isG {v : Int} {ps : List (Int × Int)} (h : isG (graphD v ps) = true) : Gok v ps := by
  have h : ((decide (1 ≤ v) && decide (v ≤ 7)) && (decide ((ps.map edgeD).length ≤ 12) && ((ps.map edgeD).all (isE v) && chn ((ps.map edgeD).map unE)))) = true := h
  simp only [Bool.and_eq_true, decide_eq_true_eq, List.length_map] at h
  obtain ⟨⟨h1, h2⟩, h3, h4, h5⟩ := h
  rw [map_unE] at h5
  refine ⟨h1, h2, fun p mp => ?_, h5, h3⟩
  have := List.all_eq_true.mp h4 (edgeD p) (List.mem_map.mpr ⟨p, mp, rfl⟩)
  simp [isE, edgeD, inR] at this
  omega
def d3 : Int × Int × Str := (0, 0, "free")
theorem zip_rg3 (ps : List (Int × Int × Str)) : ps.zipIdx = (rg ps.length).map fun z => (ps.getD z.toNat d3, z.toNat) := by
  refine List.ext_getElem (by simp [rg]) fun i h1 h2 => ?_
  have hi : i < ps.length := by simpa using h1
  unfold rg
  simp [hi]
theorem chs3_eq (ps : List (Int × Int × Str)) : chs3 ps = (rg ps.length).filter fun z => decide ((ps.getD z.toNat d3).2.2 = ("chosen" : Str)) := by
  unfold chs3
  rw [zip_rg3, List.filter_map, List.map_map]
  conv => rhs; rw [← List.map_id ((rg ps.length).filter _)]
  refine List.map_congr_left fun z m => ?_
  have := rg_mem.mp (List.mem_filter.mp m).1
  simp only [Function.comp, id]
  omega
theorem chs3_ch (ps : List (Int × Int × Str)) : Ch ps.length (chs3 ps) := by
  rw [chs3_eq]
  exact ch_filter (ch_rg _) _
theorem lns3 {ps : List (Int × Int × Str)} (h : ∀ p ∈ ps, p.2.2 = "chosen" ∨ p.2.2 = "free") : (ps.map fun p => ln2 p.1 p.2.1 p.2.2) = lns (ps.map e2) (chs3 ps) := by
  unfold lns
  rw [List.length_map]
  refine List.ext_getElem (by simp [rg]) fun i h1 h2 => ?_
  have hi : i < ps.length := by simpa using h1
  have hm := h ps[i] (List.getElem_mem hi)
  have e0 : (rg ps.length)[i]'(by simp [rg]; exact hi) = (i : Int) := by simp [rg]
  rw [List.getElem_map, List.getElem_map, e0]
  have e1 : eg (ps.map e2) (i : Int) = e2 ps[i] := by
    unfold eg
    simp [hi]
  have e2' : (decide ((i : Int) ∈ chs3 ps)) = decide (ps[i].2.2 = ("chosen" : Str)) := by
    refine decide_eq_decide.mpr ?_
    rw [chs3_eq, List.mem_filter, rg_mem, decide_eq_true_iff]
    have : ps.getD (i : Int).toNat d3 = ps[i] := by simp [hi]
    rw [this]
    exact ⟨fun z => z.2, fun z => ⟨by omega, z⟩⟩
  rw [e1, e2']
  show ln2 ps[i].1 ps[i].2.1 ps[i].2.2 = ln2 ps[i].1 ps[i].2.1 _
  congr 1
  rcases hm with k | k
  · rw [decide_eq_true k, k]; rfl
  · rw [k, decide_eq_false (by decide +kernel)]; rfl
theorem isW_of {v : Int} {ws : List Int} (h : isW v (tI ws) = true) : ∀ w ∈ ws, 0 ≤ w ∧ w ≤ 6 := by
  have h : (decide (((ws.map PyData.int).length : Int) = v) && (ws.map PyData.int).all (inR 0 6)) = true := h
  obtain ⟨_, h2⟩ := Bool.and_eq_true_iff.mp h
  intro w mw
  have := List.all_eq_true.mp h2 (.int w) (List.mem_map.mpr ⟨w, mw, rfl⟩)
  simpa [inR] using this
theorem parse_fmt {t : Str} (hl : t.length ≤ 4000) (ok : PyData.strOk t = true) : (∃ d, m_law_parse [.str t] = .ok (.list [.str "line", d])) ∨
    ∃ v ps ws c, Gok v ps ∧ ws.length = v.toNat ∧ (∀ w ∈ ws, 0 ≤ w ∧ w ≤ 6) ∧ Ch ps.length c ∧ m_law_parse [.str t] = .ok (.tuple [graphD v ps, tI ws, tI c]) ∧ fmt ps ws c = t := by
  cases ef : (Txt.split t "\n").zipIdx.find? bd with
  | some p => exact .inl ⟨_, lparse_exc (parse_bad hl ok ef)⟩
  | none =>
    obtain ⟨_, _, ne⟩ := lines_ok hl ok
    obtain ⟨ws, ps, g⟩ := good_of ne ef
    obtain ⟨l0, ls, eL, h1, h2⟩ := g.h
    have wds : ∀ p ∈ ps, p.2.2 = "chosen" ∨ p.2.2 = "free" := fun p mp => by
      have : some p ∈ ls.map pL2 := by rw [h2]; exact List.mem_map.mpr ⟨p, mp, rfl⟩
      obtain ⟨x, _, ex⟩ := List.mem_map.mp this
      exact (pL2_ln ex).2
    have pg := parse_good hl ok g fun p mp => by
      rcases wds p mp with e | e
      · rw [e]; exact okC
      · rw [e]; exact okF
    by_cases k : isG (graphD (ws.length : Int) (ps.map e2)) = true ∧ isW (ws.length : Int) (tI ws) = true
    · rw [if_pos k] at pg
      refine .inr ⟨_, _, ws, chs3 ps, gok_isG k.1, by simp, isW_of k.2, by rw [List.length_map]; exact chs3_ch ps, lparse_ok pg, ?_⟩
      have el : ls = ps.map fun p => ln2 p.1 p.2.1 p.2.2 := by
        refine List.ext_getElem (by have := congrArg List.length h2; simpa using this) fun i a1 a2 => ?_
        have hi : i < ps.length := by simpa using a2
        have := congrArg (fun l => l[i]?) h2
        simp only [List.getElem?_map, List.getElem?_eq_getElem a1, List.getElem?_eq_getElem hi, Option.map_some] at this
        rw [List.getElem_map]
        exact (pL2_ln (Option.some.inj this)).1
      have e : Txt.join "\n" (Txt.split t "\n") = t := (split_ok tl_nl (by decide) t).1
      rw [eL, pL1_ln h1, el, lns3 wds] at e
      exact e
    · rw [if_neg k] at pg
      exact .inl ⟨_, lparse_exc pg⟩
/-! ### what was written is read back -/
theorem pd_all {ws : List Int} (h : ∀ w ∈ ws, 0 ≤ w ∧ w ≤ 9) : pAll (ws.map dS) = some ws := by
  have e : (ws.map dS).map pd = ws.map some := by
    rw [List.map_map]
    exact List.map_congr_left fun w m => pd_dS (h w m).1 (h w m).2
  have nn : none ∉ (ws.map dS).map pd := by
    rw [e]
    intro m
    obtain ⟨w, _, z⟩ := List.mem_map.mp m
    cases z
  unfold pAll
  rw [if_neg nn, List.map_map]
  congr 1
  conv => rhs; rw [← List.map_id ws]
  refine List.map_congr_left fun w m => ?_
  simp only [Function.comp, pd_dS (h w m).1 (h w m).2]
  rfl
theorem wish_ns : 32 ∉ TL.tl ("wishes" : Str) ∧ 10 ∉ TL.tl ("wishes" : Str) := by decide +kernel
theorem pL1_of {ws : List Int} (h : ∀ w ∈ ws, 0 ≤ w ∧ w ≤ 9) (ne : ws ≠ []) : pL1 (ln1 ws) = some ws := by
  have e : Txt.split (ln1 ws) " " = ("wishes" : Str) :: ws.map dS := join_split tl_sp (by decide) (by simp) fun p m => by
    rcases List.mem_cons.mp m with rfl | m
    · exact wish_ns.1
    · obtain ⟨w, mw, rfl⟩ := List.mem_map.mp m
      exact (dS_ok (h w mw).1 (h w mw).2).2.2.1
  unfold pL1
  rw [e]
  show (if ("wishes" : Str) = "wishes" ∧ ws.map dS ≠ [] then pAll (ws.map dS) else none) = _
  rw [if_pos ⟨rfl, by simpa using ne⟩, pd_all h]
theorem pL2_of {a b : Int} (ha : 0 ≤ a ∧ a ≤ 9) (hb : 0 ≤ b ∧ b ≤ 9) (x : Bool) : pL2 (ln2 a b (wd x)) = some (a, b, wd x) := by
  have e : Txt.split (ln2 a b (wd x)) " " = [dS a, dS b, wd x] := join_split tl_sp (by decide) (by simp) fun p m => by
    simp only [List.mem_cons, List.not_mem_nil, or_false] at m
    rcases m with rfl | rfl | rfl
    · exact (dS_ok ha.1 ha.2).2.2.1
    · exact (dS_ok hb.1 hb.2).2.2.1
    · exact (wd_ok x).2.2.1
  unfold pL2
  rw [e]
  show (if wd x = "chosen" ∨ wd x = "free" then (match pd (dS a), pd (dS b) with
    | some x', some y' => some (x', y', wd x)
    | _, _ => none) else none) = _
  rw [if_pos (by cases x <;> simp [wd]), pd_dS ha.1 ha.2, pd_dS hb.1 hb.2]
theorem no_nl {y : Str} {ys : List Str} (ey : TL.tl y = [32]) (h : ∀ p ∈ ys, 10 ∉ TL.tl p) : 10 ∉ TL.tl (Txt.join y ys) := by
  rw [join_tl ey (by decide)]
  have : ∀ ps : List (List Nat), (∀ p ∈ ps, 10 ∉ p) → 10 ∉ TL.joinL [32] ps := by
    intro ps
    induction ps with
    | nil => intro _ m; cases m
    | cons p ps ih =>
      intro hp
      cases ps with
      | nil => exact hp p List.mem_cons_self
      | cons q ps =>
        show 10 ∉ p ++ ([32] ++ TL.joinL [32] (q :: ps))
        intro m
        rcases List.mem_append.mp m with m | m
        · exact hp p List.mem_cons_self m
        · rcases List.mem_append.mp m with m | m
          · simp at m
          · exact ih (fun z mz => hp z (List.mem_cons_of_mem _ mz)) m
  exact this _ fun p m => by
    obtain ⟨x, mx, rfl⟩ := List.mem_map.mp m
    exact h x mx
/-- the first wrong line -/
theorem bad_at {A B : List Str} {w : Str} (hA : ∀ p ∈ A.zipIdx, bd p = false) (hw : bd (w, A.length) = true) : ((A ++ w :: B).zipIdx).find? bd = some (w, A.length) := by
  rw [List.zipIdx_append, List.find?_append]
  have : A.zipIdx.find? bd = none := List.find?_eq_none.mpr fun p m => by rw [hA p m]; exact Bool.false_ne_true
  rw [this, List.zipIdx_cons, List.find?_cons]
  simp [hw]
end K18
namespace K18
open PySem L2 DL Com
/-! ### texts of known signs -/
theorem ok_iff (s : Str) : PyData.strOk s = true ↔ ∀ c ∈ TL.tl s, c < 0x110000 := by
  unfold PyData.strOk
  rw [← Array.all_toList, List.all_eq_true]
  simp only [decide_eq_true_eq]
theorem len_app (x y : Str) : (x ++ y).length = x.length + y.length := by rw [TL.len_tl, TL.tl_append, List.length_append, ← TL.len_tl, ← TL.len_tl]
theorem ok_app {a b : Str} (ha : PyData.strOk a = true) (hb : PyData.strOk b = true) : PyData.strOk (a ++ b) = true := by
  rw [ok_iff] at *
  intro c m
  rw [TL.tl_append] at m
  exact (List.mem_append.mp m).elim (ha c) (hb c)
theorem ok_cut {z : Str} (lo hi : Option Int) (h : PyData.strOk z = true) : PyData.strOk (cutS z lo hi) = true := by
  rw [ok_iff] at *
  intro c m
  exact h c (List.mem_of_mem_drop (List.mem_of_mem_take m))
theorem joinL_mem (s : Nat) : ∀ (ps : List (List Nat)) (c : Nat), c ∈ TL.joinL [s] ps → c = s ∨ ∃ p ∈ ps, c ∈ p
  | [], c, m => by cases m
  | [p], c, m => .inr ⟨p, List.mem_cons_self, m⟩
  | p :: q :: ps, c, m => by
    have m : c ∈ p ++ ([s] ++ TL.joinL [s] (q :: ps)) := m
    rcases List.mem_append.mp m with m | m
    · exact .inr ⟨p, List.mem_cons_self, m⟩
    · rcases List.mem_append.mp m with m | m
      · exact .inl (List.mem_singleton.mp m)
      · rcases joinL_mem s (q :: ps) c m with h | ⟨r, mr, h⟩
        · exact .inl h
        · exact .inr ⟨r, List.mem_cons_of_mem _ mr, h⟩
theorem ok_join {y : Str} {s : Nat} (ey : TL.tl y = [s]) (hs : s < 256) {parts : List Str} (h : ∀ p ∈ parts, PyData.strOk p = true) : PyData.strOk (Txt.join y parts) = true := by
  rw [ok_iff]
  intro c m
  rw [join_tl ey hs] at m
  rcases joinL_mem s _ c m with rfl | ⟨p, mp, h'⟩
  · omega
  · obtain ⟨x, mx, rfl⟩ := List.mem_map.mp mp
    exact (ok_iff x).mp (h x mx) c h'
theorem ad_ss {a b : Str} (h : a.length + b.length ≤ 4000) : addE (.str a) (.str b) = .ok (.str (a ++ b)) := if_pos (by have := sz1000000; omega)
theorem sl_ss {a : Str} (lo hi : Option Int) (h : a.length ≤ 4000) : slS3 (.str a) lo hi = .ok (.str (cutS a lo hi)) := if_pos (by have := sz1000000; omega)
theorem len_s {a : Str} (h : a.length ≤ 4000) : lenD (.str a) = .ok (.int (a.length : Int)) := if_pos (by have := sz1000000; omega)
/-- a line with no line feed -/
structure Ln (y : Str) : Prop where
  l : y.length ≤ 60
  o : PyData.strOk y = true
  n : 10 ∉ TL.tl y
section
variable {v : Int} {ps : List (Int × Int)} (gk : Gok v ps) {ws : List Int} (hl : ws.length = v.toNat) (hw : ∀ w ∈ ws, 0 ≤ w ∧ w ≤ 6) (c : List Int)
include gk hl hw
theorem ln_ok : ∀ y ∈ ln1 ws :: lns ps c, Ln y := by
  intro y m
  obtain ⟨t1, t2⟩ := toks1 gk hl hw
  have h7 := gk.hi
  rcases List.mem_cons.mp m with rfl | m
  · have := jn_len tl_sp (by decide) t1
    have this : (ln1 ws).length ≤ (("wishes" : Str) :: ws.map dS).length * 6 + (("wishes" : Str) :: ws.map dS).length := this
    refine ⟨by omega, ok_join tl_sp (by decide) fun p mp => ?_, no_nl tl_sp fun p mp => ?_⟩
    · rcases List.mem_cons.mp mp with rfl | mp
      · exact okW
      · obtain ⟨w, mw, rfl⟩ := List.mem_map.mp mp
        have := hw w mw
        exact (dS_ok this.1 (by omega)).1
    · rcases List.mem_cons.mp mp with rfl | mp
      · exact wish_ns.2
      · obtain ⟨w, mw, rfl⟩ := List.mem_map.mp mp
        have := hw w mw
        exact (dS_ok this.1 (by omega)).2.2.2
  · obtain ⟨z, mz, rfl⟩ := List.mem_map.mp m
    have hz := rg_mem.mp mz
    have he := gk.ed _ (eg_mem hz.1 hz.2)
    have la := dS_ok he.1 (by omega : (eg ps z).1 ≤ 9)
    have lb := dS_ok (d := (eg ps z).2) (by omega) (by omega)
    have lw := wd_ok (decide (z ∈ c))
    have := jn_len tl_sp (by decide) (ys := [dS (eg ps z).1, dS (eg ps z).2, wd (decide (z ∈ c))]) (k := 6) (fun x mx => by
      simp only [List.mem_cons, List.not_mem_nil, or_false] at mx
      rcases mx with rfl | rfl | rfl
      · omega
      · omega
      · exact lw.2.1)
    have this : (ln2 (eg ps z).1 (eg ps z).2 (wd (decide (z ∈ c)))).length ≤ 3 * 6 + 3 := this
    refine ⟨by omega, ok_join tl_sp (by decide) fun p mp => ?_, no_nl tl_sp fun p mp => ?_⟩
    · simp only [List.mem_cons, List.not_mem_nil, or_false] at mp
      rcases mp with rfl | rfl | rfl
      · exact la.1
      · exact lb.1
      · exact lw.1
    · simp only [List.mem_cons, List.not_mem_nil, or_false] at mp
      rcases mp with rfl | rfl | rfl
      · exact la.2.2.2
      · exact lb.2.2.2
      · exact lw.2.2.2
def ps3 (ps : List (Int × Int)) (c : List Int) : List (Int × Int × Str) := (rg ps.length).map fun z => ((eg ps z).1, (eg ps z).2, wd (decide (z ∈ c)))
omit gk hl hw in
theorem ps3_len : (ps3 ps c).length = ps.length := by simp [ps3, rg]
omit gk hl hw in
theorem ps3_e2 : (ps3 ps c).map e2 = ps := by
  refine List.ext_getElem (by rw [List.length_map, ps3_len]) fun i h1 h2 => ?_
  unfold ps3 rg e2 eg
  simp [h2]
theorem good3 : Good (ln1 ws :: lns ps c) ws (ps3 ps c) := by
  have h1 := gk.lo
  refine ⟨_, _, rfl, pL1_of (fun w m => by have := hw w m; omega) (fun e => by rw [e] at hl; simp at hl; omega), ?_⟩
  unfold lns ps3
  rw [List.map_map, List.map_map]
  refine List.map_congr_left fun z m => ?_
  have hz := rg_mem.mp m
  have he := gk.ed _ (eg_mem hz.1 hz.2)
  have h7 := gk.hi
  exact pL2_of ⟨he.1, by omega⟩ ⟨by omega, by omega⟩ _
theorem lns_len : (ln1 ws :: lns ps c).length = ps.length + 1 := by simp [lns, rg]
end
theorem join_ok {L : List Str} (h : ∀ y ∈ L, Ln y) (n : L.length ≤ 20) (ne : L ≠ []) : Txt.split (Txt.join "\n" L) "\n" = L ∧ (Txt.join "\n" L).length ≤ 1220 ∧ PyData.strOk (Txt.join "\n" L) = true ∧ joinD "\n" (.list (L.map .str)) = .ok (.str (Txt.join "\n" L)) := by
  have l := jn_len tl_nl (by decide) (ys := L) (k := 60) fun y m => (h y m).l
  have l : (Txt.join "\n" L).length ≤ L.length * 60 + L.length := l
  refine ⟨join_split tl_nl (by decide) ne fun p m => (h p m).n, by omega, ok_join tl_nl (by decide) fun p m => (h p m).o, join_len nl1 (fun y m => (h y m).l) (by omega) (by decide)⟩
theorem chs3_ps3 {ps : List (Int × Int)} {c : List Int} (hc : Ch ps.length c) : chs3 (ps3 ps c) = c := by
  rw [chs3_eq, ps3_len]
  conv => rhs; rw [ch_as hc]
  refine List.filter_congr fun z m => ?_
  have hz := rg_mem.mp m
  have e : (ps3 ps c).getD z.toNat d3 = ((eg ps z).1, (eg ps z).2, wd (decide (z ∈ c))) := by
    unfold ps3 rg
    have : z.toNat < ps.length := by omega
    have e : ((z.toNat : Nat) : Int) = z := by omega
    simp [this, e]
  rw [e]
  by_cases q : z ∈ c
  · rw [decide_eq_true q]
    show decide (wd true = ("chosen" : Str)) = true
    decide +kernel
  · rw [decide_eq_false q]
    show decide (wd false = ("chosen" : Str)) = false
    decide +kernel
section
variable {v : Int} {ps : List (Int × Int)} (gk : Gok v ps) {ws : List Int} (hl : ws.length = v.toNat) (hw : ∀ w ∈ ws, 0 ≤ w ∧ w ≤ 6) {c : List Int} (hc : Ch ps.length c)
include gk hl hw hc
theorem read_back : m_law_parse [.str (fmt ps ws c)] = .ok (.tuple [graphD v ps, tI ws, tI c]) := by
  have pl := gk.len
  have hv := gk.lo
  obtain ⟨j1, j2, j3, j4⟩ := join_ok (ln_ok gk hl hw c) (by rw [lns_len gk hl hw]; omega) (by simp)
  have g := good3 gk hl hw c
  rw [← j1] at g
  have pg := parse_good (by omega) j3 g (fun p mp => by
    obtain ⟨z, _, rfl⟩ := List.mem_map.mp mp
    exact (wd_ok _).1)
  rw [ps3_e2, chs3_ps3 hc] at pg
  have ev : (ws.length : Int) = v := by omega
  rw [ev] at pg
  have w1 : isW v (tI ws) = true := by
    show (decide (((ws.map PyData.int).length : Int) = v) && (ws.map PyData.int).all (inR 0 6)) = true
    rw [List.length_map, decide_eq_true ev, Bool.true_and, List.all_eq_true]
    intro x mx
    obtain ⟨w, mw, rfl⟩ := List.mem_map.mp mx
    have := hw w mw
    simp [inR]
    omega
  rw [if_pos ⟨gk.isG, w1⟩] at pg
  exact lparse_ok pg
end
theorem wrong_at {A B : List Str} {w : Str} (hA : ∀ p ∈ A.zipIdx, bd p = false) (h : ∀ y ∈ A ++ w :: B, Ln y) (n : (A ++ w :: B).length ≤ 20) (hw : bd (w, A.length) = true) :
    joinD "\n" (.list ((A ++ w :: B).map .str)) = .ok (.str (Txt.join "\n" (A ++ w :: B))) ∧ m_law_parse [.str (Txt.join "\n" (A ++ w :: B))] = .ok (.list [.str "line", .int (A.length : Int)]) := by
  obtain ⟨j1, j2, j3, j4⟩ := join_ok h n (by simp)
  refine ⟨j4, lparse_exc (parse_bad (p := (w, A.length)) (by omega) j3 ?_)⟩
  rw [j1]
  exact bad_at hA hw
/-- the wrong lines -/
def wr2 : List Str := ["", "0 1", "0 1 open", "0  1 free", "0 x free", "0 1 free free", "wishes 1", "0 10 free"]
def wr1 : List Str := ["wishes", "wishes 10", "wish 1", "", "wishes x", "wishes  1"]
theorem wr_ok : ∀ y ∈ wr2 ++ wr1, Ln y := by
  have : ∀ y ∈ wr2 ++ wr1, y.length ≤ 60 ∧ PyData.strOk y = true ∧ 10 ∉ TL.tl y := by decide +kernel
  exact fun y m => ⟨(this y m).1, (this y m).2.1, (this y m).2.2⟩
theorem wr2_bad : ∀ y ∈ wr2, pL2 y = none := by
  have : ∀ y ∈ wr2, (pL2 y).isNone = true := by decide +kernel
  intro y m
  exact Option.isNone_iff_eq_none.mp (this y m)
theorem wr1_bad : ∀ y ∈ wr1, pL1 y = none := by
  have : ∀ y ∈ wr1, (pL1 y).isNone = true := by decide +kernel
  intro y m
  exact Option.isNone_iff_eq_none.mp (this y m)
theorem bd2 {w : Str} {n : Nat} (h : 0 < n) (hw : pL2 w = none) : bd (w, n) = true := by
  unfold bd rw1
  rw [if_neg (by simp; omega)]
  simp only
  rw [hw]
  rfl
theorem bd1 {w : Str} (hw : pL1 w = none) : bd (w, 0) = true := by
  unfold bd rw1
  rw [if_pos rfl]
  simp only
  rw [hw]
  rfl
theorem no7 : m_law_parse [.str "wishes 7 1"] = .ok (.list [.str "line", .none]) := by
  refine lparse_exc ?_
  have g : Good (Txt.split "wishes 7 1" "\n") [7, 1] [] := ⟨"wishes 7 1", [], by decide +kernel, by decide +kernel, rfl⟩
  rw [parse_good (by decide +kernel) (by decide +kernel) g (by simp), if_neg]
  rintro ⟨_, h⟩
  revert h
  decide +kernel
theorem no10 : m_law_parse [.str "wishes 1 1\n1 0 free"] = .ok (.list [.str "line", .none]) := by
  refine lparse_exc ?_
  have g : Good (Txt.split "wishes 1 1\n1 0 free" "\n") [1, 1] [(1, 0, "free")] := ⟨"wishes 1 1", ["1 0 free"], by decide +kernel, by decide +kernel, by decide +kernel⟩
  rw [parse_good (by decide +kernel) (by decide +kernel) g (by decide +kernel), if_neg]
  rintro ⟨h, _⟩
  revert h
  decide +kernel
end K18
namespace K18
open PySem L2 DL Com
theorem niG3 (v : Int) (ps : List (Int × Int)) : Ni 50 (graphD v ps) := by
  have e : Ni 3 (.tuple (ps.map edgeD)) := ni_tup (ni_map (n := 2) (fun p => ni_tup fun x m => by
    simp only [List.mem_cons, List.not_mem_nil, or_false] at m
    rcases m with rfl | rfl <;> exact ni_int _) ps)
  have : Ni 4 (graphD v ps) := ni_tup fun x m => by
    simp only [List.mem_cons, List.not_mem_nil, or_false] at m
    rcases m with rfl | rfl
    · exact (ni_int _).mono (by decide)
    · exact e
  exact this.mono (by decide)
theorem niG4 (v : Int) (ps : List (Int × Int)) (ws c : List Int) : Ni 50 (.tuple [graphD v ps, tI ws, tI c]) := by
  have e : Ni 3 (.tuple (ps.map edgeD)) := ni_tup (ni_map (n := 2) (fun p => ni_tup fun x m => by
    simp only [List.mem_cons, List.not_mem_nil, or_false] at m
    rcases m with rfl | rfl <;> exact ni_int _) ps)
  have g : Ni 4 (graphD v ps) := ni_tup fun x m => by
    simp only [List.mem_cons, List.not_mem_nil, or_false] at m
    rcases m with rfl | rfl
    · exact (ni_int _).mono (by decide)
    · exact e
  have : Ni 5 (.tuple [graphD v ps, tI ws, tI c]) := ni_tup fun x m => by
    simp only [List.mem_cons, List.not_mem_nil, or_false] at m
    rcases m with rfl | rfl | rfl
    · exact g
    · exact (ni_tI _).mono (by decide)
    · exact (ni_tI _).mono (by decide)
  exact this.mono (by decide)
theorem okL : PyData.strOk "line" = true := by decide +kernel
theorem niLn {d : PyData} (h : Ni 49 d) : Ni 50 (.list [.str "line", d]) := ni_lst fun x m => by
  simp only [List.mem_cons, List.not_mem_nil, or_false] at m
  rcases m with rfl | rfl
  · exact ⟨rfl, by simp [PyData.canLay0, okL], by simp [PyData.depth]⟩
  · exact h
theorem lo1 : eqD (.str "line") (.str "other") = .ok (.bool false) := by kernel_rfl
theorem ll1 : neD (.str "line") (.str "line") = .ok (.bool false) := by kernel_rfl
theorem g_other (v : Int) (ps : List (Int × Int)) : eqD (graphD v ps) (.str "other") = .ok (.bool false) := eqN_f (niG3 v ps) (niS (by decide +kernel)) (fun e => by cases e)
theorem g_line (v : Int) (ps : List (Int × Int)) : neD (graphD v ps) (.str "line") = .ok (.bool true) := neN_f (niG3 v ps) (niS okL) (fun e => by cases e)
theorem isi_s_n : isiD "str" .none = .ok (.bool false) := isi_of (show kitB "NoneType" "str" = some false by decide +kernel)
theorem isi_s_i (i : Int) : isiD "str" (.int i) = .ok (.bool false) := isi_of (show kitB "int" "str" = some false by decide +kernel)
theorem isi_s_l (xs : List PyData) : isiD "str" (.list xs) = .ok (.bool false) := isi_of (show kitB "list" "str" = some false by decide +kernel)
theorem isi_s_t (xs : List PyData) : isiD "str" (.tuple xs) = .ok (.bool false) := isi_of (show kitB "tuple" "str" = some false by decide +kernel)
theorem law_true (ns : List Int) (h : ns.length ≤ 63) : m_law [.list (ns.map .int)] = .ok (.bool true) := by
  rw [r_law]
  obtain ⟨ds, hd, er⟩ := row_ok ns 6 (by decide)
  have er : m_law_row [.list (ns.map .int), .int 6] = .ok (lI ds) := er
  obtain ⟨v, ps, _, _, gk, eG⟩ := graph_ok ns 2 7 12 (by decide) (by decide) (by decide) (by decide) (by decide)
  obtain ⟨ws, hl, hw, ew⟩ := wishes_ok ns 3 (by decide) gk
  have ew : m_law_wishes [.list (ns.map .int), .int 3, graphD v ps] = .ok (tI ws) := ew
  have hv := gk.lo
  have h7 := gk.hi
  have pl := gk.len
  have sz := sz1000000
  have g1 : ixD (graphD v ps) (.int 1) = .ok (.tuple (ps.map edgeD)) := gix1
  have ln : lenD (.tuple (ps.map edgeD)) = .ok (.int (ps.length : Int)) := glen
  have rp := rng1_rg (n := ps.length) (by omega)
  have ixd := fun (k : Int) (h0 : 0 ≤ k) (h : k < 60) => ix_lI (ws := ds) h0 (show k < (ds.length : Int) by omega)
  have m2 := fun z : Int => modk z 2 (by decide)
  have m4 := fun z : Int => modk z 4 (by decide)
  have m6 := fun z : Int => modk z 6 (by decide)
  have m8 := fun z : Int => modk z 8 (by decide)
  obtain ⟨c, ec⟩ : ∃ c, c = (rg ps.length).filter fun z => decide (ds.getD (30 + z).toNat 0 % 2 = 0) := ⟨_, rfl⟩
  have hc : Ch ps.length c := by rw [ec]; exact ch_filter (ch_rg _) _
  have fm : m_format_choice [graphD v ps, tI ws, tI c] = .ok (.str (fmt ps ws c)) := format_choice_eq gk hl hw hc
  have rb := read_back gk hl hw hc
  have nR := neN_t (niG4 v ps ws c)
  have lo := ln_ok gk hl hw c
  have l1 := lns_len gk hl hw c
  have gd := (good3 gk hl hw c).rows.1
  obtain ⟨j2, j3, j4⟩ : (fmt ps ws c).length ≤ 1220 ∧ PyData.strOk (fmt ps ws c) = true ∧ joinD "\n" (.list ((ln1 ws :: lns ps c).map .str)) = .ok (.str (fmt ps ws c)) := (join_ok lo (by rw [l1]; omega) (by simp)).2
  have isg : isiD "str" (graphD v ps) = .ok (.bool false) := isi_s_t _
  obtain ⟨t1, t2⟩ := toks1 gk hl hw
  have edg : ∀ z ∈ rg ps.length, ixD (.tuple (ps.map edgeD)) (.int z) = .ok (.tuple [.int (eg ps z).1, .int (eg ps z).2]) ∧ 0 ≤ (eg ps z).1 ∧ (eg ps z).1 ≤ 9 ∧ 0 ≤ (eg ps z).2 ∧ (eg ps z).2 ≤ 9 := fun z mz => by
    have hz := rg_mem.mp mz
    have he := gk.ed _ (eg_mem hz.1 hz.2)
    exact ⟨ix_edge hz.1 hz.2, by omega, by omega, by omega, by omega⟩
  have rl : (rg ps.length).length = ps.length := by simp [rg]
  generalize hG : graphD v ps = G at *
  generalize hS : PyData.list (ns.map .int) = S at *
  -- the choice
  have c1' := compM (ft := gN 6) (fc := ct_law_1) (fe := datE 6) (r0 := [.dat S, .dat (lI ds), .dat G, .dat (tI ws), .un, .un, .un, .un, .un, .un, .un, .un, .un, .un, .un, .un, .un]) PyData.int (fun z => decide (ds.getD (30 + z).toNat 0 % 2 = 0)) PyData.int (rg ps.length) (by
    intro z mz
    have hz := rg_mem.mp mz
    refine ⟨_, rfl, ?_, fun _ => rfl⟩
    simp only [ct_law_1, sSeq_ap, sIf_ap, sRet_ap, sExpr_ap, sSet_ap, sSetO_ap, sFor_ap, sFz_ap, sFzb_ap, sAsg_ap, sSetItem_ap, sAugItem_ap, sAug_ap, sRaise_ap, sNil_ap, sBad_ap, mutO_ap, cA_ap, cNot_ap, cAnd_ap, cOr_ap, cIf_ap, cTup_ap, cLst_ap, pNone_ap, pSome_ap, wAnd_ap, wOr_ap, wNot_ap, wTru_ap, wCmp_ap, wYes_ap, iA_ap, iS_ap, aNil_ap, aCons_ap, kR_ap, b2_ap, b3_ap, c1_ap, chainD_ap, lcF_ap, datE_ap, datB_ap, ownAt_ap, endO_rt, endO_nx, endO_exc, endO_bad, bn_ok, bn_exc, bn_bad, to_ok, to_exc, to_bad, sq_nx, sq_rt, sq_bk, sq_ct, sq_exc, sq_bad, andR_ok, orR_ok, notR_ok, andV_ok, orV_ok, notV_ok, ifV_ok, truD_b, boolD_b, intD_i, tupR0, tupR1, tupR2, tupR3, tupR4, lstR0, lstR1, lstR2, lstR3, lstR4, lstR5, lstR6, lstR7, lstR8, lstR9, negD_i, slA3_l, slA3_t, tupleD_l, tupleD_t, listD_l, listD_t, revD_t, addE_ii, subD_ii, leD_ii, ltD_ii, geD_ii, gtI_ii, eqD_ii, neD_ii, isi_tup_tup, isi_tup_list, isi_tup_none, isi_tup_int, isi_tup_bool, isi_tup_str, isi_tup_dict, isi_int_int, isi_int_bool, isi_int_none, isi_int_str, isi_int_list, isi_int_tup, isi_int_dict, isi_bool_int, isi_bool_bool, isi_bool_none, isi_bool_str, isi_bool_list, isi_bool_tup, isi_bool_dict, lenD_t, lenD_l, seqD_l, seqD_t, List.getElem?_cons_zero, List.getElem?_cons_succ, List.set_cons_zero, List.set_cons_succ, ↓reduceIte, Bool.false_eq_true, Bool.not_true, Bool.not_false, sWp_ap, sWq_ap, wipeO_nx, wipeO_rt, wipeO_bk, wipeO_ct, wipeO_exc, wipeO_bad, wipeE_nil, wipeE_cons, fzE_ap, DL.ownO_l, asgO_2, DL.truD_l, DL.truD_t, datI_ap, augN_ap, zip2_tt, zip2_ll, sPar_ap, wFz_ap, ixd (30 + z) (by omega) (by omega), m2])
  rw [← ec] at c1'
  have tc : tupleD (.list (c.map .int)) = .ok (tI c) := rfl
  -- the first line
  have sq : seqD (tI ws) = .ok (ws.map .int) := rfl
  have c2' := compM (ft := gN 16) (fc := wYes) (fe := ce_law_1) (r0 := [.dat S, .dat (lI ds), .dat G, .dat (tI ws), .dat (tI c), .un, .un, .un, .un, .un, .un, .un, .un, .un, .un, .un, .un]) PyData.int (fun _ => true) (fun w => .str (dS w)) ws (by
    intro w mw
    have := hw w mw
    refine ⟨_, rfl, rfl, fun _ => ?_⟩
    simp only [ce_law_1, sSeq_ap, sIf_ap, sRet_ap, sExpr_ap, sSet_ap, sSetO_ap, sFor_ap, sFz_ap, sFzb_ap, sAsg_ap, sSetItem_ap, sAugItem_ap, sAug_ap, sRaise_ap, sNil_ap, sBad_ap, mutO_ap, cA_ap, cNot_ap, cAnd_ap, cOr_ap, cIf_ap, cTup_ap, cLst_ap, pNone_ap, pSome_ap, wAnd_ap, wOr_ap, wNot_ap, wTru_ap, wCmp_ap, wYes_ap, iA_ap, iS_ap, aNil_ap, aCons_ap, kR_ap, b2_ap, b3_ap, c1_ap, chainD_ap, lcF_ap, datE_ap, datB_ap, ownAt_ap, endO_rt, endO_nx, endO_exc, endO_bad, bn_ok, bn_exc, bn_bad, to_ok, to_exc, to_bad, sq_nx, sq_rt, sq_bk, sq_ct, sq_exc, sq_bad, andR_ok, orR_ok, notR_ok, andV_ok, orV_ok, notV_ok, ifV_ok, truD_b, boolD_b, intD_i, tupR0, tupR1, tupR2, tupR3, tupR4, lstR0, lstR1, lstR2, lstR3, lstR4, lstR5, lstR6, lstR7, lstR8, lstR9, negD_i, slA3_l, slA3_t, tupleD_l, tupleD_t, listD_l, listD_t, revD_t, addE_ii, subD_ii, leD_ii, ltD_ii, geD_ii, gtI_ii, eqD_ii, neD_ii, isi_tup_tup, isi_tup_list, isi_tup_none, isi_tup_int, isi_tup_bool, isi_tup_str, isi_tup_dict, isi_int_int, isi_int_bool, isi_int_none, isi_int_str, isi_int_list, isi_int_tup, isi_int_dict, isi_bool_int, isi_bool_bool, isi_bool_none, isi_bool_str, isi_bool_list, isi_bool_tup, isi_bool_dict, lenD_t, lenD_l, seqD_l, seqD_t, List.getElem?_cons_zero, List.getElem?_cons_succ, List.set_cons_zero, List.set_cons_succ, ↓reduceIte, Bool.false_eq_true, Bool.not_true, Bool.not_false, sWp_ap, sWq_ap, wipeO_nx, wipeO_rt, wipeO_bk, wipeO_ct, wipeO_exc, wipeO_bad, wipeE_nil, wipeE_cons, fzE_ap, DL.ownO_l, asgO_2, DL.truD_l, DL.truD_t, datI_ap, augN_ap, zip2_tt, zip2_ll, sPar_ap, wFz_ap, (strD_eq this.1 (by omega : w ≤ 9)).1])
  rw [filt_true] at c2'
  have c2'' : compL (gN 16) wYes ce_law_1 [.dat S, .dat (lI ds), .dat G, .dat (tI ws), .dat (tI c), .un, .un, .un, .un, .un, .un, .un, .un, .un, .un, .un, .un] (ws.map .int) = .ok ((ws.map dS).map .str) := by
    rw [c2', List.map_map]
    rfl
  have ad : addE (.list [.str "wishes"]) (.list ((ws.map dS).map .str)) = .ok (.list ((("wishes" : Str) :: ws.map dS).map .str)) := by
    have : addE (.list [.str "wishes"]) (.list ((ws.map dS).map .str)) = .ok (.list ([.str "wishes"] ++ (ws.map dS).map .str)) := addE_ll (by rw [List.length_map, List.length_map]; simp; omega)
    rw [this]
    rfl
  have jw : joinD " " (.list ((("wishes" : Str) :: ws.map dS).map .str)) = .ok (.str (ln1 ws)) := join_len sp1 t1 (by omega) (by decide)
  -- the other lines
  have lp := (forM (ft := gN 6) (fb := b_law_1) PyData.int (fun acc : List Str => [.dat S, .dat (lI ds), .dat G, .dat (tI ws), .dat (tI c), .own (acc.map .str), .un, .un, .un, .un, .un, .un, .un, .un, .un, .un, .un]) (fun acc z => acc ++ [ln2 (eg ps z).1 (eg ps z).2 (wd (decide (z ∈ c)))]) (fun acc u => acc.length + u.length ≤ 100 ∧ ∀ z ∈ u, z ∈ rg ps.length) (rg ps.length) [ln1 ws] (by
    rintro acc z u ⟨h1, h2⟩
    have mz := h2 z List.mem_cons_self
    rw [List.length_cons] at h1
    obtain ⟨ee, a0, a9, b0, b9⟩ := edg z mz
    have ii := in_tI z c
    have f1 := (strD_eq a0 a9).1
    have f2 := (strD_eq b0 b9).1
    have la := (dS_ok a0 a9).2.1
    have lb := (dS_ok b0 b9).2.1
    have lw := wd_ok (decide (z ∈ c))
    have ga : gApp (acc.map .str) [.str (ln2 (eg ps z).1 (eg ps z).2 (wd (decide (z ∈ c))))] = some (acc.map .str ++ [.str (ln2 (eg ps z).1 (eg ps z).2 (wd (decide (z ∈ c))))]) := gApp_ok (by rw [List.length_map]; omega)
    have jj : joinD " " (.list [.str (dS (eg ps z).1), .str (dS (eg ps z).2), .str (wd (decide (z ∈ c)))]) = .ok (.str (ln2 (eg ps z).1 (eg ps z).2 (wd (decide (z ∈ c))))) := join_len (ys := [dS (eg ps z).1, dS (eg ps z).2, wd (decide (z ∈ c))]) sp1 (k := 6) (fun x mx => by
      simp only [List.mem_cons, List.not_mem_nil, or_false] at mx
      rcases mx with rfl | rfl | rfl
      · omega
      · omega
      · exact lw.2.1) (by simp) (by decide)
    refine ⟨[.dat S, .dat (lI ds), .dat G, .dat (tI ws), .dat (tI c), .own (acc.map .str), .dat (.int z), .un, .un, .un, .un, .un, .un, .un, .un, .un, .un], rfl, ?_, by rw [List.length_append]; simp; omega, fun y m => h2 y (List.mem_cons_of_mem _ m)⟩
    by_cases q : z ∈ c
    · have dq : decide (z ∈ c) = true := decide_eq_true q
      rw [dq] at ii jj ga
      rw [dq]
      have ew : wd true = "chosen" := rfl
      rw [ew] at jj ga ⊢
      simp only [b_law_1, sSeq_ap, sIf_ap, sRet_ap, sExpr_ap, sSet_ap, sSetO_ap, sFor_ap, sFz_ap, sFzb_ap, sAsg_ap, sSetItem_ap, sAugItem_ap, sAug_ap, sRaise_ap, sNil_ap, sBad_ap, mutO_ap, cA_ap, cNot_ap, cAnd_ap, cOr_ap, cIf_ap, cTup_ap, cLst_ap, pNone_ap, pSome_ap, wAnd_ap, wOr_ap, wNot_ap, wTru_ap, wCmp_ap, wYes_ap, iA_ap, iS_ap, aNil_ap, aCons_ap, kR_ap, b2_ap, b3_ap, c1_ap, chainD_ap, lcF_ap, datE_ap, datB_ap, ownAt_ap, endO_rt, endO_nx, endO_exc, endO_bad, bn_ok, bn_exc, bn_bad, to_ok, to_exc, to_bad, sq_nx, sq_rt, sq_bk, sq_ct, sq_exc, sq_bad, andR_ok, orR_ok, notR_ok, andV_ok, orV_ok, notV_ok, ifV_ok, truD_b, boolD_b, intD_i, tupR0, tupR1, tupR2, tupR3, tupR4, lstR0, lstR1, lstR2, lstR3, lstR4, lstR5, lstR6, lstR7, lstR8, lstR9, negD_i, slA3_l, slA3_t, tupleD_l, tupleD_t, listD_l, listD_t, revD_t, addE_ii, subD_ii, leD_ii, ltD_ii, geD_ii, gtI_ii, eqD_ii, neD_ii, isi_tup_tup, isi_tup_list, isi_tup_none, isi_tup_int, isi_tup_bool, isi_tup_str, isi_tup_dict, isi_int_int, isi_int_bool, isi_int_none, isi_int_str, isi_int_list, isi_int_tup, isi_int_dict, isi_bool_int, isi_bool_bool, isi_bool_none, isi_bool_str, isi_bool_list, isi_bool_tup, isi_bool_dict, lenD_t, lenD_l, seqD_l, seqD_t, List.getElem?_cons_zero, List.getElem?_cons_succ, List.set_cons_zero, List.set_cons_succ, ↓reduceIte, Bool.false_eq_true, Bool.not_true, Bool.not_false, sWp_ap, sWq_ap, wipeO_nx, wipeO_rt, wipeO_bk, wipeO_ct, wipeO_exc, wipeO_bad, wipeE_nil, wipeE_cons, fzE_ap, DL.ownO_l, asgO_2, DL.truD_l, DL.truD_t, datI_ap, augN_ap, zip2_tt, zip2_ll, sPar_ap, wFz_ap, m1, g1, ee, f1, f2, ii, jj, ga, List.map_append, List.map_cons, List.map_nil]
    · have dq : decide (z ∈ c) = false := decide_eq_false q
      rw [dq] at ii jj ga
      rw [dq]
      have ew : wd false = "free" := rfl
      rw [ew] at jj ga ⊢
      simp only [b_law_1, sSeq_ap, sIf_ap, sRet_ap, sExpr_ap, sSet_ap, sSetO_ap, sFor_ap, sFz_ap, sFzb_ap, sAsg_ap, sSetItem_ap, sAugItem_ap, sAug_ap, sRaise_ap, sNil_ap, sBad_ap, mutO_ap, cA_ap, cNot_ap, cAnd_ap, cOr_ap, cIf_ap, cTup_ap, cLst_ap, pNone_ap, pSome_ap, wAnd_ap, wOr_ap, wNot_ap, wTru_ap, wCmp_ap, wYes_ap, iA_ap, iS_ap, aNil_ap, aCons_ap, kR_ap, b2_ap, b3_ap, c1_ap, chainD_ap, lcF_ap, datE_ap, datB_ap, ownAt_ap, endO_rt, endO_nx, endO_exc, endO_bad, bn_ok, bn_exc, bn_bad, to_ok, to_exc, to_bad, sq_nx, sq_rt, sq_bk, sq_ct, sq_exc, sq_bad, andR_ok, orR_ok, notR_ok, andV_ok, orV_ok, notV_ok, ifV_ok, truD_b, boolD_b, intD_i, tupR0, tupR1, tupR2, tupR3, tupR4, lstR0, lstR1, lstR2, lstR3, lstR4, lstR5, lstR6, lstR7, lstR8, lstR9, negD_i, slA3_l, slA3_t, tupleD_l, tupleD_t, listD_l, listD_t, revD_t, addE_ii, subD_ii, leD_ii, ltD_ii, geD_ii, gtI_ii, eqD_ii, neD_ii, isi_tup_tup, isi_tup_list, isi_tup_none, isi_tup_int, isi_tup_bool, isi_tup_str, isi_tup_dict, isi_int_int, isi_int_bool, isi_int_none, isi_int_str, isi_int_list, isi_int_tup, isi_int_dict, isi_bool_int, isi_bool_bool, isi_bool_none, isi_bool_str, isi_bool_list, isi_bool_tup, isi_bool_dict, lenD_t, lenD_l, seqD_l, seqD_t, List.getElem?_cons_zero, List.getElem?_cons_succ, List.set_cons_zero, List.set_cons_succ, ↓reduceIte, Bool.false_eq_true, Bool.not_true, Bool.not_false, sWp_ap, sWq_ap, wipeO_nx, wipeO_rt, wipeO_bk, wipeO_ct, wipeO_exc, wipeO_bad, wipeE_nil, wipeE_cons, fzE_ap, DL.ownO_l, asgO_2, DL.truD_l, DL.truD_t, datI_ap, augN_ap, zip2_tt, zip2_ll, sPar_ap, wFz_ap, m1, g1, ee, f1, f2, ii, jj, ga, List.map_append, List.map_cons, List.map_nil]) ⟨by rw [rl]; simp; omega, fun z m => m⟩).1
  have fe : ∀ (l : List Int) (a : List Str), l.foldl (fun acc z => acc ++ [ln2 (eg ps z).1 (eg ps z).2 (wd (decide (z ∈ c)))]) a = a ++ l.map fun z => ln2 (eg ps z).1 (eg ps z).2 (wd (decide (z ∈ c))) := by
    intro l
    induction l with
    | nil => intro a; simp
    | cons p l ih => intro a; rw [List.foldl_cons, ih]; simp
  rw [fe] at lp
  have lp' : forL (gN 6) b_law_1 ((rg ps.length).map .int) [.dat S, .dat (lI ds), .dat G, .dat (tI ws), .dat (tI c), .own [.str (ln1 ws)], .un, .un, .un, .un, .un, .un, .un, .un, .un, .un, .un] = .nx [.dat S, .dat (lI ds), .dat G, .dat (tI ws), .dat (tI c), .own ((ln1 ws :: lns ps c).map .str), .un, .un, .un, .un, .un, .un, .un, .un, .un, .un, .un] := lp
  clear lp
  -- the text
  obtain ⟨T, hT⟩ : ∃ T, fmt ps ws c = T := ⟨_, rfl⟩
  rw [hT] at fm rb j2 j3 j4
  generalize hL : ln1 ws :: lns ps c = L at *
  have nT := neN_t (niS j3)
  have lT := len_s (a := T) (by omega)
  have e5 : mulD (.int (ds.getD (Int.toNat 0) 0)) (.int 5) = .ok (.int (ds.getD (Int.toNat 0) 0 * 5)) := mulD_ii (.inr ⟨by decide, by decide⟩)
  have mT : modD (.int (ds.getD (Int.toNat 0) 0 * 5)) (.int ((T.length : Int) + 1)) = .ok (.int (ds.getD (Int.toNat 0) 0 * 5 % ((T.length : Int) + 1))) := modD_ii (by omega)
  generalize hp : ds.getD (Int.toNat 0) 0 * 5 % ((T.length : Int) + 1) = sp at mT
  obtain ⟨nw, mnw, i6⟩ := ix_enc (f := PyData.str) (xs := ["0", " ", "1", "\n", "x", " free"]) (i := ds.getD (Int.toNat 1) 0 % 6) (Int.emod_nonneg _ (by decide)) (Int.emod_lt_of_pos _ (by decide))
  have i6 : ixD (.list [.str "0", .str " ", .str "1", .str "\n", .str "x", .str " free"]) (.int (ds.getD (Int.toNat 1) 0 % 6)) = .ok (.str nw) := i6
  obtain ⟨w1, w2⟩ : nw.length ≤ 10 ∧ PyData.strOk nw = true := by
    have : ∀ y ∈ (["0", " ", "1", "\n", "x", " free"] : List Str), y.length ≤ 10 ∧ PyData.strOk y = true := by decide +kernel
    exact this nw mnw
  have s1 := sl_ss (a := T) none (some sp) (by omega)
  have s2 := sl_ss (a := T) (some (sp + 1)) none (by omega)
  have s3 := sl_ss (a := T) (some sp) none (by omega)
  have k1 := cutS_length T none (some sp)
  have k2 := cutS_length T (some (sp + 1)) none
  have k3 := cutS_length T (some sp) none
  have o1 := ok_cut none (some sp) j3
  have o2 := ok_cut (some (sp + 1)) none j3
  have o3 := ok_cut (some sp) none j3
  generalize cutS T none (some sp) = A at *
  generalize cutS T (some (sp + 1)) none = B at *
  generalize cutS T (some sp) none = C at *
  have p1 := ad_ss (a := A) (b := B) (by omega)
  have p2 := ad_ss (a := A) (b := nw) (by omega)
  have q2 := len_app A nw
  have p3 := ad_ss (a := A ++ nw) (b := C) (by omega)
  have q3 := len_app (A ++ nw) C
  have q1 := len_app A B
  have n1 : ("\n" : Str).length = 1 := nl1
  have n2 : (" " : Str).length = 1 := sp1
  have p4 := ad_ss (a := T) (b := "\n") (by omega)
  have p5 := ad_ss (a := " ") (b := T) (by omega)
  have q4 := len_app T "\n"
  have q5 := len_app " " T
  obtain ⟨E, mE, i4⟩ := ix_enc (f := PyData.str) (xs := [A ++ B, A ++ nw ++ C, T ++ "\n", " " ++ T]) (i := ds.getD (Int.toNat 2) 0 % 4) (Int.emod_nonneg _ (by decide)) (Int.emod_lt_of_pos _ (by decide))
  have i4 : ixD (.list [.str (A ++ B), .str (A ++ nw ++ C), .str (T ++ "\n"), .str (" " ++ T)]) (.int (ds.getD (Int.toNat 2) 0 % 4)) = .ok (.str E) := i4
  have on : PyData.strOk "\n" = true := by decide +kernel
  have os : PyData.strOk " " = true := by decide +kernel
  obtain ⟨v1, v2⟩ : E.length ≤ 4000 ∧ PyData.strOk E = true := by
    simp only [List.mem_cons, List.not_mem_nil, or_false] at mE
    rcases mE with rfl | rfl | rfl | rfl
    · exact ⟨by omega, ok_app o1 o2⟩
    · exact ⟨by omega, ok_app (ok_app o1 w2) o3⟩
    · exact ⟨by omega, ok_app j3 on⟩
    · exact ⟨by omega, ok_app os j3⟩
  have nE := neN_t (niS v2)
  -- the wrong lines
  obtain ⟨k, hk⟩ : ∃ k : Nat, 1 + ds.getD (Int.toNat 3) 0 % ((ps.length + 1 : Nat) : Int) = (k : Int) := ⟨(1 + ds.getD (Int.toNat 3) 0 % ((ps.length + 1 : Nat) : Int)).toNat, by
    have := (mod_ix (n := ps.length + 1) (ds.getD (Int.toNat 3) 0) (by omega)).2.1
    omega⟩
  obtain ⟨mk, mk0, mk1⟩ := mod_ix (n := ps.length + 1) (ds.getD (Int.toNat 3) 0) (by omega)
  have k0 : 0 < k := by omega
  have kl : k ≤ L.length := by omega
  obtain ⟨wb, mb, i8⟩ := ix_enc (f := PyData.str) (xs := wr2) (i := ds.getD (Int.toNat 4) 0 % 8) (Int.emod_nonneg _ (by decide)) (Int.emod_lt_of_pos _ (by decide))
  have i8 : ixD (.list [.str "", .str "0 1", .str "0 1 open", .str "0  1 free", .str "0 x free", .str "0 1 free free", .str "wishes 1", .str "0 10 free"]) (.int (ds.getD (Int.toNat 4) 0 % 8)) = .ok (.str wb) := i8
  obtain ⟨wa, ma, i7⟩ := ix_enc (f := PyData.str) (xs := wr1) (i := ds.getD (Int.toNat 5) 0 % 6) (Int.emod_nonneg _ (by decide)) (Int.emod_lt_of_pos _ (by decide))
  have i7 : ixD (.list [.str "wishes", .str "wishes 10", .str "wish 1", .str "", .str "wishes x", .str "wishes  1"]) (.int (ds.getD (Int.toNat 5) 0 % 6)) = .ok (.str wa) := i7
  have tk : (L.take k).length = k := by rw [List.length_take]; omega
  have gA : ∀ p ∈ (L.take k).zipIdx, bd p = false := fun p mp => by
    have := List.find?_eq_none.mp gd p (by
      obtain ⟨x, n⟩ := p
      rw [List.mk_mem_zipIdx_iff_getElem?] at mp ⊢
      by_cases hn : n < k
      · rw [List.getElem?_take_of_lt hn] at mp
        exact mp
      · rw [List.getElem?_eq_none (by rw [tk]; omega)] at mp
        cases mp)
    exact Bool.eq_false_iff.mpr this
  obtain ⟨x1, x2⟩ := wrong_at (A := L.take k) (B := L.drop k) (w := wb) gA (fun y m => by
    rcases List.mem_append.mp m with m | m
    · exact lo y (List.mem_of_mem_take m)
    · rcases List.mem_cons.mp m with rfl | m
      · exact wr_ok _ (List.mem_append_left _ mb)
      · exact lo y (List.mem_of_mem_drop m)) (by rw [List.length_append, List.length_cons, List.length_drop, tk]; omega) (bd2 (by rw [tk]; exact k0) (wr2_bad wb mb))
  rw [tk] at x2
  obtain ⟨y1, y2⟩ := wrong_at (A := []) (B := L.drop 1) (w := wa) (fun p m => by cases m) (fun y m => by
    rw [List.nil_append] at m
    rcases List.mem_cons.mp m with rfl | m
    · exact wr_ok _ (List.mem_append_right _ ma)
    · exact lo y (List.mem_of_mem_drop m)) (by rw [List.nil_append, List.length_cons, List.length_drop]; omega) (bd1 (wr1_bad wa ma))
  have y2 : m_law_parse [.str (Txt.join "\n" ([] ++ wa :: L.drop 1))] = .ok (.list [.str "line", .int 0]) := y2
  generalize Txt.join "\n" (L.take k ++ wb :: L.drop k) = J1 at x1 x2
  generalize Txt.join "\n" ([] ++ wa :: L.drop 1) = J2 at y1 y2
  have z1 : cutL (L.map PyData.str) none (some (k : Int)) = (L.take k).map .str := by
    rw [cut_to _ _ (by omega), Int.toNat_natCast, List.map_take]
  have z2 : cutL (L.map PyData.str) (some (k : Int)) none = (L.drop k).map .str := by
    rw [cut_from, List.map_drop]
  have z3 : cutL (L.map PyData.str) (some 1) none = (L.drop 1).map .str := by
    have := cut_from (L.map PyData.str) 1
    rw [List.map_drop]
    exact this
  have u1 : addE (.list ((L.take k).map .str)) (.list [.str wb]) = .ok (.list ((L.take k).map .str ++ [.str wb])) := addE_ll (by rw [List.length_map, tk]; simp; omega)
  have u2 : addE (.list ((L.take k).map .str ++ [.str wb])) (.list ((L.drop k).map .str)) = .ok (.list ((L.take k ++ wb :: L.drop k).map .str)) := by
    rw [addE_ll (by rw [List.length_append, List.length_map, List.length_map, List.length_drop, tk]; simp; omega)]
    simp
  have u3 : addE (.list [.str wa]) (.list ((L.drop 1).map .str)) = .ok (.list (([] ++ wa :: L.drop 1).map .str)) := by
    rw [addE_ll (by rw [List.length_map, List.length_drop]; simp; omega)]
    simp
  generalize (L.take k ++ wb :: L.drop k).map PyData.str = M1 at u2 x1
  generalize ([] ++ wa :: L.drop 1).map PyData.str = M2 at u3 y1
  generalize (L.take k).map PyData.str = LA at *
  generalize (L.drop k).map PyData.str = LB at *
  generalize (L.drop 1).map PyData.str = LC at *
  have ll : (L.map PyData.str).length = ps.length + 1 := by rw [List.length_map]; exact l1
  generalize hLD : L.map PyData.str = LD at *
  have nk := neN_t (niLn (d := .int (k : Int)) ((ni_int _).mono (by decide)))
  have n0 := neN_t (niLn (d := .int 0) ((ni_int _).mono (by decide)))
  have nn := neN_t (niLn (d := .none) (ni_none.mono (by decide)))
  have nq := eqN_t (niLn (d := .none) (ni_none.mono (by decide)))
  obtain ⟨D, mD, i9⟩ := ix_ex (xs := [.none, .int 7, .list LD, G]) (i := ds.getD (Int.toNat 6) 0 % 4) (Int.emod_nonneg _ (by decide)) (Int.emod_lt_of_pos _ (by decide))
  have pD : m_law_parse [D] = .ok (.list [.str "line", .none]) := by
    refine lparse_no ?_
    simp only [List.mem_cons, List.not_mem_nil, or_false] at mD
    rcases mD with rfl | rfl | rfl | rfl
    · exact isi_s_n
    · exact isi_s_i _
    · exact isi_s_l _
    · exact isg
  have d0 := ixd 0 (by decide) (by decide)
  have d1 := ixd 1 (by decide) (by decide)
  have d2 := ixd 2 (by decide) (by decide)
  have d3 := ixd 3 (by decide) (by decide)
  have d4 := ixd 4 (by decide) (by decide)
  have d5 := ixd 5 (by decide) (by decide)
  have d6 := ixd 6 (by decide) (by decide)
  have pf := parse_fmt v1 v2
  clear ixd edg
  rcases pf with ⟨d, pd⟩ | ⟨v', ps', ws', c', gk', hl', hw', hc', pd, ef⟩
  · have f0 : ixD (.list [.str "line", d]) (.int 0) = .ok (.str "line") := ix_l (by decide) rfl
    simp only [f_law, sSeq_ap, sIf_ap, sRet_ap, sExpr_ap, sSet_ap, sSetO_ap, sFor_ap, sFz_ap, sFzb_ap, sAsg_ap, sSetItem_ap, sAugItem_ap, sAug_ap, sRaise_ap, sNil_ap, sBad_ap, mutO_ap, cA_ap, cNot_ap, cAnd_ap, cOr_ap, cIf_ap, cTup_ap, cLst_ap, pNone_ap, pSome_ap, wAnd_ap, wOr_ap, wNot_ap, wTru_ap, wCmp_ap, wYes_ap, iA_ap, iS_ap, aNil_ap, aCons_ap, kR_ap, b2_ap, b3_ap, c1_ap, chainD_ap, lcF_ap, datE_ap, datB_ap, ownAt_ap, endO_rt, endO_nx, endO_exc, endO_bad, bn_ok, bn_exc, bn_bad, to_ok, to_exc, to_bad, sq_nx, sq_rt, sq_bk, sq_ct, sq_exc, sq_bad, andR_ok, orR_ok, notR_ok, andV_ok, orV_ok, notV_ok, ifV_ok, truD_b, boolD_b, intD_i, tupR0, tupR1, tupR2, tupR3, tupR4, lstR0, lstR1, lstR2, lstR3, lstR4, lstR5, lstR6, lstR7, lstR8, lstR9, negD_i, slA3_l, slA3_t, tupleD_l, tupleD_t, listD_l, listD_t, revD_t, addE_ii, subD_ii, leD_ii, ltD_ii, geD_ii, gtI_ii, eqD_ii, neD_ii, isi_tup_tup, isi_tup_list, isi_tup_none, isi_tup_int, isi_tup_bool, isi_tup_str, isi_tup_dict, isi_int_int, isi_int_bool, isi_int_none, isi_int_str, isi_int_list, isi_int_tup, isi_int_dict, isi_bool_int, isi_bool_bool, isi_bool_none, isi_bool_str, isi_bool_list, isi_bool_tup, isi_bool_dict, lenD_t, lenD_l, seqD_l, seqD_t, List.getElem?_cons_zero, List.getElem?_cons_succ, List.set_cons_zero, List.set_cons_succ, ↓reduceIte, Bool.false_eq_true, Bool.not_true, Bool.not_false, sWp_ap, sWq_ap, wipeO_nx, wipeO_rt, wipeO_bk, wipeO_ct, wipeO_exc, wipeO_bad, wipeE_nil, wipeE_cons, fzE_ap, DL.ownO_l, asgO_2, DL.truD_l, DL.truD_t, datI_ap, augN_ap, zip2_tt, zip2_ll, sPar_ap, wFz_ap, er, eG, ew, g1, ln, rp, c1', tc, sq, c2'', ad, m1, jw, lp', j4, fm, nT, rb, nR, d0, e5, lT, mT, d1, m6, i6, s1, s2, s3, p1, p2, p3, p4, p5, d2, m4, i4, pd, f0, lo1, ll1, d3, ll, mk, hk, d4, m8, i8, z1, z2, z3, u1, u2, u3, x1, x2, nk, d5, i7, y1, y2, n0, no10, no7, nn, d6, i9, pD, nq]
  · have fm' : m_format_choice [graphD v' ps', tI ws', tI c'] = .ok (.str (fmt ps' ws' c')) := format_choice_eq gk' hl' hw' hc'
    rw [ef] at fm'
    have f0 : ixD (.tuple [graphD v' ps', tI ws', tI c']) (.int 0) = .ok (graphD v' ps') := ix_t (by decide) rfl
    have f1 : ixD (.tuple [graphD v' ps', tI ws', tI c']) (.int 1) = .ok (tI ws') := ix_t (by decide) rfl
    have f2 : ixD (.tuple [graphD v' ps', tI ws', tI c']) (.int 2) = .ok (tI c') := ix_t (by decide) rfl
    have g2 := g_other v' ps'
    have g3 := g_line v' ps'
    generalize graphD v' ps' = G' at *
    simp only [f_law, sSeq_ap, sIf_ap, sRet_ap, sExpr_ap, sSet_ap, sSetO_ap, sFor_ap, sFz_ap, sFzb_ap, sAsg_ap, sSetItem_ap, sAugItem_ap, sAug_ap, sRaise_ap, sNil_ap, sBad_ap, mutO_ap, cA_ap, cNot_ap, cAnd_ap, cOr_ap, cIf_ap, cTup_ap, cLst_ap, pNone_ap, pSome_ap, wAnd_ap, wOr_ap, wNot_ap, wTru_ap, wCmp_ap, wYes_ap, iA_ap, iS_ap, aNil_ap, aCons_ap, kR_ap, b2_ap, b3_ap, c1_ap, chainD_ap, lcF_ap, datE_ap, datB_ap, ownAt_ap, endO_rt, endO_nx, endO_exc, endO_bad, bn_ok, bn_exc, bn_bad, to_ok, to_exc, to_bad, sq_nx, sq_rt, sq_bk, sq_ct, sq_exc, sq_bad, andR_ok, orR_ok, notR_ok, andV_ok, orV_ok, notV_ok, ifV_ok, truD_b, boolD_b, intD_i, tupR0, tupR1, tupR2, tupR3, tupR4, lstR0, lstR1, lstR2, lstR3, lstR4, lstR5, lstR6, lstR7, lstR8, lstR9, negD_i, slA3_l, slA3_t, tupleD_l, tupleD_t, listD_l, listD_t, revD_t, addE_ii, subD_ii, leD_ii, ltD_ii, geD_ii, gtI_ii, eqD_ii, neD_ii, isi_tup_tup, isi_tup_list, isi_tup_none, isi_tup_int, isi_tup_bool, isi_tup_str, isi_tup_dict, isi_int_int, isi_int_bool, isi_int_none, isi_int_str, isi_int_list, isi_int_tup, isi_int_dict, isi_bool_int, isi_bool_bool, isi_bool_none, isi_bool_str, isi_bool_list, isi_bool_tup, isi_bool_dict, lenD_t, lenD_l, seqD_l, seqD_t, List.getElem?_cons_zero, List.getElem?_cons_succ, List.set_cons_zero, List.set_cons_succ, ↓reduceIte, Bool.false_eq_true, Bool.not_true, Bool.not_false, sWp_ap, sWq_ap, wipeO_nx, wipeO_rt, wipeO_bk, wipeO_ct, wipeO_exc, wipeO_bad, wipeE_nil, wipeE_cons, fzE_ap, DL.ownO_l, asgO_2, DL.truD_l, DL.truD_t, datI_ap, augN_ap, zip2_tt, zip2_ll, sPar_ap, wFz_ap, er, eG, ew, g1, ln, rp, c1', tc, sq, c2'', ad, m1, jw, lp', j4, fm, nT, rb, nR, d0, e5, lT, mT, d1, m6, i6, s1, s2, s3, p1, p2, p3, p4, p5, d2, m4, i4, pd, f0, f1, f2, g2, g3, fm', nE, d3, ll, mk, hk, d4, m8, i8, z1, z2, z3, u1, u2, u3, x1, x2, nk, d5, i7, y1, y2, n0, no10, no7, nn, d6, i9, pD, nq]
end K18
namespace K18
open PySem L2 DL Com
def d_ParseError : He.DefD := ⟨("ParseError", some "__init__"), "__init__", "ParseError.__init__", defArgs s_ParseError, defBody s_ParseError, defScope s_ParseError, [], []⟩
def d_law_cell : He.DefD := ⟨("_law_cell", none), "_law_cell", "_law_cell", defArgs s_law_cell, defBody s_law_cell, defScope s_law_cell, [], []⟩
def d_law_row : He.DefD := ⟨("_law_row", none), "_law_row", "_law_row", defArgs s_law_row, defBody s_law_row, defScope s_law_row, [], []⟩
def d_law_graph : He.DefD := ⟨("_law_graph", none), "_law_graph", "_law_graph", defArgs s_law_graph, defBody s_law_graph, defScope s_law_graph, [], []⟩
def d_law_degrees : He.DefD := ⟨("_law_degrees", none), "_law_degrees", "_law_degrees", defArgs s_law_degrees, defBody s_law_degrees, defScope s_law_degrees, [], []⟩
def d_law_wishes : He.DefD := ⟨("_law_wishes", none), "_law_wishes", "_law_wishes", defArgs s_law_wishes, defBody s_law_wishes, defScope s_law_wishes, [], []⟩
def d_parse_digit : He.DefD := ⟨("parse_digit", none), "parse_digit", "parse_digit", defArgs s_parse_digit, defBody s_parse_digit, defScope s_parse_digit, [], []⟩
def d_parse_line : He.DefD := ⟨("parse_line", none), "parse_line", "parse_line", defArgs s_parse_line, defBody s_parse_line, defScope s_parse_line, [], []⟩
def d_in_range : He.DefD := ⟨("in_range", none), "in_range", "in_range", defArgs s_in_range, defBody s_in_range, defScope s_in_range, [], []⟩
def d_is_edge : He.DefD := ⟨("is_edge", none), "is_edge", "is_edge", defArgs s_is_edge, defBody s_is_edge, defScope s_is_edge, [], []⟩
def d_is_graph : He.DefD := ⟨("is_graph", none), "is_graph", "is_graph", defArgs s_is_graph, defBody s_is_graph, defScope s_is_graph, [], []⟩
def d_are_wishes : He.DefD := ⟨("are_wishes", none), "are_wishes", "are_wishes", defArgs s_are_wishes, defBody s_are_wishes, defScope s_are_wishes, [], []⟩
def d_parse_choice : He.DefD := ⟨("parse_choice", none), "parse_choice", "parse_choice", defArgs s_parse_choice, defBody s_parse_choice, defScope s_parse_choice, [], []⟩
def d_law_parse : He.DefD := ⟨("_law_parse", none), "_law_parse", "_law_parse", defArgs s_law_parse, defBody s_law_parse, defScope s_law_parse, [], []⟩
def d_check_graph : He.DefD := ⟨("check_graph", none), "check_graph", "check_graph", defArgs s_check_graph, defBody s_check_graph, defScope s_check_graph, [], []⟩
def d_check_wishes : He.DefD := ⟨("check_wishes", none), "check_wishes", "check_wishes", defArgs s_check_wishes, defBody s_check_wishes, defScope s_check_wishes, [], []⟩
def d_is_choice : He.DefD := ⟨("is_choice", none), "is_choice", "is_choice", defArgs s_is_choice, defBody s_is_choice, defScope s_is_choice, [], []⟩
def d_check_choice : He.DefD := ⟨("check_choice", none), "check_choice", "check_choice", defArgs s_check_choice, defBody s_check_choice, defScope s_check_choice, [], []⟩
def d_format_choice : He.DefD := ⟨("format_choice", none), "format_choice", "format_choice", defArgs s_format_choice, defBody s_format_choice, defScope s_format_choice, [], []⟩
def d_law : He.DefD := ⟨("law", none), "law", "law", defArgs s_law, defBody s_law, defScope s_law, [], []⟩
def fn_0 : List He.DefD := [d_ParseError, d_law_cell, d_law_row, d_law_graph, d_law_degrees, d_law_wishes, d_parse_digit, d_parse_line, d_in_range, d_is_edge, d_is_graph, d_are_wishes, d_parse_choice, d_law_parse, d_check_graph, d_check_wishes, d_is_choice, d_check_choice, d_format_choice, d_law]
def fa_0 : List He.Fa := [.glo "ParseError", .glo "ChoiceError", .glo "_law_cell", .free "len", .glo "_law_row", .free "range", .glo "_law_graph", .free "min", .free "tuple", .free "sorted", .glo "_law_degrees", .glo "_law_wishes", .free "list", .glo "parse_digit", .str "DIGITS" "0123456789", .glo "parse_line", .glo "in_range", .free "isinstance", .free "int", .free "bool", .glo "is_edge", .glo "is_graph", .free "zip", .int "MAX_VERTICES" 7, .int "MAX_EDGES" 12, .glo "are_wishes", .int "MAX_WISH" 6, .glo "parse_choice", .free "str", .free "enumerate"]
def fa_1 : List He.Fa := [.glo "_law_parse", .glo "InvalidGraph", .glo "check_graph", .exc "InvalidGraph", .glo "check_wishes", .glo "InvalidWishes", .exc "InvalidWishes", .glo "is_choice", .glo "check_choice", .glo "InvalidChoice", .exc "InvalidChoice", .glo "format_choice", .glo "law"]
def ck : PySem.W.Frag → Bool := fun K => ckC exs exC subE K && ckF "ParseError" "line" "ChoiceError" K
def lo_0 : List Str := ["ChoiceError", "ParseError", "InvalidGraph", "InvalidWishes", "InvalidChoice", "MAX_VERTICES", "MAX_EDGES", "MAX_WISH", "in_range", "is_edge", "is_graph", "check_graph", "are_wishes", "check_wishes", "is_choice", "check_choice", "DIGITS", "format_choice", "parse_digit", "parse_line", "parse_choice", "_law_cell", "_law_row", "_law_graph", "_law_degrees", "_law_wishes", "_law_parse"]
def fn : List He.DefD := fn_0
def fa : List He.Fa := fa_0 ++ fa_1
def loose : List Str := lo_0
abbrev Rw : PySem.W.OpenRow := PySem.W.OpenLaw.row PySem.Challenge.rw_degreechoices_k18_text
abbrev hk : PySem.W.Hook := hookL 4 fa fn ck
theorem run (w : World) : HandSHeadRun.RunEq Rw (PySem.W.view Rw.prog [31]) hk (obL 4 fa fn ck) 20000 loose w := by
  intro os
  kernel_rfl
theorem facts {P : Program} {w : World} {K : PySem.W.Frag} {h : Heap} {mg : Str → Option Value} {f : Addr} (X : K.In h) (G : h.Ns mainGlobals mg) (hfa : mg ("law" : Str) = some (.ref f)) (c : SaysL fa fn ck K) : LawF P w K mg 7 63 f := by
  obtain ⟨fd_ParseError, F_ParseError⟩ := c.d.def_ 0 (d := d_ParseError) rfl
  obtain ⟨fd_law_cell, F_law_cell⟩ := c.d.def_ 1 (d := d_law_cell) rfl
  obtain ⟨fd_law_row, F_law_row⟩ := c.d.def_ 2 (d := d_law_row) rfl
  obtain ⟨fd_law_graph, F_law_graph⟩ := c.d.def_ 3 (d := d_law_graph) rfl
  obtain ⟨fd_law_degrees, F_law_degrees⟩ := c.d.def_ 4 (d := d_law_degrees) rfl
  obtain ⟨fd_law_wishes, F_law_wishes⟩ := c.d.def_ 5 (d := d_law_wishes) rfl
  obtain ⟨fd_parse_digit, F_parse_digit⟩ := c.d.def_ 6 (d := d_parse_digit) rfl
  obtain ⟨fd_parse_line, F_parse_line⟩ := c.d.def_ 7 (d := d_parse_line) rfl
  obtain ⟨fd_in_range, F_in_range⟩ := c.d.def_ 8 (d := d_in_range) rfl
  obtain ⟨fd_is_edge, F_is_edge⟩ := c.d.def_ 9 (d := d_is_edge) rfl
  obtain ⟨fd_is_graph, F_is_graph⟩ := c.d.def_ 10 (d := d_is_graph) rfl
  obtain ⟨fd_are_wishes, F_are_wishes⟩ := c.d.def_ 11 (d := d_are_wishes) rfl
  obtain ⟨fd_parse_choice, F_parse_choice⟩ := c.d.def_ 12 (d := d_parse_choice) rfl
  obtain ⟨fd_law_parse, F_law_parse⟩ := c.d.def_ 13 (d := d_law_parse) rfl
  obtain ⟨fd_check_graph, F_check_graph⟩ := c.d.def_ 14 (d := d_check_graph) rfl
  obtain ⟨fd_check_wishes, F_check_wishes⟩ := c.d.def_ 15 (d := d_check_wishes) rfl
  obtain ⟨fd_is_choice, F_is_choice⟩ := c.d.def_ 16 (d := d_is_choice) rfl
  obtain ⟨fd_check_choice, F_check_choice⟩ := c.d.def_ 17 (d := d_check_choice) rfl
  obtain ⟨fd_format_choice, F_format_choice⟩ := c.d.def_ 18 (d := d_format_choice) rfl
  obtain ⟨fd_law, F_law⟩ := c.d.def_ 19 (d := d_law) rfl
  have g_ParseError := He.glo_ok X G (c.d.fact 0 (f := .glo "ParseError") rfl)
  have g_ChoiceError := He.glo_ok X G (c.d.fact 1 (f := .glo "ChoiceError") rfl)
  have g__law_cell := He.glo_ok X G (c.d.fact 2 (f := .glo "_law_cell") rfl)
  have n_len := He.free_ok X G (c.d.fact 3 (f := .free "len") rfl)
  have g__law_row := He.glo_ok X G (c.d.fact 4 (f := .glo "_law_row") rfl)
  have n_range := He.free_ok X G (c.d.fact 5 (f := .free "range") rfl)
  have g__law_graph := He.glo_ok X G (c.d.fact 6 (f := .glo "_law_graph") rfl)
  have n_min := He.free_ok X G (c.d.fact 7 (f := .free "min") rfl)
  have n_tuple := He.free_ok X G (c.d.fact 8 (f := .free "tuple") rfl)
  have n_sorted := He.free_ok X G (c.d.fact 9 (f := .free "sorted") rfl)
  have g__law_degrees := He.glo_ok X G (c.d.fact 10 (f := .glo "_law_degrees") rfl)
  have g__law_wishes := He.glo_ok X G (c.d.fact 11 (f := .glo "_law_wishes") rfl)
  have n_list := He.free_ok X G (c.d.fact 12 (f := .free "list") rfl)
  have g_parse_digit := He.glo_ok X G (c.d.fact 13 (f := .glo "parse_digit") rfl)
  obtain ⟨t_DIGITS, k_DIGITS⟩ := He.str_ok X G (c.d.fact 14 (f := .str "DIGITS" "0123456789") rfl)
  have g_parse_line := He.glo_ok X G (c.d.fact 15 (f := .glo "parse_line") rfl)
  have g_in_range := He.glo_ok X G (c.d.fact 16 (f := .glo "in_range") rfl)
  have n_isinstance := He.free_ok X G (c.d.fact 17 (f := .free "isinstance") rfl)
  have n_int := He.free_ok X G (c.d.fact 18 (f := .free "int") rfl)
  have n_bool := He.free_ok X G (c.d.fact 19 (f := .free "bool") rfl)
  have g_is_edge := He.glo_ok X G (c.d.fact 20 (f := .glo "is_edge") rfl)
  have g_is_graph := He.glo_ok X G (c.d.fact 21 (f := .glo "is_graph") rfl)
  have n_zip := He.free_ok X G (c.d.fact 22 (f := .free "zip") rfl)
  obtain ⟨t_MAX_VERTICES, k_MAX_VERTICES⟩ := He.int_ok X G (c.d.fact 23 (f := .int "MAX_VERTICES" 7) rfl)
  obtain ⟨t_MAX_EDGES, k_MAX_EDGES⟩ := He.int_ok X G (c.d.fact 24 (f := .int "MAX_EDGES" 12) rfl)
  have g_are_wishes := He.glo_ok X G (c.d.fact 25 (f := .glo "are_wishes") rfl)
  obtain ⟨t_MAX_WISH, k_MAX_WISH⟩ := He.int_ok X G (c.d.fact 26 (f := .int "MAX_WISH" 6) rfl)
  have g_parse_choice := He.glo_ok X G (c.d.fact 27 (f := .glo "parse_choice") rfl)
  have n_str := He.free_ok X G (c.d.fact 28 (f := .free "str") rfl)
  have n_enumerate := He.free_ok X G (c.d.fact 29 (f := .free "enumerate") rfl)
  have g__law_parse := He.glo_ok X G (c.d.fact 30 (f := .glo "_law_parse") rfl)
  have g_InvalidGraph := He.glo_ok X G (c.d.fact 31 (f := .glo "InvalidGraph") rfl)
  have g_check_graph := He.glo_ok X G (c.d.fact 32 (f := .glo "check_graph") rfl)
  have x_InvalidGraph : ExOk K mg "InvalidGraph" := exOk_of g_InvalidGraph (c.d.fact 33 (f := .exc "InvalidGraph") rfl)
  have g_check_wishes := He.glo_ok X G (c.d.fact 34 (f := .glo "check_wishes") rfl)
  have g_InvalidWishes := He.glo_ok X G (c.d.fact 35 (f := .glo "InvalidWishes") rfl)
  have x_InvalidWishes : ExOk K mg "InvalidWishes" := exOk_of g_InvalidWishes (c.d.fact 36 (f := .exc "InvalidWishes") rfl)
  have g_is_choice := He.glo_ok X G (c.d.fact 37 (f := .glo "is_choice") rfl)
  have g_check_choice := He.glo_ok X G (c.d.fact 38 (f := .glo "check_choice") rfl)
  have g_InvalidChoice := He.glo_ok X G (c.d.fact 39 (f := .glo "InvalidChoice") rfl)
  have x_InvalidChoice : ExOk K mg "InvalidChoice" := exOk_of g_InvalidChoice (c.d.fact 40 (f := .exc "InvalidChoice") rfl)
  have g_format_choice := He.glo_ok X G (c.d.fact 41 (f := .glo "format_choice") rfl)
  have g_law := He.glo_ok X G (c.d.fact 42 (f := .glo "law") rfl)
  have q : Clt K exs exC subE := ckC_ok (Bool.and_eq_true_iff.mp c.c).1
  have xf : Fld K "ParseError" "line" "ChoiceError" := ckF_ok (Bool.and_eq_true_iff.mp c.c).2
  have e := hfa.symm.trans g_law
  cases e
  have b := FunD.bindsA (ps := ["script"]) F_law fun _ _ _ _ _ _ us hl => match us, hl with | [_], _ => rfl
  refine ⟨fd_law, m_law, fun s v => b s [v] rfl, law_true, fun base _ _ => ?_⟩
  have c_ParseError := ok_ParseError (P := P) (w := w) (base := base) F_ParseError g_ParseError g_ChoiceError xf
  have c__law_cell := ok_law_cell (P := P) (w := w) (base := base) F_law_cell g__law_cell n_len
  have c__law_row := ok_law_row (P := P) (w := w) (base := base) F_law_row g__law_row c__law_cell n_range
  have c__law_graph := ok_law_graph (P := P) (w := w) (base := base) F_law_graph g__law_graph c__law_row n_range n_len n_min n_tuple n_sorted
  have c__law_degrees := ok_law_degrees (P := P) (w := w) (base := base) F_law_degrees g__law_degrees n_tuple
  have c__law_wishes := ok_law_wishes (P := P) (w := w) (base := base) F_law_wishes g__law_wishes c__law_row c__law_degrees n_range n_len n_list n_tuple
  have c_parse_digit := ok_parse_digit (P := P) (w := w) (base := base) F_parse_digit g_parse_digit n_len k_DIGITS
  have c_parse_line := ok_parse_line (P := P) (w := w) (base := base) F_parse_line g_parse_line c_parse_digit n_tuple n_len
  have c_in_range := ok_in_range (P := P) (w := w) (base := base) F_in_range g_in_range n_isinstance n_int n_bool
  have c_is_edge := ok_is_edge (P := P) (w := w) (base := base) F_is_edge g_is_edge c_in_range n_isinstance n_tuple n_len
  have c_is_graph := ok_is_graph (P := P) (w := w) (base := base) F_is_graph g_is_graph c_in_range c_is_edge n_isinstance n_tuple n_len n_zip k_MAX_VERTICES k_MAX_EDGES
  have c_are_wishes := ok_are_wishes (P := P) (w := w) (base := base) F_are_wishes g_are_wishes c_in_range n_isinstance n_tuple n_len k_MAX_WISH
  have c_parse_choice := ok_parse_choice (P := P) (w := w) (base := base) F_parse_choice g_parse_choice c_ParseError c_parse_line c_is_graph c_are_wishes n_isinstance n_str n_enumerate n_len n_tuple
  have c__law_parse := ok_law_parse (P := P) (w := w) (base := base) F_law_parse g__law_parse c_parse_choice n_isinstance g_ParseError g_ChoiceError g_InvalidGraph q xf
  have c_check_graph := ok_check_graph (P := P) (w := w) (base := base) F_check_graph g_check_graph c_is_graph x_InvalidGraph
  have c_check_wishes := ok_check_wishes (P := P) (w := w) (base := base) F_check_wishes g_check_wishes c_check_graph c_are_wishes x_InvalidWishes
  have c_is_choice := ok_is_choice (P := P) (w := w) (base := base) F_is_choice g_is_choice c_in_range n_isinstance n_tuple n_len n_zip
  have c_check_choice := ok_check_choice (P := P) (w := w) (base := base) F_check_choice g_check_choice c_is_choice x_InvalidChoice
  have c_format_choice := ok_format_choice (P := P) (w := w) (base := base) F_format_choice g_format_choice c_check_wishes c_check_choice n_str n_enumerate
  exact fv_law F_law c__law_row c__law_graph c__law_wishes c_format_choice c__law_parse n_tuple n_range n_len n_str
end K18
open PySem PySem.W PySem.Calls PyProof.Rows
theorem PySem.Challenge.cw_degreechoices_k18_text_holds : PySem.Challenge.rw_degreechoices_k18_text.Holds := by
  w_on; o_law
  refine HandSHeadRun.head_any (r := OpenLaw.row PySem.Challenge.rw_degreechoices_k18_text) (q := view (OpenLaw.row PySem.Challenge.rw_degreechoices_k18_text).prog [31]) (H := K18.hk) (ob := DL.obL 4 K18.fa K18.fn K18.ck) (M := 20000) (loose := K18.loose) (d := HandSHeadRun.topDef (OpenLaw.row PySem.Challenge.rw_degreechoices_k18_text).prog 31) (kwd := []) DL.obL_eq
    (by kernel_rfl) (fun s => by kernel_rfl) K18.run (by kernel_rfl) (by kernel_rfl) (by kernel_rfl) (by rfl) (by first | assumption | decide +kernel) (by decide +kernel) ⟨rfl, rfl, rfl, rfl, rfl, by decide +kernel⟩ ?hw ?hc
  case hw => w_witness2
  case hc =>
    refine DL.law_walk (l := PySem.Challenge.rw_degreechoices_k18_text) (n := 63) (k := 7) rfl (by decide) (by kernel_rfl) ⟨rfl, by decide, by decide⟩ ?F
    intro w mg fa h K KX c G hmg0
    have hmg : mg ("law" : PySem.Str) = some (.ref fa) := by
      have e : (HandSHeadRun.topDef (OpenLaw.row PySem.Challenge.rw_degreechoices_k18_text).prog 31).name = ("law" : PySem.Str) := by kernel_rfl
      rw [← e]
      exact hmg0
    exact K18.facts KX G hmg c
