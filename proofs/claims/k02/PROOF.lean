import PyProof.Rows.All
import Wide.All
import OpenK.AllK
import Wide.FinOn
import HandS.ForMost
import HandS.IsInst
import HandS.Walk
import HandS.Deep
import HandS.TupAny
import HandS.TupMul
import HandS.TupLe
import HandS.Wide
import HandS.Zip
import HandS.Conv
import KE.SortData
import KE.DataMinMax
import KE.DataCmp
import KE.GoesEnum
import KE.GoesMore
import HandS.DictComp
import PyProof.Rows.RowBridgeK
import HandS.EndBits
import PySem.Challenge.RW_leastpeg_k02_whole_pegs_that_are_got
set_option Elab.async false
set_option linter.all false
set_option maxRecDepth 100000
set_option maxHeartbeats 4000000
namespace PD
open PySem PySem.Spec L2

abbrev D := PyData
/-- the program, the world, the written part -/
structure Frag where
  P : Program
  w : World
  K : PySem.W.Frag
abbrev Bag := Int × Int × Int
/-- the heap at the bag's place -/
def bagO (β : Bag) : HO := .lst [.int β.1, .int β.2.1, .int β.2.2]
def BagAt (ob : Option Addr) (F H : Hp) (β : Bag) : Prop := ∀ b, ob = some b → F b = none ∧ H b = some (bagO β)

/-- frozen part F, heap H: how both may grow -/
structure Gr (ob : Option Addr) (F H F' H' : Hp) : Prop where
  fs : Same F F'
  nw : ∀ a o, F a = none → H a = some o → F' a = none
  kp : ∀ a o, H a = some o → ob ≠ some a → H' a = some o
  dm : ∀ a o, H a = some o → ∃ o', H' a = some o'
theorem Gr.refl {ob F H} : Gr ob F H F H := ⟨Same.refl _, fun _ _ h _ => h, fun _ _ h _ => h, fun _ o h => ⟨o, h⟩⟩
theorem Gr.trans {ob F H F1 H1 F2 H2} (g : Gr ob F H F1 H1) (k : Gr ob F1 H1 F2 H2) : Gr ob F H F2 H2 where
  fs := g.fs.trans k.fs
  nw := fun a o hf hh => let ⟨o', h'⟩ := g.dm a o hh; k.nw a o' (g.nw a o hf hh) h'
  kp := fun a o hh hb => k.kp a o (g.kp a o hh hb) hb
  dm := fun a o hh => let ⟨o', h'⟩ := g.dm a o hh; k.dm a o' h'
theorem Gr.nob {ob F H F' H'} (g : Gr none F H F' H') : Gr ob F H F' H' := ⟨g.fs, g.nw, fun a o h _ => g.kp a o h (by simp), g.dm⟩
/-- a new object that is frozen at once -/
theorem Gr.new {ob F H p o} (hp : H p = none) (fh : Same F H) : Gr ob F H (upd F p o) (upd H p o) where
  fs := fun b u e => by rw [upd_ne (ne_of_none (fh b u e) hp)]; exact e
  nw := fun a u hf hh => by rw [upd_ne (ne_of_none hh hp)]; exact hf
  kp := fun a u hh _ => by rw [upd_ne (ne_of_none hh hp)]; exact hh
  dm := fun a u hh => ⟨u, by rw [upd_ne (ne_of_none hh hp)]; exact hh⟩
/-- a new object that is not frozen -/
theorem Gr.newO {ob F H p o} (hp : H p = none) : Gr ob F H F (upd H p o) where
  fs := Same.refl _
  nw := fun a u hf _ => hf
  kp := fun a u hh _ => by rw [upd_ne (ne_of_none hh hp)]; exact hh
  dm := fun a u hh => ⟨u, by rw [upd_ne (ne_of_none hh hp)]; exact hh⟩
theorem same_new {F H : Hp} {p o} (fh : Same F H) : Same (upd F p o) (upd H p o) := fun b u e => by
  by_cases hb : b = p
  · subst hb; rw [upd_same] at e ⊢; exact e
  · rw [upd_ne hb] at e ⊢; exact fh b u e
theorem same_newO {F H : Hp} {p o} (fh : Same F H) (hp : F p = none) : Same F (upd H p o) := fun b u e => by
  rw [upd_ne (ne_of_none e hp)]; exact fh b u e

/-- behind an expression -/
structure Post (ob : Option Addr) (F H F' H' : Hp) (β' : Bag) : Prop where
  gr : Gr ob F H F' H'
  fh : Same F' H'
  bg : BagAt ob F' H' β'
theorem Post.trans {ob F H F1 H1 F2 H2 β1 β2} (a : Post ob F H F1 H1 β1) (b : Post ob F1 H1 F2 H2 β2) : Post ob F H F2 H2 β2 := ⟨a.gr.trans b.gr, b.fh, b.bg⟩

/-! ### frozen data -/
theorem same_seq {K : Frag} {F F' : Hp} {a : Addr} {xs : List V} (e : Same F F') (h : SqT K.K F a xs) : SqT K.K F' a xs := by
  rcases h with (h | ⟨o, h⟩) | h
  · exact .inl (.inl (e _ _ h))
  · exact .inl (.inr ⟨o, e _ _ h⟩)
  · exact .inr h
mutual
inductive Dq (K : Frag) (F : Hp) : V → D → Prop
  | non : Dq K F .non .none
  | bl (b : Bool) : Dq K F (.bl b) (.bool b)
  | int (i : Int) : Dq K F (.int i) (.int i)
  | str (x : Str) : Dq K F (.str x) (.str x)
  | lst {a : Addr} {xs : List V} {ds : List D} : F a = some (.lst xs) → DqAll K F xs ds → Dq K F (.ref a) (.list ds)
  | tup {a : Addr} {xs : List V} {ds : List D} : SqT K.K F a xs → DqAll K F xs ds → Dq K F (.ref a) (.tuple ds)
inductive DqAll (K : Frag) (F : Hp) : List V → List D → Prop
  | nil : DqAll K F [] []
  | cons {v : V} {vs : List V} {d : D} {ds : List D} : Dq K F v d → DqAll K F vs ds → DqAll K F (v :: vs) (d :: ds)
end
mutual
theorem dq_dp {K : Frag} {F : Hp} : ∀ (d : D) (v : V), Dq K F v d → Dp K.K F v d
  | .none, _, h => by cases h; exact .non
  | .bool b, _, h => by cases h; exact .bl b
  | .int i, _, h => by cases h; exact .int i
  | .str x, _, h => by cases h; exact .str x
  | .list ds, _, h => by cases h with | lst hs ha => exact .lst (.of hs) (dqAll_dp ds _ ha)
  | .tuple ds, _, h => by cases h with | tup hs ha => exact .tup hs (dqAll_dp ds _ ha)
  | .dict _, _, h => by cases h
theorem dqAll_dp {K : Frag} {F : Hp} : ∀ (ds : List D) (vs : List V), DqAll K F vs ds → DpAll K.K F vs ds
  | [], _, h => by cases h; exact .nil
  | d :: ds, _, h => by cases h with | cons h1 h2 => exact .cons (dq_dp d _ h1) (dqAll_dp ds _ h2)
end
mutual
theorem dp_mono {K : Frag} {F F' : Hp} (e : Same F F') : ∀ (d : D) (v : V), Dq K F v d → Dq K F' v d
  | .none, _, h => by cases h; exact .non
  | .bool b, _, h => by cases h; exact .bl b
  | .int i, _, h => by cases h; exact .int i
  | .str x, _, h => by cases h; exact .str x
  | .list ds, _, h => by cases h with | lst hs ha => exact .lst (e _ _ hs) (dpAll_mono e ds _ ha)
  | .tuple ds, _, h => by cases h with | tup hs ha => exact .tup (same_seq e hs) (dpAll_mono e ds _ ha)
  | .dict _, _, h => by cases h
theorem dpAll_mono {K : Frag} {F F' : Hp} (e : Same F F') : ∀ (ds : List D) (vs : List V), DqAll K F vs ds → DqAll K F' vs ds
  | [], _, h => by cases h; exact .nil
  | d :: ds, _, h => by cases h with | cons h1 h2 => exact .cons (dp_mono e d _ h1) (dpAll_mono e ds _ h2)
end
theorem DqAll.len {K : Frag} {F : Hp} : ∀ {ds : List D} {vs : List V}, DqAll K F vs ds → vs.length = ds.length
  | [], _, h => by cases h; rfl
  | d :: ds, _, h => by cases h with | cons h1 h2 => simp [DqAll.len h2]
theorem DqAll.get {K : Frag} {F : Hp} : ∀ {ds : List D} {vs : List V} {i : Nat} {d : D}, DqAll K F vs ds → ds[i]? = some d → ∃ v, vs[i]? = some v ∧ Dq K F v d
  | [], _, _, _, _, e => by simp at e
  | d :: ds, _, 0, _, h, e => by cases h with | cons h1 h2 => simp at e; subst e; exact ⟨_, rfl, h1⟩
  | d :: ds, _, i + 1, x, h, e => by
    cases h with
    | cons h1 h2 =>
      obtain ⟨v, a, b⟩ := DqAll.get (i := i) (d := x) h2 (by simpa using e)
      exact ⟨v, by simpa using a, b⟩
theorem DqAll.append {K : Frag} {F : Hp} : ∀ {ds es : List D} {vs ws : List V}, DqAll K F vs ds → DqAll K F ws es → DqAll K F (vs ++ ws) (ds ++ es)
  | [], _, _, _, h, k => by cases h; exact k
  | d :: ds, _, _, _, h, k => by cases h with | cons h1 h2 => exact .cons h1 (DqAll.append h2 k)
theorem DqAll.take {K : Frag} {F : Hp} : ∀ {ds : List D} {vs : List V} (n : Nat), DqAll K F vs ds → DqAll K F (vs.take n) (ds.take n)
  | _, _, 0, _ => by simp; exact .nil
  | [], _, n + 1, h => by cases h; exact .nil
  | d :: ds, _, n + 1, h => by cases h with | cons h1 h2 => exact .cons h1 (DqAll.take n h2)
theorem DqAll.drop {K : Frag} {F : Hp} : ∀ {ds : List D} {vs : List V} (n : Nat), DqAll K F vs ds → DqAll K F (vs.drop n) (ds.drop n)
  | _, _, 0, h => h
  | [], _, n + 1, h => by cases h; exact .nil
  | d :: ds, _, n + 1, h => by cases h with | cons h1 h2 => exact DqAll.drop n h2
theorem DqAll.set {K : Frag} {F : Hp} {v : V} {d : D} (hv : Dq K F v d) : ∀ {ds : List D} {vs : List V} (n : Nat), DqAll K F vs ds → DqAll K F (vs.set n v) (ds.set n d)
  | [], _, _, h => by cases h; exact .nil
  | _ :: _, _, 0, h => by cases h with | cons h1 h2 => exact .cons hv h2
  | d :: ds, _, n + 1, h => by cases h with | cons h1 h2 => exact .cons h1 (DqAll.set hv n h2)
theorem DqAll.reverse {K : Frag} {F : Hp} : ∀ {ds : List D} {vs : List V}, DqAll K F vs ds → DqAll K F vs.reverse ds.reverse
  | [], _, h => by cases h; exact .nil
  | d :: ds, _, h => by
    cases h with
    | cons h1 h2 => rw [List.reverse_cons, List.reverse_cons]; exact DqAll.append (DqAll.reverse h2) (.cons h1 .nil)
theorem dp_int {K : Frag} {F : Hp} {v : V} {i : Int} (h : Dq K F v (.int i)) : v = .int i := by cases h; rfl
theorem dp_bl {K : Frag} {F : Hp} {v : V} {b : Bool} (h : Dq K F v (.bool b)) : v = .bl b := by cases h; rfl
theorem dp_str {K : Frag} {F : Hp} {v : V} {x : Str} (h : Dq K F v (.str x)) : v = .str x := by cases h; rfl
theorem dp_non {K : Frag} {F : Hp} {v : V} (h : Dq K F v .none) : v = .non := by cases h; rfl
theorem dp_lst {K : Frag} {F : Hp} {v : V} {ds : List D} (h : Dq K F v (.list ds)) : ∃ a xs, v = .ref a ∧ F a = some (.lst xs) ∧ DqAll K F xs ds := by
  cases h with | lst hs ha => exact ⟨_, _, rfl, hs, ha⟩
theorem dp_tup {K : Frag} {F : Hp} {v : V} {ds : List D} (h : Dq K F v (.tuple ds)) : ∃ a xs, v = .ref a ∧ SqT K.K F a xs ∧ DqAll K F xs ds := by
  cases h with | tup hs ha => exact ⟨_, _, rfl, hs, ha⟩

/-! ### dicts with int or text keys -/
def keyD : Key → D
  | .inl i => .int i
  | .inr x => .str x
inductive KVp (K : Frag) (F : Hp) : List (Key × V) → List (D × D) → Prop
  | nil : KVp K F [] []
  | cons {k : Key} {v : V} {d : D} {ks : List (Key × V)} {ds : List (D × D)} : Dq K F v d → KVp K F ks ds → KVp K F ((k, v) :: ks) ((keyD k, d) :: ds)
theorem kvp_mono {K : Frag} {F F' : Hp} (e : Same F F') : ∀ {ks : List (Key × V)} {ds : List (D × D)}, KVp K F ks ds → KVp K F' ks ds
  | _, _, .nil => .nil
  | _, _, .cons h t => .cons (dp_mono e _ _ h) (kvp_mono e t)
/-- what stands at a dict's place -/
inductive DicO (K : Frag) (F : Hp) : HO → List (D × D) → Prop
  | k {ks : List (Key × V)} {ds : List (D × D)} : KVp K F ks ds → (ks.map (·.1)).Nodup → DicO K F (.dK ks) ds
theorem dicO_mono {K : Frag} {F F' : Hp} (e : Same F F') {o : HO} {ds : List (D × D)} (h : DicO K F o ds) : DicO K F' o ds := by
  cases h with | k h n => exact .k (kvp_mono e h) n

/-- frozen data, a dict at the top allowed -/
inductive Rp (K : Frag) (F : Hp) : V → D → Prop
  | dp {v d} : Dq K F v d → Rp K F v d
  | dic {a o ds} : F a = some o → DicO K F o ds → Rp K F (.ref a) (.dict ds)
theorem Rp.mono {K : Frag} {F F' : Hp} (e : Same F F') {v : V} {d : D} (h : Rp K F v d) : Rp K F' v d := by
  cases h with
  | dp h => exact .dp (dp_mono e _ _ h)
  | dic h k => exact .dic (e _ _ h) (dicO_mono e k)
inductive RpAll (K : Frag) (F : Hp) : List V → List D → Prop
  | nil : RpAll K F [] []
  | cons {v d vs ds} : Rp K F v d → RpAll K F vs ds → RpAll K F (v :: vs) (d :: ds)
theorem RpAll.mono {K : Frag} {F F' : Hp} (e : Same F F') : ∀ {vs : List V} {ds : List D}, RpAll K F vs ds → RpAll K F' vs ds
  | _, _, .nil => .nil
  | _, _, .cons h t => .cons (h.mono e) (RpAll.mono e t)
theorem RpAll.len {K : Frag} {F : Hp} : ∀ {vs : List V} {ds : List D}, RpAll K F vs ds → vs.length = ds.length
  | _, _, .nil => rfl
  | _, _, .cons _ t => by simp [RpAll.len t]
/-- no dict -/
def plainD : D → Bool
  | .dict _ => false
  | _ => true
theorem Rp.plain {K : Frag} {F : Hp} {v : V} {d : D} (h : Rp K F v d) (p : plainD d = true) : Dq K F v d := by
  cases h with
  | dp h => exact h
  | dic _ _ => cases p
theorem RpAll.plain {K : Frag} {F : Hp} : ∀ {vs : List V} {ds : List D}, RpAll K F vs ds → ds.all plainD = true → DqAll K F vs ds
  | _, _, .nil, _ => .nil
  | _, _, .cons h t, p => by
    rw [List.all_cons, Bool.and_eq_true] at p
    exact .cons (h.plain p.1) (RpAll.plain t p.2)
theorem DqAll.rp {K : Frag} {F : Hp} : ∀ {ds : List D} {vs : List V}, DqAll K F vs ds → RpAll K F vs ds
  | [], _, h => by cases h; exact .nil
  | d :: ds, _, h => by cases h with | cons h1 h2 => exact .cons (.dp h1) (DqAll.rp h2)

/-! ### slots -/
inductive Sl where
  | no | fr (d : D) | ow (d : D) | bg | sc (ns : List Int)
abbrev Env := List Sl
/-- a mutable object of one's own -/
def OwnAt (K : Frag) (F H : Hp) (o : Addr) : D → Prop
  | .list ds => ∃ xs, H o = some (.lst xs) ∧ DqAll K F xs ds
  | .dict ds => ∃ ob, H o = some ob ∧ DicO K F ob ds
  | _ => False
theorem OwnAt.there {K : Frag} {F H : Hp} {o : Addr} {d : D} (h : OwnAt K F H o d) : ∃ u, H o = some u := by
  cases d with
  | list ds => obtain ⟨xs, e, _⟩ := h; exact ⟨_, e⟩
  | dict ds => obtain ⟨ob, e, _⟩ := h; exact ⟨_, e⟩
  | _ => exact h.elim
theorem OwnAt.move {K : Frag} {F H F' H' : Hp} {o : Addr} {d : D} (h : OwnAt K F H o d) (e : Same F F') (k : ∀ u, H o = some u → H' o = some u) : OwnAt K F' H' o d := by
  cases d with
  | list ds => obtain ⟨xs, e1, e2⟩ := h; exact ⟨xs, k _ e1, dpAll_mono e _ _ e2⟩
  | dict ds => obtain ⟨ob, e1, e2⟩ := h; exact ⟨ob, k _ e1, dicO_mono e e2⟩
  | _ => exact h.elim
/-- an activation: what stood at its entry -/
structure Act where
  F : Hp
  H : Hp
  ob : Option Addr
def SlOk (K : Frag) (Z : Act) (F H : Hp) (s : Option (Option V)) : Sl → Prop
  | .no => True
  | .fr d => ∃ v, s = some (some v) ∧ Rp K F v d
  | .ow d => ∃ o, s = some (some (.ref o)) ∧ F o = none ∧ Z.H o = none ∧ Z.ob ≠ some o ∧ OwnAt K F H o d
  | .bg => ∃ b, s = some (some (.ref b)) ∧ Z.ob = some b
  | .sc ns => ∃ a, s = some (some (.ref a)) ∧ SqL K.K Z.H a (ns.map V.int) ∧ Z.ob = none
structure Rel (K : Frag) (Z : Act) (F : Hp) (β : Bag) (δ : Env) (σ : St) (H : Hp) : Prop where
  gr : Gr Z.ob Z.F Z.H F H
  fh : Same F H
  bg : BagAt Z.ob F H β
  len : δ.length = σ.length
  sl : ∀ (i : Nat) (s : Sl), δ[i]? = some s → SlOk K Z F H σ[i]? s
  dj : ∀ (i j : Nat) (d e : D), i ≠ j → δ[i]? = some (.ow d) → δ[j]? = some (.ow e) → σ[i]? ≠ σ[j]?
theorem SlOk.post {K : Frag} {Z : Act} {F H F' H' : Hp} {s : Option (Option V)} {x : Sl} (h : SlOk K Z F H s x) (p : Gr Z.ob F H F' H') : SlOk K Z F' H' s x := by
  cases x with
  | no => trivial
  | fr d => obtain ⟨v, e, r⟩ := h; exact ⟨v, e, r.mono p.fs⟩
  | ow d =>
    obtain ⟨o, e, f, z, b, w⟩ := h
    obtain ⟨u, hu⟩ := w.there
    exact ⟨o, e, p.nw o u f hu, z, b, w.move p.fs fun u' e' => p.kp o u' e' b⟩
  | bg => exact h
  | sc ns => exact h
theorem Rel.post {K : Frag} {Z : Act} {F H F' H' : Hp} {β β' : Bag} {δ : Env} {σ : St} (r : Rel K Z F β δ σ H) (p : Post Z.ob F H F' H' β') : Rel K Z F' β' δ σ H' :=
  ⟨r.gr.trans p.gr, p.fh, p.bg, r.len, fun i s e => (r.sl i s e).post p.gr, r.dj⟩
theorem Rel.postR {K : Frag} {Z : Act} {F H : Hp} {β : Bag} {δ : Env} {σ : St} (r : Rel K Z F β δ σ H) : Post Z.ob F H F H β := ⟨.refl, r.fh, r.bg⟩
theorem Rel.postN {K : Frag} {Z : Act} {F H : Hp} {β : Bag} {δ : Env} {σ : St} {p : Addr} {o : HO} (r : Rel K Z F β δ σ H) (hp : H p = none) : Post Z.ob F H (upd F p o) (upd H p o) β :=
  ⟨.new hp r.fh, same_new r.fh, fun b e => by
    obtain ⟨h1, h2⟩ := r.bg b e
    have ne := ne_of_none h2 hp
    rw [upd_ne ne, upd_ne ne]; exact ⟨h1, h2⟩⟩
theorem Post.new {ob F H F' H' β p o} (r : Post ob F H F' H' β) (hp : H' p = none) : Post ob F H (upd F' p o) (upd H' p o) β :=
  ⟨r.gr.trans (.new hp r.fh), same_new r.fh, fun b e => by
    obtain ⟨h1, h2⟩ := r.bg b e
    have ne := ne_of_none h2 hp
    rw [upd_ne ne, upd_ne ne]; exact ⟨h1, h2⟩⟩
theorem Post.newO {ob F H F' H' β p o} (r : Post ob F H F' H' β) (hp : H' p = none) : Post ob F H F' (upd H' p o) β :=
  ⟨r.gr.trans (.newO hp), same_newO r.fh (r.fh.free hp), fun b e => by
    obtain ⟨h1, h2⟩ := r.bg b e
    rw [upd_ne (ne_of_none h2 hp)]; exact ⟨h1, h2⟩⟩
theorem Post.ne {ob F H F' H' β p} (r : Post ob F H F' H' β) (hp : H' p = none) : ob ≠ some p := fun e => by
  obtain ⟨_, h⟩ := r.bg p e
  rw [h] at hp; cases hp
end PD
namespace PD
open PySem PySem.Spec L2

abbrev un (X : Cx) : Frag := ⟨X.prog, X.w, X.K⟩
/-! ### functions of the text, static contexts -/
abbrev FE := Env → Bag → Option (D × Bag)
abbrev FT := Env → Bag → Option (Bool × Bag)
abbrev FA := Env → Bag → Option (List D × Bag)
structure UFn where
  name : Str
  bagged : Bool
  arity : Nat
  g : List D → Bag → Option (D × Bag)
def spU (K : Frag) (u : UFn) : Sp := fun vs H Q _ => ∃ (F : Hp) (ob : Option Addr) (ds : List D) (β β' : Bag) (d : D), Same F H ∧ BagAt ob F H β ∧
  (if u.bagged = true then ∃ b vs', ob = some b ∧ vs = .ref b :: vs' ∧ RpAll K F vs' ds else ob = none ∧ RpAll K F vs ds) ∧ vs.length = u.arity ∧ u.g ds β = some (d, β') ∧
  ∀ v F' H', Post ob F H F' H' β' → Rp K F' v d → Q v H'
structure Ctx where
  N : List Str
  names : List (Str × NameKind)
  fn : Str → Bool
  fns : List UFn
  cs : List (Str × D)
  bags : Bool := false
/-! ### the drawing lists -/
def wellOf (cell turn : Int) : Bag := if cell ≥ 1000000000000000000 then (cell - 1000000000000000000, cell % 2305843009213693951, turn) else (0, cell % 2305843009213693951, turn)
def wellsFrom : Nat → List Int → List Bag
  | _, [] => []
  | k, c :: r => wellOf c (977 * (k : Int)) :: wellsFrom (k + 1) r
def wells (n : Nat) (ns : List Int) : List Bag := wellsFrom 0 (ns.take n ++ [0])
inductive BagsAt (H H' : Hp) (p : Addr) : List Addr → List Bag → Prop
  | nil : BagsAt H H' p [] []
  | cons {b γ bs γs} : H b = none → H' b = some (bagO γ) → b ≠ p → b ∉ bs → BagsAt H H' p bs γs → BagsAt H H' p (b :: bs) (γ :: γs)
def spBags (K : PySem.W.Frag) : Sp := fun vs H Q _ => ∃ (a : Addr) (ns : List Int) (n : Nat), vs = [.ref a, .int n] ∧ SqL K H a (ns.map V.int) ∧ (∀ c ∈ ns, c.natAbs.log2 < 2097152) ∧ ns.length ≤ 63 ∧ n ≤ 63 ∧
  ∀ H' p bs, Same H H' → H p = none → H' p = some (.lst (bs.map V.ref)) → BagsAt H H' p bs (wells n ns) → Q (.ref p) H'
def BagsX (X : Cx) : Prop := ∃ (k : Nat) (f : Addr) (fd : FuncData) (ps : List Str), FnOk X.prog X.w X.K X.mg X.base CX0 k f fd ps (spBags X.K) ∧ Room k X.A ∧ X.mg "_law_bags" = some (.ref f) ∧ PySem.W.keepIn X.K (.ref f) = true ∧ Binds X.K fd ps []
def FnOkX (X : Cx) (u : UFn) : Prop := ∃ (k : Nat) (f : Addr) (fd : FuncData) (ps : List Str), FnOk X.prog X.w X.K X.mg X.base CX0 k f fd ps (spU (un X) u) ∧ Room k X.A ∧ X.mg u.name = some (.ref f) ∧
  PySem.W.keepIn X.K (.ref f) = true ∧ Binds X.K fd ps []
def ConstOk (X : Cx) (x : Str) (d : D) : Prop := ∃ (u : Value) (v : V), X.mg x = some u ∧ RelV v u ∧ ∀ F, Dq (un X) F v d
def bltNames : List Str := ["len", "range", "zip", "enumerate", "isinstance", "all", "any", "min", "max", "sum", "sorted", "list", "tuple", "int", "abs", "set", "dict", "str", "bool", "reversed"]
structure Good (Γ : Ctx) (X : Cx) : Prop where
  hN : X.N = Γ.N
  nd : X.N.Nodup
  sc : X.env.scope.names = Γ.names
  kind : X.env.scope.kind = .function
  calm : X.calm = true
  xe : X.xe = fun _ _ => False
  fn : ∀ x, Γ.fn x = true → X.fn x = true
  room : Room 0 X.A
  bl : ∀ x, x ∈ bltNames → X.mg x = none
  us : ∀ u, u ∈ Γ.fns → FnOkX X u
  cs : ∀ c, c ∈ Γ.cs → ConstOk X c.1 c.2
  bgs : Γ.bags = true → BagsX X

/-! ### readings by plain functions -/
def tD (K : Frag) (f : FE) : TE := fun σ H Q => ∃ Z F β δ d β', Rel K Z F β δ σ H ∧ f δ β = some (d, β') ∧ ∀ v F' H', Post Z.ob F H F' H' β' → Rp K F' v d → Q v H'
/-- a value that may be an owned object -/
def Bv (K : Frag) (ob : Option Addr) (F H : Hp) (v : V) (d : D) : Prop := Rp K F v d ∨ ∃ o, v = .ref o ∧ F o = none ∧ ob ≠ some o ∧ OwnAt K F H o d
def tB (K : Frag) (f : FE) : TE := fun σ H Q => ∃ Z F β δ d β', Rel K Z F β δ σ H ∧ f δ β = some (d, β') ∧ ∀ v F' H', Post Z.ob F H F' H' β' → Bv K Z.ob F' H' v d → Q v H'
def tTt (K : Frag) (f : FT) : TT := fun σ H Q => ∃ Z F β δ b β', Rel K Z F β δ σ H ∧ f δ β = some (b, β') ∧ ∀ F' H', Post Z.ob F H F' H' β' → Q b H'
def tAr (K : Frag) (f : FA) : TA := fun σ H Q => ∃ Z F β δ ds β', Rel K Z F β δ σ H ∧ f δ β = some (ds, β') ∧ ∀ vs F' H', Post Z.ob F H F' H' β' → RpAll K F' vs ds → Q vs H'
inductive BvAll (K : Frag) (ob : Option Addr) (F H : Hp) : List V → List D → Prop
  | nil : BvAll K ob F H [] []
  | cons {v d vs ds} : Bv K ob F H v d → BvAll K ob F H vs ds → BvAll K ob F H (v :: vs) (d :: ds)
def tBr (K : Frag) (f : FA) : TA := fun σ H Q => ∃ Z F β δ ds β', Rel K Z F β δ σ H ∧ f δ β = some (ds, β') ∧ ∀ vs F' H', Post Z.ob F H F' H' β' → BvAll K Z.ob F' H' vs ds → Q vs H'
/-- a new list -/
def tFr (K : Frag) (f : FA) : TE := fun σ H Q => ∃ Z F β δ ds β', Rel K Z F β δ σ H ∧ f δ β = some (ds, β') ∧ ∀ p xs F' H', Post Z.ob F H F' H' β' → H p = none → F' p = none → H' p = some (.lst xs) → DqAll K F' xs ds → Q (.ref p) H'

def DE (Γ : Ctx) (e : Expr) (f : FE) : Prop := ∀ X, Good Γ X → PE X e (tD (un X) f)
def DB (Γ : Ctx) (e : Expr) (f : FE) : Prop := ∀ X, Good Γ X → PE X e (tB (un X) f)
def DT (Γ : Ctx) (e : Expr) (f : FT) : Prop := ∀ X, Good Γ X → PT X e (tTt (un X) f)
def DW (Γ : Ctx) (e : Expr) (f : FT) : Prop := ∀ X, Good Γ X → PW X e (tTt (un X) f)
def DA (Γ : Ctx) (es : List Expr) (f : FA) : Prop := ∀ X, Good Γ X → PA X es (tAr (un X) f)
def DBA (Γ : Ctx) (es : List Expr) (f : FA) : Prop := ∀ X, Good Γ X → PA X es (tBr (un X) f)
def DF (Γ : Ctx) (e : Expr) (f : FA) : Prop := ∀ X, Good Γ X → PE X e (tFr (un X) f)

theorem PE.weaken {X : Cx} {e : Expr} {t t' : TE} (h : PE X e t) (w : ∀ σ H Q, t' σ H Q → t σ H Q) : PE X e t' := ⟨fun pins s σ H Q I q => h.run pins s σ H Q I (w σ H Q q)⟩
theorem PT.weaken {X : Cx} {e : Expr} {t t' : TT} (h : PT X e t) (w : ∀ σ H Q, t' σ H Q → t σ H Q) : PT X e t' := ⟨fun pins s σ H Q I q => h.run pins s σ H Q I (w σ H Q q)⟩
theorem PW.weaken {X : Cx} {e : Expr} {t t' : TT} (h : PW X e t) (w : ∀ σ H Q, t' σ H Q → t σ H Q) : PW X e t' := ⟨fun wh pins s σ H Q I q => h.run wh pins s σ H Q I (w σ H Q q)⟩
theorem PA.weaken {X : Cx} {es : List Expr} {t t' : TA} (h : PA X es t) (w : ∀ σ H Q, t' σ H Q → t σ H Q) : PA X es t' := ⟨fun pos pins s σ H Q I q => h.run pos pins s σ H Q I (w σ H Q q)⟩
theorem PSs.weaken {X : Cx} {st : List Stmt} {t t' : TS} (h : PSs X st t) (w : ∀ Dn σ H, t' Dn σ H → t Dn σ H) : PSs X st t' := ⟨fun pins s σ H Dn I q => h.run pins s σ H Dn I (w Dn σ H q)⟩
theorem PS.weaken {X : Cx} {st : Stmt} {t t' : TS} (h : PS X st t) (w : ∀ Dn σ H, t' Dn σ H → t Dn σ H) : PS X st t' := ⟨fun pins s σ H Dn I q => h.run pins s σ H Dn I (w Dn σ H q)⟩
theorem PI.weaken {X : Cx} {tg e : Expr} {t t' : TI} (h : PI X tg e t) (w : ∀ σ H Q, t' σ H Q → t σ H Q) : PI X tg e t' := ⟨fun pins s σ H Q I q => h.run pins s σ H Q I (w σ H Q q)⟩

theorem DE.b {Γ : Ctx} {e : Expr} {f : FE} (h : DE Γ e f) : DB Γ e f := fun X G => PE.weaken (h X G) fun σ H Q ⟨Z, F, β, δ, d, β', r, e1, q⟩ => ⟨Z, F, β, δ, d, β', r, e1, fun v F' H' p rv => q v F' H' p (.inl rv)⟩
theorem Bv.post {K : Frag} {ob : Option Addr} {F H F' H' : Hp} {β : Bag} {v : V} {d : D} (h : Bv K ob F H v d) (p : Post ob F H F' H' β) : Bv K ob F' H' v d := by
  rcases h with h | ⟨o, e, f, b, w⟩
  · exact .inl (h.mono p.gr.fs)
  · obtain ⟨u, hu⟩ := w.there
    exact .inr ⟨o, e, p.gr.nw o u f hu, b, w.move p.gr.fs fun u' e' => p.gr.kp o u' e' b⟩
theorem BvAll.post {K : Frag} {ob : Option Addr} {F H F' H' : Hp} {β : Bag} : ∀ {vs : List V} {ds : List D}, BvAll K ob F H vs ds → Post ob F H F' H' β → BvAll K ob F' H' vs ds
  | _, _, .nil, _ => .nil
  | _, _, .cons h t, p => .cons (h.post p) (t.post p)
theorem bv_int {K ob F H v i} (h : Bv K ob F H v (.int i)) : v = .int i := by
  rcases h with h | ⟨o, _, _, _, w⟩
  · exact dp_int (h.plain rfl)
  · exact w.elim
theorem bv_bl {K ob F H v i} (h : Bv K ob F H v (.bool i)) : v = .bl i := by
  rcases h with h | ⟨o, _, _, _, w⟩
  · exact dp_bl (h.plain rfl)
  · exact w.elim
theorem bv_str {K ob F H v i} (h : Bv K ob F H v (.str i)) : v = .str i := by
  rcases h with h | ⟨o, _, _, _, w⟩
  · exact dp_str (h.plain rfl)
  · exact w.elim
theorem bv_non {K ob F H v} (h : Bv K ob F H v .none) : v = .non := by
  rcases h with h | ⟨o, _, _, _, w⟩
  · exact dp_non (h.plain rfl)
  · exact w.elim
theorem bv_lst {K ob F H v ds} (h : Bv K ob F H v (.list ds)) (fh : Same F H) : ∃ a xs, v = .ref a ∧ H a = some (.lst xs) ∧ DqAll K F xs ds := by
  rcases h with h | ⟨o, e, _, _, w⟩
  · obtain ⟨a, xs, e, h1, h2⟩ := dp_lst (h.plain rfl)
    exact ⟨a, xs, e, fh _ _ h1, h2⟩
  · obtain ⟨xs, h1, h2⟩ := w
    exact ⟨o, xs, e, h1, h2⟩
theorem bv_tup {K ob F H v ds} (h : Bv K ob F H v (.tuple ds)) (fh : Same F H) : ∃ a xs, v = .ref a ∧ SqT K.K F a xs ∧ SqT K.K H a xs ∧ DqAll K F xs ds := by
  rcases h with h | ⟨o, e, _, _, w⟩
  · obtain ⟨a, xs, e, h1, h2⟩ := dp_tup (h.plain rfl)
    exact ⟨a, xs, e, h1, same_seq fh h1, h2⟩
  · exact w.elim
theorem bv_dic {K ob F H v ds} (h : Bv K ob F H v (.dict ds)) (fh : Same F H) : ∃ a o, v = .ref a ∧ H a = some o ∧ DicO K F o ds := by
  rcases h with h | ⟨o, e, _, _, w⟩
  · cases h with
    | dp h => cases h
    | dic h1 h2 => exact ⟨_, _, rfl, fh _ _ h1, h2⟩
  · obtain ⟨ob', h1, h2⟩ := w
    exact ⟨o, ob', e, h1, h2⟩
/-- readable now, any depth -/
theorem bv_dp {K ob F H v d} (h : Bv K ob F H v d) (fh : Same F H) (p : plainD d = true) : Dp K.K H v d := by
  rcases h with h | ⟨o, e, _, _, w⟩
  · exact dq_dp _ _ (dp_mono fh _ _ (h.plain p))
  · cases d with
    | list ds =>
      obtain ⟨xs, h1, h2⟩ := w
      rw [e]; exact .lst (.of h1) (dqAll_dp _ _ (dpAll_mono fh _ _ h2))
    | dict ds => cases p
    | _ => exact w.elim
end PD
namespace PD
open PySem PySem.Spec L2

theorem same_upd1 {F : Hp} {p : Addr} {o : HO} (h : F p = none) : Same F (upd F p o) := fun b u e => by rw [upd_ne (ne_of_none e h)]; exact e
theorem Post.freeze {ob F H F1 H1 β β0 p o} (p1 : Post ob F H F1 H1 β) (bg : BagAt ob F H β0) (hn : H p = none) (hf : F1 p = none) (hp : H1 p = some o) : Post ob F H (upd F1 p o) H1 β := by
  refine ⟨⟨p1.gr.fs.trans (same_upd1 hf), fun a u ha hh => ?_, p1.gr.kp, p1.gr.dm⟩, fun b u e => ?_, fun b e => ?_⟩
  · rw [upd_ne (ne_of_none hh hn)]; exact p1.gr.nw a u ha hh
  · by_cases hb : b = p
    · subst hb; rw [upd_same] at e; cases e; exact hp
    · rw [upd_ne hb] at e; exact p1.fh _ _ e
  · obtain ⟨_, h2⟩ := bg b e
    have := p1.bg b e
    rw [upd_ne (ne_of_none h2 hn)]; exact this

/-! ### shapes -/
def plainE : Expr → Bool
  | .Starred .. => false
  | .Slice .. => false
  | .Set .. => false
  | _ => true
theorem star_plain {e : Expr} (h : plainE e = true) (es : List Expr) (env : PySem.Env) : starEach (e :: es) env = (false, eval e env) :: starEach es env := by
  cases e <;> first | rfl | cases h
theorem star_any : ∀ {es : List Expr} (env : PySem.Env) (pos : Pos), es.all plainE = true → (backTo pos (starEach es env)).any (·.1) = false
  | [], _, _, _ => rfl
  | e :: es, env, pos, h => by
    rw [List.all_cons, Bool.and_eq_true] at h
    rw [star_plain h.1]
    show ((false || (backTo pos (starEach es env)).any (·.1)) = false)
    rw [star_any env pos h.2]; rfl
theorem marks_plain {e : Expr} (h : plainE e = true) (op : CmpOp) : behindInMarks op e = false := by
  cases e <;> first | rfl | cases h
theorem lastMarks_plain {b c : Expr} (h : plainE c = true) (op op' : CmpOp) : lastMarks [op, op'] [b, c] = false := by
  show behindInMarks op' c = false
  exact marks_plain h op'
theorem ix_plain {e : Expr} (h : plainE e = true) : PlainIx e := by
  intro o i
  cases e <;> first | rfl | cases h
theorem assign_plain {e : Expr} (h : plainE e = true) (es : List Expr) (env : PySem.Env) : (assignEach (e :: es) env).map (·.2) = assign e env :: (assignEach es env).map (·.2) := by
  cases e <;> first | rfl | cases h
theorem folded_plain {e : Expr} (h : plainE e = true) (env : PySem.Env) (x : Value) : foldedSetIterable e env x = pure x := by
  cases e <;> first | rfl | cases h
def leafT : Expr → Bool
  | .UnaryOp .Not _ _ => false
  | .BoolOp .. => false
  | .IfExp .. => false
  | .Compare .. => false
  | _ => true
theorem isTrue_leaf {e : Expr} (h : leafT e = true) (env : PySem.Env) (whole : Sem Value) : isTrue e env whole = (do let v ← whole; standAt e.pos; holding [v] (truthy v)) := by
  cases e <;> first | rfl | cases h | (rename_i op _ _; cases op <;> first | rfl | cases h)
def noComp : Expr → Bool
  | .ListComp .. => false
  | .SetComp .. => false
  | .DictComp .. => false
  | _ => true
theorem swaps_no {e : Expr} (h : noComp e = true) (t : Option Expr) (l : Nat) (env : PySem.Env) : swapsWith e t l env = pure false := by
  cases e <;> first | rfl | cases h

/-! ### names, constants -/
def dC (d : D) : FE := fun _ β => some (d, β)
def dVar (i : Nat) : FE := fun δ β => match δ[i]? with
  | some (.fr d) => some (d, β)
  | _ => none
def dBor (i : Nat) : FE := fun δ β => match δ[i]? with
  | some (.fr d) => some (d, β)
  | some (.ow d) => some (d, β)
  | _ => none
def visK (names : List (Str × NameKind)) (x : Str) : Bool := match names.lookup x with
  | some .local => true
  | some .cell => true
  | some .free => true
  | _ => false
theorem vis_of {names : List (Str × NameKind)} {x : Str} {sc : Scope} (h : visK names x = true) (e : sc.names = names) : Vis sc x := by
  unfold visK at h
  unfold Vis
  rw [e]
  split at h <;> first | (rename_i q; rw [q]; simp) | cases h
theorem dname_ne {x : Str} (h : (x == ("__debug__" : Str)) = false) : (x == ("__debug__" : Str)) = false := h
section
variable {Γ : Ctx} {pos : Pos}
theorem de_c {e : Expr} {d : D} {v : V} (h : ∀ X, PE X e (tC v)) (hv : ∀ K F, Dq K F v d) : DE Γ e (dC d) := fun X G => PE.weaken (h X) fun σ H Q ⟨Z, F, β, δ, d', β', r, e1, q⟩ => by
  cases e1
  exact q v F H r.postR (.dp (hv _ _))
theorem de_int {i j} : DE Γ (.Constant (.int i) j pos) (dC (.int i)) := de_c (fun _ => pe_int) fun _ _ => .int i
theorem de_bl {b j} : DE Γ (.Constant (.bool b) j pos) (dC (.bool b)) := de_c (fun _ => pe_bl) fun _ _ => .bl b
theorem de_non {j} : DE Γ (.Constant .none j pos) (dC .none) := de_c (fun _ => pe_non) fun _ _ => .non
theorem de_str {x j} : DE Γ (.Constant (.str x) j pos) (dC (.str x)) := de_c (fun _ => pe_str) fun _ _ => .str x
def okName (x : Str) : Bool := !(x == ("__debug__" : Str)) && !(x == ("__classdict__" : Str))
theorem okName1 {x : Str} (h : okName x = true) : (x == ("__debug__" : Str)) = false := by
  unfold okName at h
  rw [Bool.and_eq_true] at h
  simpa using h.1
theorem okName2 {x : Str} (h : okName x = true) : (x == ("__classdict__" : Str)) = false := by
  unfold okName at h
  rw [Bool.and_eq_true] at h
  simpa using h.2
theorem pe_slot {X : Cx} (G : Good Γ X) {i : Nat} {x : Str} (hN : Γ.N[i]? = some x) (hv : visK Γ.names x = true) (ho : okName x = true) : PE X (.Name x pos) (tVar i) :=
  pe_var (by rw [G.hN]; exact hN) (vis_of hv G.sc) (okName1 ho) (okName2 ho)
theorem de_var {i : Nat} {x : Str} (hN : Γ.N[i]? = some x) (hv : visK Γ.names x = true) (ho : okName x = true) : DE Γ (.Name x pos) (dVar i) := fun X G => PE.weaken (pe_slot G hN hv ho) fun σ H Q ⟨Z, F, β, δ, d, β', r, e1, q⟩ => by
  unfold dVar at e1
  split at e1
  · rename_i d' hs
    cases e1
    obtain ⟨v, e2, rv⟩ := r.sl i _ hs
    exact ⟨v, e2, q v F H r.postR rv⟩
  · cases e1
theorem db_var {i : Nat} {x : Str} (hN : Γ.N[i]? = some x) (hv : visK Γ.names x = true) (ho : okName x = true) : DB Γ (.Name x pos) (dBor i) := fun X G => PE.weaken (pe_slot G hN hv ho) fun σ H Q ⟨Z, F, β, δ, d, β', r, e1, q⟩ => by
  unfold dBor at e1
  split at e1
  · rename_i d' hs
    cases e1
    obtain ⟨v, e2, rv⟩ := r.sl i _ hs
    exact ⟨v, e2, q v F H r.postR (.inl rv)⟩
  · rename_i d' hs
    cases e1
    obtain ⟨o, e2, f, z, b, w⟩ := r.sl i _ hs
    exact ⟨.ref o, e2, q _ F H r.postR (.inr ⟨o, rfl, f, b, w⟩)⟩
  · cases e1
def glK (names : List (Str × NameKind)) (x : Str) : Bool := match names.lookup x with
  | some .globalImplicit => true
  | _ => false
theorem gl_of {X : Cx} (G : Good Γ X) {x : Str} (h : glK Γ.names x = true) : Gl X x := by
  unfold glK at h
  show X.env.scope.names.lookup x = some .globalImplicit
  rw [G.sc]
  split at h
  · assumption
  · cases h
theorem de_glob {x : Str} {d : D} (hg : glK Γ.names x = true) (hm : (x, d) ∈ Γ.cs) (ho : okName x = true) : DE Γ (.Name x pos) (dC d) := fun X G => by
  obtain ⟨u, v, h1, h2, h3⟩ := G.cs _ hm
  refine PE.weaken (pe_glob (gl_of G hg) h1 h2 (okName1 ho)) fun σ H Q ⟨Z, F, β, δ, d', β', r, e1, q⟩ => ?_
  cases e1
  exact q v F H r.postR (.dp (h3 _))

/-! ### operations of two -/
def dOp (f : D → D → Option D) (a b : FE) : FE := fun δ β => (a δ β).bind fun x => (b δ x.2).bind fun y => (f x.1 y.1).map fun z => (z, y.2)
structure OV (K : Frag) (r : R2) (f : D → D → Option D) : Prop where
  run : ∀ ob F H β x y dx dy d, ∀ Q : VK, Same F H → BagAt ob F H β → Bv K ob F H x dx → Bv K ob F H y dy → f dx dy = some d → (∀ v F' H', Post ob F H F' H' β → Rp K F' v d → Q v H') → r x y H Q
theorem post0 {ob F H β} (fh : Same F H) (bg : BagAt ob F H β) : Post ob F H F H β := ⟨.refl, fh, bg⟩
theorem top_of {K : Frag} {r : R2} {f : D → D → Option D} {fa fb : FE} (o : OV K r f) {σ H Q} (h : tD K (dOp f fa fb) σ H Q) : tOp r (tB K fa) (tB K fb) σ H Q := by
  obtain ⟨Z, F, β, δ, d, β', rl, e, q⟩ := h
  unfold dOp at e
  obtain ⟨⟨dx, β1⟩, e1, e⟩ := Option.bind_eq_some_iff.mp e
  obtain ⟨⟨dy, β2⟩, e2, e⟩ := Option.bind_eq_some_iff.mp e
  obtain ⟨dz, e3, e⟩ := Option.map_eq_some_iff.mp e
  cases e
  refine ⟨Z, F, β, δ, dx, β1, rl, e1, fun x F1 H1 p1 r1 => ?_⟩
  refine ⟨Z, F1, β1, δ, dy, _, rl.post p1, e2, fun y F2 H2 p2 r2 => ?_⟩
  exact o.run Z.ob F2 H2 _ x y dx dy _ Q p2.fh p2.bg (r1.post p2) r2 e3 fun v F3 H3 p3 r3 => q v F3 H3 ((p1.trans p2).trans p3) r3
theorem de_op {a b : Expr} {op : Operator} {r : Cx → R2} {f : D → D → Option D} {fa fb : FE} (ho : ∀ X, Good Γ X → OpR X (binaryOp op) (r X)) (hv : ∀ X, OV (un X) (r X) f) (ha : DB Γ a fa) (hb : DB Γ b fb) : DE Γ (.BinOp a op b pos) (dOp f fa fb) :=
  fun X G => PE.weaken (pe_op (ho X G) (ha X G) (hb X G)) fun _ _ _ h => top_of (hv X) h
theorem de_cmp {a b : Expr} {op : CmpOp} {r : Cx → R2} {f : D → D → Option D} {fa fb : FE} (ho : ∀ X, Good Γ X → OpR X (compareOp op) (r X)) (hv : ∀ X, OV (un X) (r X) f) (ha : DB Γ a fa) (hb : DB Γ b fb) (hp : plainE b = true) : DE Γ (.Compare a [op] [b] pos) (dOp f fa fb) :=
  fun X G => PE.weaken (pe_cmpR (ho X G) (ha X G) (hb X G) (marks_plain hp op)) fun _ _ _ h => top_of (hv X) h
/-- a function whose value is a truth -/
def tob (f : FE) : FT := fun δ β => match f δ β with
  | some (.bool b, β') => some (b, β')
  | _ => none
theorem ttest_of {K : Frag} {f : FE} {t : TE} (w : ∀ σ H Q, tD K f σ H Q → t σ H Q) {σ H} {Q : Bool → Hp → Prop} (h : tTt K (tob f) σ H Q) : tTest t σ H Q := by
  obtain ⟨Z, F, β, δ, b, β', rl, e, q⟩ := h
  unfold tob at e
  split at e
  · rename_i b' β'' e'
    cases e
    exact w _ _ _ ⟨Z, F, β, δ, _, β', rl, e', fun v F' H' p rv => ⟨b, dp_bl (rv.plain rfl), q F' H' p⟩⟩
  · cases e
theorem dt_cmp {a b : Expr} {op : CmpOp} {r : Cx → R2} {f : D → D → Option D} {fa fb : FE} (ho : ∀ X, Good Γ X → OpR X (compareOp op) (r X)) (hv : ∀ X, OV (un X) (r X) f) (ha : DB Γ a fa) (hb : DB Γ b fb) (hp : plainE b = true) : DT Γ (.Compare a [op] [b] pos) (tob (dOp f fa fb)) :=
  fun X G => PT.weaken (pt_cmpR (ho X G) (ha X G) (hb X G) (marks_plain hp op)) fun _ _ _ h => ttest_of (fun _ _ _ h => top_of (hv X) h) h
/-- a op b op' c -/
def dChain (f g : D → D → Option D) (a b c : FE) : FE := fun δ β => (a δ β).bind fun x => (b δ x.2).bind fun y => match f x.1 y.1 with
  | some (.bool true) => (c δ y.2).bind fun z => (g y.1 z.1).map fun w => (w, z.2)
  | some (.bool false) => some (.bool false, y.2)
  | _ => none
theorem tchain_of {K : Frag} {r r' : R2} {f g : D → D → Option D} {fa fb fc : FE} (o : OV K r f) (o' : OV K r' g) {σ H Q} (h : tD K (dChain f g fa fb fc) σ H Q) : tChain r r' (tB K fa) (tB K fb) (tB K fc) σ H Q := by
  obtain ⟨Z, F, β, δ, d, β', rl, e, q⟩ := h
  unfold dChain at e
  obtain ⟨⟨dx, β1⟩, e1, e⟩ := Option.bind_eq_some_iff.mp e
  obtain ⟨⟨dy, β2⟩, e2, e⟩ := Option.bind_eq_some_iff.mp e
  refine ⟨Z, F, β, δ, dx, β1, rl, e1, fun x F1 H1 p1 r1 => ?_⟩
  refine ⟨Z, F1, β1, δ, dy, β2, rl.post p1, e2, fun y F2 H2 p2 r2 => ?_⟩
  dsimp only at e
  split at e
  · rename_i e3
    obtain ⟨⟨dz, β3⟩, e4, e⟩ := Option.bind_eq_some_iff.mp e
    obtain ⟨dw, e5, e⟩ := Option.map_eq_some_iff.mp e
    cases e
    refine o.run Z.ob F2 H2 β2 x y dx dy _ _ p2.fh p2.bg (r1.post p2) r2 e3 fun v F3 H3 p3 r3 => ?_
    refine ⟨true, dp_bl (r3.plain rfl), ?_⟩
    rw [if_pos rfl]
    refine ⟨Z, F3, β2, δ, dz, _, ((rl.post p1).post p2).post p3, e4, fun z F4 H4 p4 r4 => ?_⟩
    exact o'.run Z.ob F4 H4 _ y z dy dz _ Q p4.fh p4.bg ((r2.post p3).post p4) r4 e5 fun v F5 H5 p5 r5 => q v F5 H5 ((((p1.trans p2).trans p3).trans p4).trans p5) r5
  · rename_i e3
    cases e
    refine o.run Z.ob F2 H2 _ x y dx dy _ _ p2.fh p2.bg (r1.post p2) r2 e3 fun v F3 H3 p3 r3 => ?_
    refine ⟨false, dp_bl (r3.plain rfl), ?_⟩
    rw [if_neg Bool.false_ne_true]
    exact q _ F3 H3 ((p1.trans p2).trans p3) (.dp (.bl false))
  · cases e
theorem de_chain {a b c : Expr} {op op' : CmpOp} {r r' : Cx → R2} {f g : D → D → Option D} {fa fb fc : FE} (ho : ∀ X, Good Γ X → OpR X (compareOp op) (r X)) (hv : ∀ X, OV (un X) (r X) f) (ho' : ∀ X, Good Γ X → OpR X (compareOp op') (r' X)) (hv' : ∀ X, OV (un X) (r' X) g)
    (ha : DB Γ a fa) (hb : DB Γ b fb) (hc : DB Γ c fc) (hp : plainE c = true) : DE Γ (.Compare a [op, op'] [b, c] pos) (dChain f g fa fb fc) :=
  fun X G => PE.weaken (pe_chain (ho X G) (ho' X G) (ha X G) (hb X G) (hc X G) (lastMarks_plain hp op op')) fun _ _ _ h => tchain_of (hv X) (hv' X) h
theorem dt_chain {a b c : Expr} {op op' : CmpOp} {r r' : Cx → R2} {f g : D → D → Option D} {fa fb fc : FE} (ho : ∀ X, Good Γ X → OpR X (compareOp op) (r X)) (hv : ∀ X, OV (un X) (r X) f) (ho' : ∀ X, Good Γ X → OpR X (compareOp op') (r' X)) (hv' : ∀ X, OV (un X) (r' X) g)
    (ha : DB Γ a fa) (hb : DB Γ b fb) (hc : DB Γ c fc) (hp : plainE c = true) : DT Γ (.Compare a [op, op'] [b, c] pos) (tob (dChain f g fa fb fc)) :=
  fun X G => PT.weaken (pt_chain (ho X G) (ho' X G) (ha X G) (hb X G) (hc X G) (lastMarks_plain hp op op')) fun _ _ _ h => ttest_of (fun _ _ _ h => tchain_of (hv X) (hv' X) h) h

/-! ### tests -/
theorem dt_val {e : Expr} {f : FE} (h : DE Γ e f) (hl : leafT e = true) : DT Γ e (tob f) := fun X G =>
  PT.weaken (pt_val (h X G) (fun w => isTrue_leaf hl X.env w)) fun _ _ _ q => ttest_of (fun _ _ _ h => h) q
def tNotF (f : FT) : FT := fun δ β => (f δ β).map fun x => (!x.1, x.2)
def tAndF (f g : FT) : FT := fun δ β => (f δ β).bind fun x => if x.1 = true then g δ x.2 else some (false, x.2)
def tOrF (f g : FT) : FT := fun δ β => (f δ β).bind fun x => if x.1 = true then some (true, x.2) else g δ x.2
theorem dt_not {e : Expr} {f : FT} (h : DT Γ e f) : DT Γ (.UnaryOp .Not e pos) (tNotF f) := fun X G =>
  PT.weaken (pt_not (h X G)) fun σ H Q ⟨Z, F, β, δ, b, β', rl, e, q⟩ => by
    obtain ⟨⟨b0, β0⟩, e1, e⟩ := Option.map_eq_some_iff.mp e
    cases e
    exact ⟨Z, F, β, δ, b0, β0, rl, e1, q⟩
theorem tand_of {K : Frag} {f g : FT} {σ H Q} (h : tTt K (tAndF f g) σ H Q) : tAnd (tTt K f) (tTt K g) σ H Q := by
  obtain ⟨Z, F, β, δ, b, β', rl, e, q⟩ := h
  obtain ⟨⟨b0, β0⟩, e1, e⟩ := Option.bind_eq_some_iff.mp e
  refine ⟨Z, F, β, δ, b0, β0, rl, e1, fun F1 H1 p1 => ?_⟩
  cases b0 with
  | true =>
    rw [if_pos rfl] at e ⊢
    exact ⟨Z, F1, β0, δ, b, β', rl.post p1, e, fun F2 H2 p2 => q F2 H2 (p1.trans p2)⟩
  | false =>
    rw [if_neg Bool.false_ne_true] at e ⊢
    cases e
    exact q F1 H1 p1
theorem tor_of {K : Frag} {f g : FT} {σ H Q} (h : tTt K (tOrF f g) σ H Q) : tOr (tTt K f) (tTt K g) σ H Q := by
  obtain ⟨Z, F, β, δ, b, β', rl, e, q⟩ := h
  obtain ⟨⟨b0, β0⟩, e1, e⟩ := Option.bind_eq_some_iff.mp e
  refine ⟨Z, F, β, δ, b0, β0, rl, e1, fun F1 H1 p1 => ?_⟩
  cases b0 with
  | true =>
    rw [if_pos rfl] at e ⊢
    cases e
    exact q F1 H1 p1
  | false =>
    rw [if_neg Bool.false_ne_true] at e ⊢
    exact ⟨Z, F1, β0, δ, b, β', rl.post p1, e, fun F2 H2 p2 => q F2 H2 (p1.trans p2)⟩
theorem dw_and1 {e : Expr} {f : FT} (h : DT Γ e f) : DW Γ (.BoolOp .And [e] pos) f := fun X G => pw_and1 (h X G)
theorem dw_or1 {e : Expr} {f : FT} (h : DT Γ e f) : DW Γ (.BoolOp .Or [e] pos) f := fun X G => pw_or1 (h X G)
theorem dw_and {a b : Expr} {r : List Expr} {f g : FT} (h : DT Γ a f) (k : DW Γ (.BoolOp .And (b :: r) pos) g) : DW Γ (.BoolOp .And (a :: b :: r) pos) (tAndF f g) := fun X G =>
  PW.weaken (pw_and (h X G) (k X G)) fun _ _ _ q => tand_of q
theorem dw_or {a b : Expr} {r : List Expr} {f g : FT} (h : DT Γ a f) (k : DW Γ (.BoolOp .Or (b :: r) pos) g) : DW Γ (.BoolOp .Or (a :: b :: r) pos) (tOrF f g) := fun X G =>
  PW.weaken (pw_or (h X G) (k X G)) fun _ _ _ q => tor_of q
theorem DW.t {e : Expr} {f : FT} (h : DW Γ e f) : DT Γ e f := fun X G => (h X G).pt
/-- and, or, not as values, where all but the last are truths -/
def dAnd (f g : FE) : FE := fun δ β => match f δ β with
  | some (.bool true, β') => g δ β'
  | some (.bool false, β') => some (.bool false, β')
  | _ => none
def dOr (f g : FE) : FE := fun δ β => match f δ β with
  | some (.bool true, β') => some (.bool true, β')
  | some (.bool false, β') => g δ β'
  | _ => none
def dNot (f : FE) : FE := fun δ β => match f δ β with
  | some (.bool b, β') => some (.bool (!b), β')
  | _ => none
theorem de_one {op} {e : Expr} {f : FE} (h : DE Γ e f) : DE Γ (.BoolOp op [e] pos) f := fun X G => pe_one (h X G)
theorem de_and {a b : Expr} {r : List Expr} {f g : FE} (h : DE Γ a f) (k : DE Γ (.BoolOp .And (b :: r) pos) g) : DE Γ (.BoolOp .And (a :: b :: r) pos) (dAnd f g) := fun X G =>
  PE.weaken (pe_and (h X G) (k X G)) fun σ H Q ⟨Z, F, β, δ, d, β', rl, e, q⟩ => by
    unfold dAnd at e
    split at e
    · rename_i β1 e1
      refine ⟨Z, F, β, δ, _, β1, rl, e1, fun v F1 H1 p1 rv => ⟨true, dp_bl (rv.plain rfl), ?_⟩⟩
      rw [if_pos rfl]
      exact ⟨Z, F1, β1, δ, d, β', rl.post p1, e, fun w F2 H2 p2 rw' => q w F2 H2 (p1.trans p2) rw'⟩
    · rename_i β1 e1
      cases e
      refine ⟨Z, F, β, δ, _, _, rl, e1, fun v F1 H1 p1 rv => ⟨false, dp_bl (rv.plain rfl), ?_⟩⟩
      rw [if_neg Bool.false_ne_true]
      exact q _ F1 H1 p1 (.dp (.bl false))
    · cases e
theorem de_or {a b : Expr} {r : List Expr} {f g : FE} (h : DE Γ a f) (k : DE Γ (.BoolOp .Or (b :: r) pos) g) : DE Γ (.BoolOp .Or (a :: b :: r) pos) (dOr f g) := fun X G =>
  PE.weaken (pe_or (h X G) (k X G)) fun σ H Q ⟨Z, F, β, δ, d, β', rl, e, q⟩ => by
    unfold dOr at e
    split at e
    · rename_i β1 e1
      cases e
      refine ⟨Z, F, β, δ, _, _, rl, e1, fun v F1 H1 p1 rv => ⟨true, dp_bl (rv.plain rfl), ?_⟩⟩
      rw [if_pos rfl]
      exact q _ F1 H1 p1 (.dp (.bl true))
    · rename_i β1 e1
      refine ⟨Z, F, β, δ, _, β1, rl, e1, fun v F1 H1 p1 rv => ⟨false, dp_bl (rv.plain rfl), ?_⟩⟩
      rw [if_neg Bool.false_ne_true]
      exact ⟨Z, F1, β1, δ, d, β', rl.post p1, e, fun w F2 H2 p2 rw' => q w F2 H2 (p1.trans p2) rw'⟩
    · cases e
theorem de_not {a : Expr} {f : FE} (h : DE Γ a f) : DE Γ (.UnaryOp .Not a pos) (dNot f) := fun X G =>
  PE.weaken (pe_not (h X G)) fun σ H Q ⟨Z, F, β, δ, d, β', rl, e, q⟩ => by
    unfold dNot at e
    split at e
    · rename_i b β1 e1
      cases e
      exact ⟨Z, F, β, δ, _, _, rl, e1, fun v F1 H1 p1 rv => ⟨b, dp_bl (rv.plain rfl), q _ F1 H1 p1 (.dp (.bl _))⟩⟩
    · cases e
def dIf (t : FT) (f g : FE) : FE := fun δ β => (t δ β).bind fun x => if x.1 = true then f δ x.2 else g δ x.2
theorem de_if {c a b : Expr} {t : FT} {f g : FE} (hc : DT Γ c t) (ha : DE Γ a f) (hb : DE Γ b g) : DE Γ (.IfExp c a b pos) (dIf t f g) := fun X G =>
  PE.weaken (pe_ifExp (hc X G) (ha X G) (hb X G)) fun σ H Q ⟨Z, F, β, δ, d, β', rl, e, q⟩ => by
    obtain ⟨⟨b0, β0⟩, e1, e⟩ := Option.bind_eq_some_iff.mp e
    refine ⟨Z, F, β, δ, b0, β0, rl, e1, fun F1 H1 p1 => ?_⟩
    dsimp only at e
    split at e
    · rename_i hb0
      rw [hb0, if_pos rfl]
      exact ⟨Z, F1, β0, δ, d, β', rl.post p1, e, fun w F2 H2 p2 rw' => q w F2 H2 (p1.trans p2) rw'⟩
    · rename_i hb0
      rw [if_neg hb0]
      exact ⟨Z, F1, β0, δ, d, β', rl.post p1, e, fun w F2 H2 p2 rw' => q w F2 H2 (p1.trans p2) rw'⟩

/-! ### argument lists, displays -/
def aNil : FA := fun _ β => some ([], β)
def aCons (f : FE) (g : FA) : FA := fun δ β => (f δ β).bind fun x => (g δ x.2).map fun y => (x.1 :: y.1, y.2)
theorem da_nil : DA Γ [] aNil := fun X G => PA.weaken pa_nil fun σ H Q ⟨Z, F, β, δ, d, β', rl, e, q⟩ => by
  cases e
  exact q [] F H rl.postR .nil
theorem dba_nil : DBA Γ [] aNil := fun X G => PA.weaken pa_nil fun σ H Q ⟨Z, F, β, δ, d, β', rl, e, q⟩ => by
  cases e
  exact q [] F H rl.postR .nil
theorem da_cons {e : Expr} {es : List Expr} {f : FE} {g : FA} (h : DE Γ e f) (k : DA Γ es g) (hp : plainE e = true) : DA Γ (e :: es) (aCons f g) := fun X G =>
  PA.weaken (pa_cons (h X G) (k X G) (star_plain hp es X.env)) fun σ H Q ⟨Z, F, β, δ, d, β', rl, e, q⟩ => by
    obtain ⟨⟨d0, β0⟩, e1, e⟩ := Option.bind_eq_some_iff.mp e
    obtain ⟨⟨ds, β1⟩, e2, e⟩ := Option.map_eq_some_iff.mp e
    cases e
    exact ⟨Z, F, β, δ, d0, β0, rl, e1, fun v F1 H1 p1 rv => ⟨Z, F1, β0, δ, ds, β1, rl.post p1, e2, fun vs F2 H2 p2 rvs => q _ F2 H2 (p1.trans p2) (.cons (rv.mono p2.gr.fs) rvs)⟩⟩
theorem dba_cons {e : Expr} {es : List Expr} {f : FE} {g : FA} (h : DB Γ e f) (k : DBA Γ es g) (hp : plainE e = true) : DBA Γ (e :: es) (aCons f g) := fun X G =>
  PA.weaken (pa_cons (h X G) (k X G) (star_plain hp es X.env)) fun σ H Q ⟨Z, F, β, δ, d, β', rl, e, q⟩ => by
    obtain ⟨⟨d0, β0⟩, e1, e⟩ := Option.bind_eq_some_iff.mp e
    obtain ⟨⟨ds, β1⟩, e2, e⟩ := Option.map_eq_some_iff.mp e
    cases e
    exact ⟨Z, F, β, δ, d0, β0, rl, e1, fun v F1 H1 p1 rv => ⟨Z, F1, β0, δ, ds, β1, rl.post p1, e2, fun vs F2 H2 p2 rvs => q _ F2 H2 (p1.trans p2) (.cons (rv.post p2) rvs)⟩⟩
/-- a display of few, plain things -/
def okLen (ds : List D) : Bool := ds.all plainD && decide (ds.length ≤ 16777216)
def dTup (g : FA) : FE := fun δ β => (g δ β).bind fun x => if okLen x.1 = true then some (.tuple x.1, x.2) else none
theorem sz_ok {n : Nat} (h : n ≤ 16777216) : n ≤ sizeLine := by rw [sizeLine_eq]; exact h
theorem okLen_of {ds : List D} (h : okLen ds = true) : ds.all plainD = true ∧ ds.length ≤ sizeLine := by
  unfold okLen at h
  rw [Bool.and_eq_true] at h
  exact ⟨h.1, sz_ok (of_decide_eq_true h.2)⟩
theorem de_tup {es : List Expr} {k : Nat} {g : FA} (h : DA Γ es g) : DE Γ (.Tuple es k pos) (dTup g) := fun X G =>
  PE.weaken (pe_tup (h X G)) fun σ H Q ⟨Z, F, β, δ, d, β', rl, e, q⟩ => by
    obtain ⟨⟨ds, β0⟩, e1, e⟩ := Option.bind_eq_some_iff.mp e
    dsimp only at e
    split at e
    · rename_i hk
      obtain ⟨hp, hl⟩ := okLen_of hk
      cases e
      refine ⟨Z, F, β, δ, ds, β', rl, e1, fun vs F1 H1 p1 rvs => ⟨by rw [rvs.len]; exact hl, fun p hn => ?_⟩⟩
      exact q _ _ _ (p1.new hn) (.dp (.tup (.of upd_same) (dpAll_mono (fun b u e => by rw [upd_ne (ne_of_none (p1.fh b u e) hn)]; exact e) _ _ (rvs.plain hp))))
    · cases e
/-- a new list -/
def aOk (g : FA) : FA := fun δ β => (g δ β).bind fun x => if okLen x.1 = true then some x else none
theorem df_lst {es : List Expr} {g : FA} (h : DA Γ es g) : DF Γ (.List es pos) (aOk g) := fun X G =>
  PE.weaken (pe_lst (h X G)) fun σ H Q ⟨Z, F, β, δ, d, β', rl, e, q⟩ => by
    obtain ⟨⟨ds, β0⟩, e1, e⟩ := Option.bind_eq_some_iff.mp e
    dsimp only at e
    split at e
    · rename_i hk
      obtain ⟨hp, hl⟩ := okLen_of hk
      cases e
      refine ⟨Z, F, β, δ, _, _, rl, e1, fun vs F1 H1 p1 rvs => ⟨by rw [rvs.len]; exact hl, fun p hn => ?_⟩⟩
      have hn0 : H p = none := by
        cases hq : H p with
        | none => rfl
        | some o => obtain ⟨o', e'⟩ := p1.gr.dm p o hq; rw [e'] at hn; cases hn
      exact q p vs F1 _ (p1.newO hn) hn0 (p1.fh.free hn) upd_same (rvs.plain hp)
    · cases e
def dFrz (g : FA) : FE := fun δ β => (g δ β).map fun x => (.list x.1, x.2)
/-- a new list, kept for good -/
theorem DF.e {e : Expr} {g : FA} (h : DF Γ e g) : DE Γ e (dFrz g) := fun X G => PE.weaken (h X G) fun σ H Q ⟨Z, F, β, δ, d, β', rl, e, q⟩ => by
  obtain ⟨⟨ds, β0⟩, e1, e⟩ := Option.map_eq_some_iff.mp e
  cases e
  refine ⟨Z, F, β, δ, ds, _, rl, e1, fun p xs F1 H1 p1 hn hf hp hx => ?_⟩
  exact q (.ref p) _ H1 (p1.freeze rl.bg hn hf hp) (.dp (.lst upd_same (dpAll_mono (same_upd1 hf) _ _ hx)))
end
end PD
namespace PD
open PySem PySem.Spec L2
section
variable {K : Frag} {Γ : Ctx} {pos : Pos}
def orF (f g : D → D → Option D) : D → D → Option D := fun x y => match f x y with
  | some d => some d
  | none => g x y
theorem OV.or {r r' : R2} {f g : D → D → Option D} (h : OV K r f) (k : OV K r' g) : OV K (fun x y H Q => r x y H Q ∨ r' x y H Q) (orF f g) := ⟨fun ob F H β x y dx dy d Q fh bg hx hy e q => by
  unfold orF at e
  split at e
  · rename_i e1
    exact .inl (h.run ob F H β x y dx dy d Q fh bg hx hy (e1.trans e) q)
  · exact .inr (k.run ob F H β x y dx dy d Q fh bg hx hy e q)⟩
/-- ints -/
def fI (C : Int → Int → Bool) (g : Int → Int → D) : D → D → Option D := fun x y => match x, y with
  | .int i, .int j => if C i j = true then some (g i j) else none
  | _, _ => none
theorem ov_I {Cp : Int → Int → Prop} {gv : Int → Int → V} {C : Int → Int → Bool} {g : Int → Int → D} (hC : ∀ i j, C i j = true → Cp i j) (hg : ∀ F i j, Dq K F (gv i j) (g i j)) : OV K (rI Cp gv) (fI C g) := ⟨fun ob F H β x y dx dy d Q fh bg hx hy e q => by
  unfold fI at e
  split at e
  · rename_i i j
    split at e
    · rename_i hc
      cases e
      exact ⟨i, j, bv_int hx, bv_int hy, hC i j hc, q _ F H (post0 fh bg) (.dp (hg _ _ _))⟩
    · cases e
  · cases e⟩
def fI0 (g : Int → Int → D) : D → D → Option D := fun x y => match x, y with
  | .int i, .int j => some (g i j)
  | _, _ => none
theorem ov_I0 {gv : Int → Int → V} {g : Int → Int → D} (hg : ∀ F i j, Dq K F (gv i j) (g i j)) : OV K (rI0 gv) (fI0 g) := ⟨fun ob F H β x y dx dy d Q fh bg hx hy e q => by
  unfold fI0 at e
  split at e
  · rename_i i j
    cases e
    exact ⟨i, j, bv_int hx, bv_int hy, q _ F H (post0 fh bg) (.dp (hg _ _ _))⟩
  · cases e⟩
/-- + -/
def fCatT : D → D → Option D := fun x y => match x, y with
  | .tuple a, .tuple b => if a.length + b.length ≤ 16777216 then some (.tuple (a ++ b)) else none
  | _, _ => none
theorem dqAll_nil {F : Hp} {ds : List D} (h : DqAll K F [] ds) : ds = [] := by cases h; rfl
theorem ov_catT : OV K (rCatA K.K) fCatT := ⟨fun ob F H β x y dx dy d Q fh bg hx hy e q => by
  unfold fCatT at e
  split at e
  · split at e
    · rename_i a b hl
      cases e
      obtain ⟨p, xs, rfl, h1, h1', hx'⟩ := bv_tup hx fh
      obtain ⟨p2, ys, rfl, h2, h2', hy'⟩ := bv_tup hy fh
      have l1 := hx'.len
      have l2 := hy'.len
      refine ⟨p, p2, xs, ys, rfl, rfl, h1', h2', sz_ok (by omega), fun e0 => ?_, fun _ e0 => ?_, fun _ _ pn hn => ?_⟩
      · subst e0
        have := dqAll_nil hx'
        subst this
        exact q _ F H (post0 fh bg) (.dp (.tup h2 hy'))
      · subst e0
        have := dqAll_nil hy'
        subst this
        rw [List.append_nil] at q
        exact q _ F H (post0 fh bg) (.dp (.tup h1 hx'))
      · have sm : Same F (upd F pn (.tup (xs ++ ys))) := same_upd1 (fh.free hn)
        exact q _ _ _ ((post0 fh bg).new hn) (.dp (.tup (.of upd_same) ((dpAll_mono sm _ _ hx').append (dpAll_mono sm _ _ hy'))))
    · cases e
  · cases e⟩
def fCatL : D → D → Option D := fun x y => match x, y with
  | .list a, .list b => if a.length + b.length ≤ 16777216 then some (.list (a ++ b)) else none
  | _, _ => none
theorem ov_catL : OV K rCat fCatL := ⟨fun ob F H β x y dx dy d Q fh bg hx hy e q => by
  unfold fCatL at e
  split at e
  · split at e
    · rename_i a b hl
      cases e
      obtain ⟨p, xs, rfl, h1, hx'⟩ := bv_lst hx fh
      obtain ⟨p2, ys, rfl, h2, hy'⟩ := bv_lst hy fh
      have l1 := hx'.len
      have l2 := hy'.len
      refine ⟨p, p2, xs, ys, rfl, rfl, h1, h2, sz_ok (by omega), fun pn hn => ?_⟩
      have sm : Same F (upd F pn (.lst (xs ++ ys))) := same_upd1 (fh.free hn)
      exact q _ _ _ ((post0 fh bg).new hn) (.dp (.lst upd_same ((dpAll_mono sm _ _ hx').append (dpAll_mono sm _ _ hy'))))
    · cases e
  · cases e⟩
def fCatS : D → D → Option D := fun x y => match x, y with
  | .str a, .str b => if a.length + b.length ≤ 16777216 then some (.str (a ++ b)) else none
  | _, _ => none
theorem ov_catS : OV K (fun x y H Q => ∃ i j, x = .str i ∧ y = .str j ∧ i.length + j.length ≤ sizeLine ∧ Q (.str (i ++ j)) H) fCatS := ⟨fun ob F H β x y dx dy d Q fh bg hx hy e q => by
  unfold fCatS at e
  split at e
  · split at e
    · rename_i a b hl
      cases e
      exact ⟨a, b, bv_str hx, bv_str hy, sz_ok hl, q _ F H (post0 fh bg) (.dp (.str _))⟩
    · cases e
  · cases e⟩
def fAdd : D → D → Option D := orF (fI0 fun i j => .int (i + j)) (orF fCatT (orF fCatL fCatS))
def fSub : D → D → Option D := fI0 fun i j => .int (i - j)
def okMul (i j : Int) : Bool := decide (i.natAbs.log2 + j.natAbs.log2 < 1000000)
def fRepT : D → D → Option D := fun x y => match x, y with
  | .tuple a, .int k => if a ≠ [] ∧ 2 ≤ k ∧ k ≤ 1000 ∧ a.length ≤ 1000 then some (.tuple (List.replicate k.toNat a).flatten) else none
  | _, _ => none
theorem DqAll.rep {F : Hp} {xs : List V} {ds : List D} (h : DqAll K F xs ds) : ∀ n : Nat, DqAll K F (List.replicate n xs).flatten (List.replicate n ds).flatten
  | 0 => by simp; exact .nil
  | n + 1 => by
    rw [List.replicate_succ, List.replicate_succ, List.flatten_cons, List.flatten_cons]
    exact h.append (DqAll.rep h n)
theorem ov_repT : OV K (rRepT K.K) fRepT := ⟨fun ob F H β x y dx dy d Q fh bg hx hy e q => by
  unfold fRepT at e
  split at e
  · split at e
    · rename_i a k hl
      cases e
      obtain ⟨p, xs, rfl, h1, h1', hx'⟩ := bv_tup hx fh
      have l1 := hx'.len
      refine ⟨p, k, xs, rfl, bv_int hy, h1', fun e0 => ?_, hl.2.1, hl.2.2.1, by omega, fun pn hn => ?_⟩
      · subst e0
        exact hl.1 (dqAll_nil hx')
      · have sm : Same F (upd F pn (.tup (List.replicate k.toNat xs).flatten)) := same_upd1 (fh.free hn)
        exact q _ _ _ ((post0 fh bg).new hn) (.dp (.tup (.of upd_same) (DqAll.rep (dpAll_mono sm _ _ hx') _)))
    · cases e
  · cases e⟩
def fRepL : D → D → Option D := fun x y => match x, y with
  | .list a, .int k => if -(2 ^ 63) ≤ k ∧ k < 2 ^ 63 ∧ a.length * k.toNat ≤ 16777216 then some (.list (List.replicate k.toNat a).flatten) else none
  | _, _ => none
theorem ov_repL : OV K rRep fRepL := ⟨fun ob F H β x y dx dy d Q fh bg hx hy e q => by
  unfold fRepL at e
  split at e
  · split at e
    · rename_i a k hl
      cases e
      obtain ⟨p, xs, rfl, h1, hx'⟩ := bv_lst hx fh
      have l1 := hx'.len
      refine ⟨p, k, xs, rfl, bv_int hy, h1, hl.1, hl.2.1, sz_ok (by rw [l1]; exact hl.2.2), fun pn hn => ?_⟩
      have sm : Same F (upd F pn (.lst (List.replicate k.toNat xs).flatten)) := same_upd1 (fh.free hn)
      exact q _ _ _ ((post0 fh bg).new hn) (.dp (.lst upd_same (DqAll.rep (dpAll_mono sm _ _ hx') _)))
    · cases e
  · cases e⟩
def fMul : D → D → Option D := orF (fI okMul fun i j => .int (i * j)) (orF fRepT fRepL)
def okDiv (i j : Int) : Bool := decide (0 < j) && decide (j.natAbs.log2 < 9000)
def fDiv : D → D → Option D := fI okDiv fun i j => .int (i / j)
def fMod : D → D → Option D := fI (fun _ j => decide (0 < j)) fun i j => .int (i % j)
def okPow (i j : Int) : Bool := decide (0 ≤ j) && decide (j ≤ 1000000) && decide (i.natAbs < 2 ^ 64)
def fPow : D → D → Option D := fI okPow fun i j => .int (i ^ j.toNat)
def fAnd : D → D → Option D := fI0 fun i j => .int (Builtin.bitAnd i j)
theorem de_add {a b : Expr} {f g : FE} (ha : DB Γ a f) (hb : DB Γ b g) : DE Γ (.BinOp a .Add b pos) (dOp fAdd f g) :=
  de_op (fun _ _ => .or op_add (.or op_catA (.or op_cat op_add_str))) (fun X => (ov_I0 fun _ _ _ => .int _).or (ov_catT.or (ov_catL.or ov_catS))) ha hb
theorem de_sub {a b : Expr} {f g : FE} (ha : DB Γ a f) (hb : DB Γ b g) : DE Γ (.BinOp a .Sub b pos) (dOp fSub f g) := de_op (fun _ _ => op_sub) (fun X => ov_I0 fun _ _ _ => .int _) ha hb
theorem de_mul {a b : Expr} {f g : FE} (ha : DB Γ a f) (hb : DB Γ b g) : DE Γ (.BinOp a .Mult b pos) (dOp fMul f g) :=
  de_op (fun _ _ => .or op_mulW (.or op_repT op_rep)) (fun X => (ov_I (Cp := CMulW) (fun i j h => show i.natAbs.log2 + j.natAbs.log2 < 1000000 from of_decide_eq_true h) fun _ _ _ => .int _).or (ov_repT.or ov_repL)) ha hb
theorem de_div {a b : Expr} {f g : FE} (ha : DB Γ a f) (hb : DB Γ b g) : DE Γ (.BinOp a .FloorDiv b pos) (dOp fDiv f g) :=
  de_op (fun _ _ => op_fdivW) (fun X => ov_I (fun i j h => by unfold okDiv at h; rw [Bool.and_eq_true] at h; exact ⟨of_decide_eq_true h.1, of_decide_eq_true h.2⟩) fun _ _ _ => .int _) ha hb
theorem de_mod {a b : Expr} {f g : FE} (ha : DB Γ a f) (hb : DB Γ b g) : DE Γ (.BinOp a .Mod b pos) (dOp fMod f g) :=
  de_op (fun _ _ => op_mod) (fun X => ov_I (fun i j h => of_decide_eq_true h) fun _ _ _ => .int _) ha hb
theorem de_pow {a b : Expr} {f g : FE} (ha : DB Γ a f) (hb : DB Γ b g) : DE Γ (.BinOp a .Pow b pos) (dOp fPow f g) :=
  de_op (fun _ _ => op_pow) (fun X => ov_I (fun i j h => by unfold okPow at h; rw [Bool.and_eq_true, Bool.and_eq_true] at h; exact ⟨of_decide_eq_true h.1.1, of_decide_eq_true h.1.2, of_decide_eq_true h.2⟩) fun _ _ _ => .int _) ha hb
theorem de_band {a b : Expr} {f g : FE} (ha : DB Γ a f) (hb : DB Γ b g) : DE Γ (.BinOp a .BitAnd b pos) (dOp fAnd f g) := de_op (fun _ _ => op_and) (fun X => ov_I0 fun _ _ _ => .int _) ha hb
def dNeg (f : FE) : FE := fun δ β => match f δ β with
  | some (.int i, β') => some (.int (-i), β')
  | _ => none
theorem de_neg {a : Expr} {f : FE} (ha : DE Γ a f) : DE Γ (.UnaryOp .USub a pos) (dNeg f) := fun X G => PE.weaken (pe_un un_neg (ha X G)) fun σ H Q ⟨Z, F, β, δ, d, β', rl, e, q⟩ => by
  unfold dNeg at e
  split at e
  · rename_i i β1 e1
    cases e
    exact ⟨Z, F, β, δ, _, _, rl, e1, fun v F1 H1 p1 rv => ⟨i, dp_int (rv.plain rfl), q _ F1 H1 p1 (.dp (.int _))⟩⟩
  · cases e

/-! ### == and != -/
def okEq (x y : D) : Bool := SeqAt.shaped x && SeqAt.shaped y
def fEq : D → D → Option D := fun x y => if okEq x y = true then some (.bool (PyData.eqv x y)) else none
def fNe : D → D → Option D := fun x y => if okEq x y = true then some (.bool (!PyData.eqv x y)) else none
theorem plain_shaped {d : D} (h : SeqAt.shaped d = true) : plainD d = true := by
  cases d with
  | dict _ => cases SeqAt.canLay_of_shaped h
  | _ => rfl
theorem ov_eq : OV K (rEqD K.K) fEq := ⟨fun ob F H β x y dx dy d Q fh bg hx hy e q => by
  unfold fEq at e
  split at e
  · rename_i hk
    unfold okEq at hk
    rw [Bool.and_eq_true] at hk
    cases e
    exact ⟨dx, dy, bv_dp hx fh (plain_shaped hk.1), bv_dp hy fh (plain_shaped hk.2), hk.1, hk.2, q _ F H (post0 fh bg) (.dp (.bl _))⟩
  · cases e⟩
theorem ov_ne : OV K (rNeD K.K) fNe := ⟨fun ob F H β x y dx dy d Q fh bg hx hy e q => by
  unfold fNe at e
  split at e
  · rename_i hk
    unfold okEq at hk
    rw [Bool.and_eq_true] at hk
    cases e
    exact ⟨dx, dy, bv_dp hx fh (plain_shaped hk.1), bv_dp hy fh (plain_shaped hk.2), hk.1, hk.2, q _ F H (post0 fh bg) (.dp (.bl _))⟩
  · cases e⟩
/-! ### is, is not -/
def isN : D → Bool
  | .none => true
  | _ => false
theorem bv_isN {ob F H x d} (h : Bv K ob F H x d) : decide (x = V.non) = isN d := by
  rcases h with h | ⟨o, rfl, _, _, w⟩
  · cases h with
    | dp h => cases h <;> rfl
    | dic _ _ => rfl
  · cases d <;> first | rfl | exact w.elim
def fIs : D → D → Option D := fun x y => match x, y with
  | x, .none => some (.bool (isN x))
  | .bool a, .bool b => some (.bool (decide (a = b)))
  | _, _ => none
def fIsN : D → D → Option D := fun x y => match x, y with
  | x, .none => some (.bool (!isN x))
  | .bool a, .bool b => some (.bool (!decide (a = b)))
  | _, _ => none
theorem ov_is : OV K (fun x y H Q => (y = .non ∧ Q (.bl (decide (x = .non))) H) ∨ ∃ a b, x = .bl a ∧ y = .bl b ∧ Q (.bl (decide (a = b))) H) fIs := ⟨fun ob F H β x y dx dy d Q fh bg hx hy e q => by
  unfold fIs at e
  split at e
  · cases e
    refine .inl ⟨bv_non hy, ?_⟩
    rw [bv_isN hx]
    exact q _ F H (post0 fh bg) (.dp (.bl _))
  · cases e
    exact .inr ⟨_, _, bv_bl hx, bv_bl hy, q _ F H (post0 fh bg) (.dp (.bl _))⟩
  · cases e⟩
theorem ov_isN : OV K (fun x y H Q => (y = .non ∧ Q (.bl (!decide (x = .non))) H) ∨ ∃ a b, x = .bl a ∧ y = .bl b ∧ Q (.bl (!decide (a = b))) H) fIsN := ⟨fun ob F H β x y dx dy d Q fh bg hx hy e q => by
  unfold fIsN at e
  split at e
  · cases e
    refine .inl ⟨bv_non hy, ?_⟩
    rw [bv_isN hx]
    exact q _ F H (post0 fh bg) (.dp (.bl _))
  · cases e
    exact .inr ⟨_, _, bv_bl hx, bv_bl hy, q _ F H (post0 fh bg) (.dp (.bl _))⟩
  · cases e⟩
/-! ### in, not in: lists of any data, tuples of flat things -/
def flatD : D → Bool
  | .none => true
  | .bool _ => true
  | .int _ => true
  | .str _ => true
  | _ => false
theorem flat_V {F : Hp} {v : V} {d : D} (h : Dq K F v d) (p : flatD d = true) : flatV v = true := by cases h <;> first | rfl | cases p
theorem flat_all {F : Hp} : ∀ {ds : List D} {vs : List V}, DqAll K F vs ds → ds.all flatD = true → vs.all flatV = true
  | [], _, h, _ => by cases h; rfl
  | d :: ds, _, h, p => by
    cases h with
    | cons h1 h2 =>
      rw [List.all_cons, Bool.and_eq_true] at p ⊢
      exact ⟨flat_V h1 p.1, flat_all h2 p.2⟩
theorem str_beq_comm (a b : Str) : (a == b) = (b == a) := by
  by_cases h : a = b
  · subst h; rfl
  · rw [beq_eq_false_iff_ne.mpr h, beq_eq_false_iff_ne.mpr (Ne.symm h)]
theorem eqV_eqv {F F' : Hp} {v w : V} {d e : D} (h : Dq K F v d) (k : Dq K F' w e) (p : flatD d = true) (p' : flatD e = true) : eqV v w = PyData.eqv d e := by
  cases h <;> cases k <;> first | rfl | (exact absurd p Bool.false_ne_true) | (exact absurd p' Bool.false_ne_true)
theorem inV_any {F F' : Hp} {x : V} {d : D} (h : Dq K F' x d) (p : flatD d = true) : ∀ {ds : List D} {vs : List V}, DqAll K F vs ds → ds.all flatD = true → inV x vs = ds.any fun z => PyData.eqv z d
  | [], _, k, _ => by cases k; rfl
  | e :: ds, _, k, q => by
    cases k with
    | cons h1 h2 =>
      rw [List.all_cons, Bool.and_eq_true] at q
      have ih := inV_any h p h2 q.2
      unfold inV at ih ⊢
      rw [List.any_cons, List.any_cons, ih, eqV_eqv h1 h q.1 p]
def fInL : D → D → Option D := fun x y => match y with
  | .list ds => if okEq x (.list ds) = true then some (.bool (ds.any fun z => PyData.eqv z x)) else none
  | .tuple ds => if flatD x && ds.all flatD then some (.bool (ds.any fun z => PyData.eqv z x)) else none
  | _ => none
def fNinL : D → D → Option D := fun x y => match y with
  | .list ds => if okEq x (.list ds) = true then some (.bool (!ds.any fun z => PyData.eqv z x)) else none
  | .tuple ds => if flatD x && ds.all flatD then some (.bool (!ds.any fun z => PyData.eqv z x)) else none
  | _ => none
theorem bv_flat {ob F H x d} (h : Bv K ob F H x d) (p : flatD d = true) : Dq K F x d := by
  rcases h with h | ⟨o, _, _, _, w⟩
  · cases h with
    | dp h => exact h
    | dic _ _ => cases p
  · cases d <;> first | exact w.elim | cases p
theorem ov_inL : OV K (fun x y H Q => rInD K.K x y H Q ∨ rIn K.K false x y H Q) fInL := ⟨fun ob F H β x y dx dy d Q fh bg hx hy e q => by
  unfold fInL at e
  split at e
  · rename_i ds
    split at e
    · rename_i hk
      unfold okEq at hk
      rw [Bool.and_eq_true] at hk
      cases e
      exact .inl ⟨dx, ds, bv_dp hx fh (plain_shaped hk.1), bv_dp hy fh rfl, hk.1, hk.2, q _ F H (post0 fh bg) (.dp (.bl _))⟩
    · cases e
  · rename_i ds
    split at e
    · rename_i hk
      rw [Bool.and_eq_true] at hk
      cases e
      obtain ⟨p, xs, rfl, h1, h1', hy'⟩ := bv_tup hy fh
      have hx' := bv_flat hx hk.1
      refine .inr ⟨p, xs, rfl, .inr h1', flat_V hx' hk.1, flat_all hy' hk.2, ?_⟩
      rw [if_neg Bool.false_ne_true, inV_any hx' hk.1 hy' hk.2]
      exact q _ F H (post0 fh bg) (.dp (.bl _))
    · cases e
  · cases e⟩
theorem ov_ninL : OV K (fun x y H Q => rNotInD K.K x y H Q ∨ rIn K.K true x y H Q) fNinL := ⟨fun ob F H β x y dx dy d Q fh bg hx hy e q => by
  unfold fNinL at e
  split at e
  · rename_i ds
    split at e
    · rename_i hk
      unfold okEq at hk
      rw [Bool.and_eq_true] at hk
      cases e
      exact .inl ⟨dx, ds, bv_dp hx fh (plain_shaped hk.1), bv_dp hy fh rfl, hk.1, hk.2, q _ F H (post0 fh bg) (.dp (.bl _))⟩
    · cases e
  · rename_i ds
    split at e
    · rename_i hk
      rw [Bool.and_eq_true] at hk
      cases e
      obtain ⟨p, xs, rfl, h1, h1', hy'⟩ := bv_tup hy fh
      have hx' := bv_flat hx hk.1
      refine .inr ⟨p, xs, rfl, .inr h1', flat_V hx' hk.1, flat_all hy' hk.2, ?_⟩
      rw [if_pos rfl, inV_any hx' hk.1 hy' hk.2]
      exact q _ F H (post0 fh bg) (.dp (.bl _))
    · cases e
  · cases e⟩
theorem Good.u {X : Cx} (G : Good Γ X) : X.A.units + 200 < cLine := by have := G.room.un; omega
end
end PD
namespace PD
open PySem PySem.Spec L2
section
variable {K : Frag} {Γ : Ctx} {pos : Pos}
/-! ### xs[i] -/
def fIxS : D → D → Option D := fun x y => match x, y with
  | .list ds, .int i => (atI ds i).bind fun d => if plainD d = true then some d else none
  | .tuple ds, .int i => (atI ds i).bind fun d => if plainD d = true then some d else none
  | .str z, .int i => if z.length ≤ 16777216 then (atI z.cps.toList i).map fun c => .str ⟨#[c]⟩ else none
  | _, _ => none
theorem atI_dq {F : Hp} {xs : List V} {ds : List D} {i : Int} {d : D} (h : DqAll K F xs ds) (e : atI ds i = some d) : ∃ v, atI xs i = some v ∧ Dq K F v d := by
  unfold atI at e ⊢
  rw [h.len]
  obtain ⟨j, e1, e2⟩ := Option.bind_eq_some_iff.mp e
  obtain ⟨v, e3, hv⟩ := h.get e2
  exact ⟨v, by rw [e1]; exact e3, hv⟩
theorem ov_ix : OV K (rIx K.K) fIxS := ⟨fun ob F H β x y dx dy d Q fh bg hx hy e q => by
  unfold fIxS at e
  split at e
  · rename_i ds i
    obtain ⟨d0, e1, e⟩ := Option.bind_eq_some_iff.mp e
    split at e
    · cases e
      obtain ⟨a, xs, rfl, h1, h2⟩ := bv_lst hx fh
      obtain ⟨v, e3, hv⟩ := atI_dq h2 e1
      exact .inl ⟨a, xs, i, v, rfl, bv_int hy, .of h1, e3, q v F H (post0 fh bg) (.dp hv)⟩
    · cases e
  · rename_i ds i
    obtain ⟨d0, e1, e⟩ := Option.bind_eq_some_iff.mp e
    split at e
    · cases e
      obtain ⟨a, xs, rfl, h0, h1, h2⟩ := bv_tup hx fh
      obtain ⟨v, e3, hv⟩ := atI_dq h2 e1
      exact .inr (.inl ⟨a, xs, i, v, rfl, bv_int hy, h1, e3, q v F H (post0 fh bg) (.dp hv)⟩)
    · cases e
  · rename_i z i
    split at e
    · rename_i hz
      obtain ⟨c, e1, e⟩ := Option.map_eq_some_iff.mp e
      cases e
      exact .inr (.inr ⟨z, i, c, bv_str hx, bv_int hy, sz_ok hz, e1, q _ F H (post0 fh bg) (.dp (.str _))⟩)
    · cases e
  · cases e⟩
theorem de_ix0 {a b : Expr} {r : Cx → R2} {f : D → D → Option D} {fa fb : FE} (ho : ∀ X, Good Γ X → IxR X (r X)) (hv : ∀ X, OV (un X) (r X) f) (ha : DB Γ a fa) (hb : DB Γ b fb) (hp : plainE b = true) : DE Γ (.Subscript a b pos) (dOp f fa fb) :=
  fun X G => PE.weaken (pe_ix (ho X G) (ha X G) (hb X G) (ix_plain hp)) fun _ _ _ h => top_of (hv X) h

/-! ### slices -/
abbrev FO := Env → Bag → Option (Option Int × Bag)
def tOr1 (K : Frag) (f : FO) : TO := fun σ H Q => ∃ Z F β δ o β', Rel K Z F β δ σ H ∧ f δ β = some (o, β') ∧ ∀ F' H', Post Z.ob F H F' H' β' → Q o H'
def DO (Γ : Ctx) (e : Option Expr) (f : FO) : Prop := ∀ X, Good Γ X → PO X e (tOr1 (un X) f)
theorem PO.weaken {X : Cx} {e : Option Expr} {t t' : TO} (h : PO X e t) (w : ∀ σ H Q, t' σ H Q → t σ H Q) : PO X e t' := ⟨fun pins s σ H Q I q => h.run pins s σ H Q I (w σ H Q q)⟩
def oNo : FO := fun _ β => some (none, β)
def oSome (f : FE) : FO := fun δ β => match f δ β with
  | some (.int i, β') => some (some i, β')
  | _ => none
theorem do_none : DO Γ none oNo := fun X G => PO.weaken po_none fun σ H Q ⟨Z, F, β, δ, o, β', rl, e, q⟩ => by
  cases e
  exact q F H rl.postR
theorem do_some {e : Expr} {f : FE} (h : DE Γ e f) : DO Γ (some e) (oSome f) := fun X G => PO.weaken (po_some (h X G)) fun σ H Q ⟨Z, F, β, δ, o, β', rl, e, q⟩ => by
  unfold oSome at e
  split at e
  · rename_i i β1 e1
    cases e
    exact ⟨Z, F, β, δ, _, _, rl, e1, fun v F1 H1 p1 rv => ⟨i, dp_int (rv.plain rfl), q F1 H1 p1⟩⟩
  · cases e
def cut {α : Type} (xs : List α) (lo hi : Option Int) : List α := (xs.drop (HT.sIx xs.length 0 lo)).take (HT.sIx xs.length xs.length hi - HT.sIx xs.length 0 lo)
theorem cut_dq {F : Hp} {xs : List V} {ds : List D} (h : DqAll K F xs ds) (lo hi : Option Int) : DqAll K F (cutV xs lo hi) (cut ds lo hi) := by
  unfold cutV cut
  rw [h.len]
  exact (h.drop _).take _
theorem cut_whole {α : Type} {xs : List α} {lo hi : Option Int} (h : HT.sIx xs.length 0 lo = 0 ∧ HT.sIx xs.length xs.length hi = xs.length) : cut xs lo hi = xs := by
  unfold cut
  rw [h.1, h.2, List.drop_zero, Nat.sub_zero, List.take_length]
def fSl (x : D) (lo hi : Option Int) : Option D := match x with
  | .list ds => some (.list (cut ds lo hi))
  | .tuple ds => some (.tuple (cut ds lo hi))
  | _ => none
def dSl (f : FE) (lo hi : FO) : FE := fun δ β => (f δ β).bind fun x => (lo δ x.2).bind fun l => (hi δ l.2).bind fun h => (fSl x.1 l.1 h.1).map fun d => (d, h.2)
theorem de_slice {e : Expr} {lo hi : Option Expr} {p2 : Pos} {f : FE} {fl fh : FO} (h : DB Γ e f) (hl : DO Γ lo fl) (hh : DO Γ hi fh) : DE Γ (.Subscript e (.Slice lo hi none p2) pos) (dSl f fl fh) := fun X G =>
  PE.weaken (pe_slice (sl_list.or sl_tupA) (h X G) (hl X G) (hh X G)) fun σ H Q ⟨Z, F, β, δ, d, β', rl, e, q⟩ => by
    obtain ⟨⟨dx, β1⟩, e1, e⟩ := Option.bind_eq_some_iff.mp e
    obtain ⟨⟨l, β2⟩, e2, e⟩ := Option.bind_eq_some_iff.mp e
    obtain ⟨⟨u, β3⟩, e3, e⟩ := Option.bind_eq_some_iff.mp e
    obtain ⟨dz, e4, e⟩ := Option.map_eq_some_iff.mp e
    cases e
    refine ⟨Z, F, β, δ, dx, β1, rl, e1, fun v F1 H1 p1 r1 => ?_⟩
    refine ⟨Z, F1, β1, δ, l, β2, rl.post p1, e2, fun F2 H2 p2 => ?_⟩
    refine ⟨Z, F2, β2, δ, u, _, (rl.post p1).post p2, e3, fun F3 H3 p3 => ?_⟩
    have r3 := (r1.post p2).post p3
    have P := (p1.trans p2).trans p3
    cases dx with
    | list ds =>
      cases e4
      obtain ⟨a, xs, rfl, h1, h2⟩ := bv_lst r3 p3.fh
      refine .inl ⟨a, xs, rfl, .of h1, fun p hn => ?_⟩
      have sm : Same F3 (upd F3 p (.lst (cutV xs l u))) := same_upd1 (p3.fh.free hn)
      exact q _ _ _ (P.new hn) (.dp (.lst upd_same (dpAll_mono sm _ _ (cut_dq h2 l u))))
    | tuple ds =>
      cases e4
      obtain ⟨a, xs, rfl, h0, h1, h2⟩ := bv_tup r3 p3.fh
      refine .inr ⟨a, xs, rfl, h1, fun hw => ?_, fun _ p hn => ?_⟩
      · rw [h2.len] at hw
        dsimp only at q
        rw [cut_whole hw] at q
        exact q _ F3 H3 P (.dp (.tup h0 h2))
      · have sm : Same F3 (upd F3 p (.tup (cutV xs l u))) := same_upd1 (p3.fh.free hn)
        exact q _ _ _ (P.new hn) (.dp (.tup (.of upd_same) (dpAll_mono sm _ _ (cut_dq h2 l u))))
    | _ => cases e4

/-! ### calls of built-ins -/
structure CV (K : Frag) (r : List V → Hp → VK → Prop) (f : List D → Option D) : Prop where
  run : ∀ ob F H β vs ds d, ∀ Q : VK, Same F H → BagAt ob F H β → BvAll K ob F H vs ds → f ds = some d → (∀ v F' H', Post ob F H F' H' β → Rp K F' v d → Q v H') → r vs H Q
def dCall (f : List D → Option D) (g : FA) : FE := fun δ β => (g δ β).bind fun x => (f x.1).map fun d => (d, x.2)
def orC (f g : List D → Option D) : List D → Option D := fun x => match f x with
  | some d => some d
  | none => g x
theorem CV.or {r r' : List V → Hp → VK → Prop} {f g : List D → Option D} (h : CV K r f) (k : CV K r' g) : CV K (fun vs H Q => r vs H Q ∨ r' vs H Q) (orC f g) := ⟨fun ob F H β vs ds d Q fh bg hv e q => by
  unfold orC at e
  split at e
  · rename_i e1
    exact .inl (h.run ob F H β vs ds d Q fh bg hv (e1.trans e) q)
  · exact .inr (k.run ob F H β vs ds d Q fh bg hv e q)⟩
theorem tcb_of {r : List V → Hp → VK → Prop} {f : List D → Option D} {g : FA} (c : CV K r f) {σ H Q} (h : tD K (dCall f g) σ H Q) : tCB r (tBr K g) σ H Q := by
  obtain ⟨Z, F, β, δ, d, β', rl, e, q⟩ := h
  obtain ⟨⟨ds, β1⟩, e1, e⟩ := Option.bind_eq_some_iff.mp e
  obtain ⟨dz, e4, e⟩ := Option.map_eq_some_iff.mp e
  cases e
  exact ⟨Z, F, β, δ, ds, _, rl, e1, fun vs F1 H1 p1 hv => c.run Z.ob F1 H1 _ vs ds _ Q p1.fh p1.bg hv e4 fun v F2 H2 p2 rv => q v F2 H2 (p1.trans p2) rv⟩
def okB (x : Str) : Bool := bltNames.contains x && okName x && !(x == ("__name__" : Str))
theorem okB_of {x : Str} (h : okB x = true) : x ∈ bltNames ∧ (x == ("__debug__" : Str)) = false ∧ x ≠ "__name__" := by
  unfold okB at h
  rw [Bool.and_eq_true, Bool.and_eq_true] at h
  refine ⟨by simpa using h.1.1, okName1 h.1.2, ?_⟩
  simpa using h.2
theorem de_callB {x : Str} {p : Pos} {e : Expr} {es : List Expr} {id : String} {r : Cx → List V → Hp → VK → Prop} {f : List D → Option D} {g : FA} (hc : ∀ X, Good Γ X → CallR X (.builtin id) (r X)) (hv : ∀ X, CV (un X) (r X) f) (hg : glK Γ.names x = true) (hb : okB x = true)
    (hv0 : bootBuiltins x = some (.builtin id)) (ha : DBA Γ (e :: es) g) (hp : (e :: es).all plainE = true) : DE Γ (.Call (.Name x p) (e :: es) [] pos) (dCall f g) := fun X G => by
  obtain ⟨b1, b2, b3⟩ := okB_of hb
  rw [List.all_cons, Bool.and_eq_true] at hp
  exact PE.weaken (pe_callB (hc X G) (gl_of G hg) (G.bl x b1) hv0 (ha X G) b3 b2 (star_plain hp.1 es X.env) (star_any X.env pos hp.2)) fun _ _ _ h => tcb_of (hv X) h
theorem de_callTy {x : Str} {p : Pos} {e : Expr} {es : List Expr} {T : String} {r : Cx → List V → Hp → VK → Prop} {f : List D → Option D} {g : FA} (hc : ∀ X, Good Γ X → CallR X (.type T) (r X)) (hv : ∀ X, CV (un X) (r X) f) (hg : glK Γ.names x = true) (hb : okB x = true)
    (hv0 : bootBuiltins x = some (.type T)) (ha : DBA Γ (e :: es) g) (hp : (e :: es).all plainE = true) : DE Γ (.Call (.Name x p) (e :: es) [] pos) (dCall f g) := fun X G => by
  obtain ⟨b1, b2, b3⟩ := okB_of hb
  rw [List.all_cons, Bool.and_eq_true] at hp
  exact PE.weaken (pe_callTy (hc X G) (gl_of G hg) (G.bl x b1) hv0 (ha X G) b3 b2 (star_plain hp.1 es X.env) (star_any X.env pos hp.2)) fun _ _ _ h => tcb_of (hv X) h
theorem bva1 {ob F H vs d} (h : BvAll K ob F H vs [d]) : ∃ v, vs = [v] ∧ Bv K ob F H v d := by
  cases h with
  | cons h t => cases t; exact ⟨_, rfl, h⟩
theorem bva2 {ob F H vs d e} (h : BvAll K ob F H vs [d, e]) : ∃ v w, vs = [v, w] ∧ Bv K ob F H v d ∧ Bv K ob F H w e := by
  cases h with
  | cons h t =>
    cases t with
    | cons h2 t => cases t; exact ⟨_, _, rfl, h, h2⟩
/-- len -/
def fLen : List D → Option D
  | [.list ds] => some (.int ds.length)
  | [.tuple ds] => some (.int ds.length)
  | [.str z] => if z.length ≤ 16777216 then some (.int z.length) else none
  | [.dict ds] => some (.int ds.length)
  | _ => none
theorem kvp_len {F : Hp} : ∀ {ks : List (Key × V)} {ds : List (D × D)}, KVp K F ks ds → ks.length = ds.length
  | _, _, .nil => rfl
  | _, _, .cons _ t => by simp [kvp_len t]
theorem call_lenD' {X : Cx} : CallR X (.builtin "len") (fun xs H Q => ∃ a kvs, xs = [.ref a] ∧ H a = some (.dK kvs) ∧ Q (.int kvs.length) H) := by
  intro pins s σ H xs us Q I r h
  obtain ⟨a, kvs, rfl, hq, q⟩ := h
  obtain ⟨u, rfl, rx⟩ := vals1 r
  cases rx
  exact d_len I (.inl hq) fun t s' I' => ⟨.int kvs.length, H, I', ⟨t, rfl⟩, q⟩
theorem cv_len : CV K (fun xs H Q => (∃ p ys, xs = [.ref p] ∧ (SqL K.K H p ys ∨ SqT K.K H p ys) ∧ Q (.int ys.length) H) ∨ (∃ z, xs = [.str z] ∧ z.length ≤ sizeLine ∧ Q (.int z.length) H) ∨ (∃ a kvs, xs = [.ref a] ∧ H a = some (.dK kvs) ∧ Q (.int kvs.length) H)) fLen := ⟨fun ob F H β vs ds d Q fh bg hv e q => by
  unfold fLen at e
  split at e
  · cases e
    obtain ⟨v, rfl, h⟩ := bva1 hv
    obtain ⟨a, xs, rfl, h1, h2⟩ := bv_lst h fh
    refine .inl ⟨a, xs, rfl, .inl (.of h1), ?_⟩
    rw [h2.len]
    exact q _ F H (post0 fh bg) (.dp (.int _))
  · cases e
    obtain ⟨v, rfl, h⟩ := bva1 hv
    obtain ⟨a, xs, rfl, h0, h1, h2⟩ := bv_tup h fh
    refine .inl ⟨a, xs, rfl, .inr h1, ?_⟩
    rw [h2.len]
    exact q _ F H (post0 fh bg) (.dp (.int _))
  · split at e
    · rename_i hz
      cases e
      obtain ⟨v, rfl, h⟩ := bva1 hv
      exact .inr (.inl ⟨_, by rw [bv_str h], sz_ok hz, q _ F H (post0 fh bg) (.dp (.int _))⟩)
    · cases e
  · cases e
    obtain ⟨v, rfl, h⟩ := bva1 hv
    obtain ⟨a, o, rfl, h1, h2⟩ := bv_dic h fh
    cases h2 with
    | k hk _ =>
      refine .inr (.inr ⟨a, _, rfl, h1, ?_⟩)
      rw [kvp_len hk]
      exact q _ F H (post0 fh bg) (.dp (.int _))
  · cases e⟩
theorem boot_lenE : bootBuiltins "len" = some (.builtin "len") := PySem.boot_len
theorem de_len {p : Pos} {e : Expr} {g : FA} (hg : glK Γ.names "len" = true) (ha : DBA Γ [e] g) (hp : plainE e = true) : DE Γ (.Call (.Name "len" p) [e] [] pos) (dCall fLen g) :=
  de_callB (r := fun X xs H Q => (∃ p ys, xs = [.ref p] ∧ (SqL X.K H p ys ∨ SqT X.K H p ys) ∧ Q (.int ys.length) H) ∨ (∃ z, xs = [.str z] ∧ z.length ≤ sizeLine ∧ Q (.int z.length) H) ∨ (∃ a kvs, xs = [.ref a] ∧ H a = some (.dK kvs) ∧ Q (.int kvs.length) H))
    (fun X _ => .or call_len_seq (.or call_len_str call_lenD')) (fun X => cv_len) hg (by decide +kernel) boot_lenE ha (by simp [hp])
/-- all, any, of a list of truths -/
def boolsOf : List D → Option (List Bool)
  | [] => some []
  | .bool b :: r => (boolsOf r).map (b :: ·)
  | _ => none
theorem bools_dq {F : Hp} : ∀ {ds : List D} {bs : List Bool} {vs : List V}, boolsOf ds = some bs → DqAll K F vs ds → vs = bs.map V.bl
  | [], bs, vs, e, h => by cases e; cases h; rfl
  | .bool b :: r, bs, vs, e, h => by
    unfold boolsOf at e
    obtain ⟨b', e1, e2⟩ := Option.map_eq_some_iff.mp e
    subst e2
    cases h with
    | cons h1 h2 => rw [dp_bl h1, bools_dq e1 h2]; rfl
  | .none :: _, _, _, e, _ => by cases e
  | .int _ :: _, _, _, e, _ => by cases e
  | .str _ :: _, _, _, e, _ => by cases e
  | .list _ :: _, _, _, e, _ => by cases e
  | .tuple _ :: _, _, _, e, _ => by cases e
  | .dict _ :: _, _, _, e, _ => by cases e
def fAll : List D → Option D
  | [.list ds] => (boolsOf ds).map fun bs => .bool (bs.all id)
  | _ => none
def fAny : List D → Option D
  | [.list ds] => (boolsOf ds).map fun bs => .bool (bs.any id)
  | _ => none
theorem cv_all : CV K (rAll K.K) fAll := ⟨fun ob F H β vs ds d Q fh bg hv e q => by
  unfold fAll at e
  split at e
  · obtain ⟨bs, e1, e⟩ := Option.map_eq_some_iff.mp e
    cases e
    obtain ⟨v, rfl, h⟩ := bva1 hv
    obtain ⟨a, xs, rfl, h1, h2⟩ := bv_lst h fh
    have := bools_dq e1 h2
    subst this
    exact ⟨a, bs, rfl, .of h1, q _ F H (post0 fh bg) (.dp (.bl _))⟩
  · cases e⟩
theorem cv_any : CV K (rAny K.K) fAny := ⟨fun ob F H β vs ds d Q fh bg hv e q => by
  unfold fAny at e
  split at e
  · obtain ⟨bs, e1, e⟩ := Option.map_eq_some_iff.mp e
    cases e
    obtain ⟨v, rfl, h⟩ := bva1 hv
    obtain ⟨a, xs, rfl, h1, h2⟩ := bv_lst h fh
    have := bools_dq e1 h2
    subst this
    exact ⟨a, bs, rfl, .of h1, q _ F H (post0 fh bg) (.dp (.bl _))⟩
  · cases e⟩
/-- ints -/
def intsOf : List D → Option (List Int)
  | [] => some []
  | .int b :: r => (intsOf r).map (b :: ·)
  | _ => none
theorem ints_dq {F : Hp} : ∀ {ds : List D} {bs : List Int} {vs : List V}, intsOf ds = some bs → DqAll K F vs ds → vs = bs.map V.int
  | [], bs, vs, e, h => by cases e; cases h; rfl
  | .int b :: r, bs, vs, e, h => by
    unfold intsOf at e
    obtain ⟨b', e1, e2⟩ := Option.map_eq_some_iff.mp e
    subst e2
    cases h with
    | cons h1 h2 => rw [dp_int h1, ints_dq e1 h2]; rfl
  | .none :: _, _, _, e, _ => by cases e
  | .bool _ :: _, _, _, e, _ => by cases e
  | .str _ :: _, _, _, e, _ => by cases e
  | .list _ :: _, _, _, e, _ => by cases e
  | .tuple _ :: _, _, _, e, _ => by cases e
  | .dict _ :: _, _, _, e, _ => by cases e
theorem intsOf_map (ns : List Int) : intsOf (ns.map PyData.int) = some ns := by
  induction ns with
  | nil => rfl
  | cons a r ih => show (intsOf (r.map PyData.int)).map (a :: ·) = _; rw [ih]; rfl
theorem boolsOf_map (ns : List Bool) : boolsOf (ns.map PyData.bool) = some ns := by
  induction ns with
  | nil => rfl
  | cons a r ih => show (boolsOf (r.map PyData.bool)).map (a :: ·) = _; rw [ih]; rfl
/-- the greatest, the least of ints -/
def maxL : Int → List Int → Int
  | m, [] => m
  | m, x :: r => maxL (if x > m then x else m) r
def minL : Int → List Int → Int
  | m, [] => m
  | m, x :: r => minL (if x < m then x else m) r
theorem maxL_ge : ∀ (r : List Int) (m : Int), m ≤ maxL m r ∧ ∀ y ∈ r, y ≤ maxL m r
  | [], m => ⟨Int.le_refl _, fun y h => by cases h⟩
  | x :: r, m => by
    obtain ⟨h1, h2⟩ := maxL_ge r (if x > m then x else m)
    show m ≤ maxL (if x > m then x else m) r ∧ ∀ y ∈ x :: r, y ≤ maxL (if x > m then x else m) r
    refine ⟨?_, fun y hy => ?_⟩
    · split at h1 <;> split <;> omega
    · rcases List.mem_cons.mp hy with rfl | hy
      · split at h1 <;> split <;> omega
      · exact h2 y hy
theorem maxL_mem : ∀ (r : List Int) (m : Int), maxL m r = m ∨ maxL m r ∈ r
  | [], m => .inl rfl
  | x :: r, m => by
    show maxL (if x > m then x else m) r = m ∨ maxL (if x > m then x else m) r ∈ x :: r
    rcases maxL_mem r (if x > m then x else m) with h | h
    · rw [h]
      split
      · exact .inr List.mem_cons_self
      · exact .inl rfl
    · exact .inr (List.mem_cons_of_mem _ h)
theorem minL_le : ∀ (r : List Int) (m : Int), minL m r ≤ m ∧ ∀ y ∈ r, minL m r ≤ y
  | [], m => ⟨Int.le_refl _, fun y h => by cases h⟩
  | x :: r, m => by
    obtain ⟨h1, h2⟩ := minL_le r (if x < m then x else m)
    show minL (if x < m then x else m) r ≤ m ∧ ∀ y ∈ x :: r, minL (if x < m then x else m) r ≤ y
    refine ⟨?_, fun y hy => ?_⟩
    · split at h1 <;> split <;> omega
    · rcases List.mem_cons.mp hy with rfl | hy
      · split at h1 <;> split <;> omega
      · exact h2 y hy
theorem minL_mem : ∀ (r : List Int) (m : Int), minL m r = m ∨ minL m r ∈ r
  | [], m => .inl rfl
  | x :: r, m => by
    show minL (if x < m then x else m) r = m ∨ minL (if x < m then x else m) r ∈ x :: r
    rcases minL_mem r (if x < m then x else m) with h | h
    · rw [h]
      split
      · exact .inr List.mem_cons_self
      · exact .inl rfl
    · exact .inr (List.mem_cons_of_mem _ h)
def fMaxI : List D → Option D
  | [.list ds] => (intsOf ds).bind fun ns => match ns with
    | [] => none
    | m :: r => some (.int (maxL m r))
  | _ => none
def fMinI : List D → Option D
  | [.list ds] => (intsOf ds).bind fun ns => match ns with
    | [] => none
    | m :: r => some (.int (minL m r))
  | _ => none
theorem cv_maxI : CV K (rMax K.K) fMaxI := ⟨fun ob F H β vs ds d Q fh bg hv e q => by
  unfold fMaxI at e
  split at e
  · obtain ⟨ns, e1, e⟩ := Option.bind_eq_some_iff.mp e
    obtain ⟨v, rfl, h⟩ := bva1 hv
    obtain ⟨a, xs, rfl, h1, h2⟩ := bv_lst h fh
    have := ints_dq e1 h2
    subst this
    cases ns with
    | nil => cases e
    | cons m r =>
      cases e
      refine ⟨a, m :: r, rfl, .of h1, Nat.succ_pos _, fun m' hm hle => ?_⟩
      have e2 : m' = maxL m r := by
        have l1 := maxL_ge r m
        have l2 := hle (maxL m r) (by rcases maxL_mem r m with z | z; rw [z]; exact List.mem_cons_self; exact List.mem_cons_of_mem _ z)
        have l3 : m' ≤ maxL m r := by
          rcases List.mem_cons.mp hm with z | z
          · rw [z]; exact l1.1
          · exact l1.2 _ z
        omega
      rw [e2]
      exact q _ F H (post0 fh bg) (.dp (.int _))
  · cases e⟩
theorem cv_minI : CV K (rMin K.K) fMinI := ⟨fun ob F H β vs ds d Q fh bg hv e q => by
  unfold fMinI at e
  split at e
  · obtain ⟨ns, e1, e⟩ := Option.bind_eq_some_iff.mp e
    obtain ⟨v, rfl, h⟩ := bva1 hv
    obtain ⟨a, xs, rfl, h1, h2⟩ := bv_lst h fh
    have := ints_dq e1 h2
    subst this
    cases ns with
    | nil => cases e
    | cons m r =>
      cases e
      refine ⟨a, m :: r, rfl, .of h1, Nat.succ_pos _, fun m' hm hle => ?_⟩
      have e2 : m' = minL m r := by
        have l1 := minL_le r m
        have l2 := hle (minL m r) (by rcases minL_mem r m with z | z; rw [z]; exact List.mem_cons_self; exact List.mem_cons_of_mem _ z)
        have l3 : minL m r ≤ m' := by
          rcases List.mem_cons.mp hm with z | z
          · rw [z]; exact l1.1
          · exact l1.2 _ z
        omega
      rw [e2]
      exact q _ F H (post0 fh bg) (.dp (.int _))
  · cases e⟩
def fMax2 : List D → Option D
  | [.int i, .int j] => some (.int (if j > i then j else i))
  | _ => none
def fMin2 : List D → Option D
  | [.int i, .int j] => some (.int (if j < i then j else i))
  | _ => none
theorem cv_max2 : CV K (fun xs H Q => ∃ i j, xs = [.int i, .int j] ∧ Q (.int (if j > i then j else i)) H) fMax2 := ⟨fun ob F H β vs ds d Q fh bg hv e q => by
  unfold fMax2 at e
  split at e
  · cases e
    obtain ⟨v, w, rfl, h1, h2⟩ := bva2 hv
    exact ⟨_, _, by rw [bv_int h1, bv_int h2], q _ F H (post0 fh bg) (.dp (.int _))⟩
  · cases e⟩
theorem cv_min2 : CV K (fun xs H Q => ∃ i j, xs = [.int i, .int j] ∧ Q (.int (if j < i then j else i)) H) fMin2 := ⟨fun ob F H β vs ds d Q fh bg hv e q => by
  unfold fMin2 at e
  split at e
  · cases e
    obtain ⟨v, w, rfl, h1, h2⟩ := bva2 hv
    exact ⟨_, _, by rw [bv_int h1, bv_int h2], q _ F H (post0 fh bg) (.dp (.int _))⟩
  · cases e⟩
def fSum : List D → Option D
  | [.list ds] => (intsOf ds).map fun ns => .int ns.sum
  | _ => none
theorem cv_sum : CV K (rSum K.K) fSum := ⟨fun ob F H β vs ds d Q fh bg hv e q => by
  unfold fSum at e
  split at e
  · obtain ⟨ns, e1, e⟩ := Option.map_eq_some_iff.mp e
    cases e
    obtain ⟨v, rfl, h⟩ := bva1 hv
    obtain ⟨a, xs, rfl, h1, h2⟩ := bv_lst h fh
    have := ints_dq e1 h2
    subst this
    exact ⟨a, ns, rfl, .of h1, q _ F H (post0 fh bg) (.dp (.int _))⟩
  · cases e⟩
def fAbs : List D → Option D
  | [.int i] => some (.int (if i < 0 then -i else i))
  | _ => none
theorem cv_abs : CV K (fun xs H Q => ∃ i, xs = [.int i] ∧ Q (.int (if i < 0 then -i else i)) H) fAbs := ⟨fun ob F H β vs ds d Q fh bg hv e q => by
  unfold fAbs at e
  split at e
  · cases e
    obtain ⟨v, rfl, h1⟩ := bva1 hv
    exact ⟨_, by rw [bv_int h1], q _ F H (post0 fh bg) (.dp (.int _))⟩
  · cases e⟩
def fInt : List D → Option D
  | [.int i] => some (.int i)
  | [.bool b] => some (.int (if b then 1 else 0))
  | _ => none
theorem cv_int : CV K (fun xs H Q => (∃ i, xs = [.int i] ∧ Q (.int i) H) ∨ ∃ k, xs = [.bl k] ∧ Q (.int (if k then 1 else 0)) H) fInt := ⟨fun ob F H β vs ds d Q fh bg hv e q => by
  unfold fInt at e
  split at e
  · cases e
    obtain ⟨v, rfl, h1⟩ := bva1 hv
    exact .inl ⟨_, by rw [bv_int h1], q _ F H (post0 fh bg) (.dp (.int _))⟩
  · cases e
    obtain ⟨v, rfl, h1⟩ := bva1 hv
    exact .inr ⟨_, by rw [bv_bl h1], q _ F H (post0 fh bg) (.dp (.int _))⟩
  · cases e⟩
/-- list(x), tuple(x) of a list or a tuple -/
def fList : List D → Option D
  | [.list ds] => some (.list ds)
  | [.tuple ds] => some (.list ds)
  | _ => none
def fTuple : List D → Option D
  | [.list ds] => some (.tuple ds)
  | [.tuple ds] => some (.tuple ds)
  | _ => none
theorem cv_list : CV K (fun xs H Q => ∃ p ys, xs = [.ref p] ∧ (SqL K.K H p ys ∨ SqT K.K H p ys) ∧ ∀ l, H l = none → Q (.ref l) (upd H l (.lst ys))) fList := ⟨fun ob F H β vs ds d Q fh bg hv e q => by
  unfold fList at e
  split at e
  · cases e
    obtain ⟨v, rfl, h⟩ := bva1 hv
    obtain ⟨a, xs, rfl, h1, h2⟩ := bv_lst h fh
    refine ⟨a, xs, rfl, .inl (.of h1), fun l hn => ?_⟩
    exact q _ _ _ ((post0 fh bg).new hn) (.dp (.lst upd_same (dpAll_mono (same_upd1 (fh.free hn)) _ _ h2)))
  · cases e
    obtain ⟨v, rfl, h⟩ := bva1 hv
    obtain ⟨a, xs, rfl, h0, h1, h2⟩ := bv_tup h fh
    refine ⟨a, xs, rfl, .inr h1, fun l hn => ?_⟩
    exact q _ _ _ ((post0 fh bg).new hn) (.dp (.lst upd_same (dpAll_mono (same_upd1 (fh.free hn)) _ _ h2)))
  · cases e⟩
theorem cv_tuple : CV K (fun xs H Q => ∃ p ys, xs = [.ref p] ∧ ((SqL K.K H p ys ∧ ∀ l, H l = none → Q (.ref l) (upd H l (.tup ys))) ∨ (SqT K.K H p ys ∧ Q (.ref p) H))) fTuple := ⟨fun ob F H β vs ds d Q fh bg hv e q => by
  unfold fTuple at e
  split at e
  · cases e
    obtain ⟨v, rfl, h⟩ := bva1 hv
    obtain ⟨a, xs, rfl, h1, h2⟩ := bv_lst h fh
    refine ⟨a, xs, rfl, .inl ⟨.of h1, fun l hn => ?_⟩⟩
    exact q _ _ _ ((post0 fh bg).new hn) (.dp (.tup (.of upd_same) (dpAll_mono (same_upd1 (fh.free hn)) _ _ h2)))
  · cases e
    obtain ⟨v, rfl, h⟩ := bva1 hv
    obtain ⟨a, xs, rfl, h0, h1, h2⟩ := bv_tup h fh
    exact ⟨a, xs, rfl, .inr ⟨h1, q _ F H (post0 fh bg) (.dp (.tup h0 h2))⟩⟩
  · cases e⟩
end
end PD
namespace PD
open PySem PySem.Spec L2
/-! ### order of data -/
section
variable {X : Cx}
def okD (d : D) : Bool := decide (d.depth ≤ 64)
theorem op_ltD (hu : X.A.units + 64 < cLine) : OpR X (compareOp .Lt) (fun x y H Q => ∃ d e, Dp X.K H x d ∧ Dp X.K H y e ∧ PySem.W.alike d e = true ∧ d ≠ .none ∧ d.depth ≤ 64 ∧ Q (.bl (PySem.W.dataLt d e)) H) := by
  intro pins s σ H x y v u Q I rx ry h
  obtain ⟨d, e, hd, he, ha, hn, hk, q⟩ := h
  obtain ⟨as, r1⟩ := Dp.reads I d x v hd rx
  obtain ⟨bs, r2⟩ := Dp.reads I e y u he ry
  exact PySem.W.lt_data r1 r2 ha hn (by omega) ⟨.bl _, H, I, rfl, q⟩
theorem op_gtD (hu : X.A.units + 64 < cLine) : OpR X (compareOp .Gt) (fun x y H Q => ∃ d e, Dp X.K H x d ∧ Dp X.K H y e ∧ PySem.W.alike d e = true ∧ d ≠ .none ∧ d.depth ≤ 64 ∧ Q (.bl (PySem.W.dataLt e d)) H) := by
  intro pins s σ H x y v u Q I rx ry h
  obtain ⟨d, e, hd, he, ha, hn, hk, q⟩ := h
  obtain ⟨as, r1⟩ := Dp.reads I d x v hd rx
  obtain ⟨bs, r2⟩ := Dp.reads I e y u he ry
  exact PySem.W.gt_data r1 r2 ha hn (by omega) ⟨.bl _, H, I, rfl, q⟩
theorem op_leD (hu : X.A.units + 64 < cLine) : OpR X (compareOp .LtE) (fun x y H Q => ∃ d e, Dp X.K H x d ∧ Dp X.K H y e ∧ PySem.W.alike d e = true ∧ d ≠ .none ∧ d.depth ≤ 64 ∧ Q (.bl (!PySem.W.dataLt e d)) H) := by
  intro pins s σ H x y v u Q I rx ry h
  obtain ⟨d, e, hd, he, ha, hn, hk, q⟩ := h
  obtain ⟨as, r1⟩ := Dp.reads I d x v hd rx
  obtain ⟨bs, r2⟩ := Dp.reads I e y u he ry
  exact PySem.W.le_data r1 r2 ha hn (by omega) ⟨.bl _, H, I, rfl, q⟩
theorem op_geD (hu : X.A.units + 64 < cLine) : OpR X (compareOp .GtE) (fun x y H Q => ∃ d e, Dp X.K H x d ∧ Dp X.K H y e ∧ PySem.W.alike d e = true ∧ d ≠ .none ∧ d.depth ≤ 64 ∧ Q (.bl (!PySem.W.dataLt d e)) H) := by
  intro pins s σ H x y v u Q I rx ry h
  obtain ⟨d, e, hd, he, ha, hn, hk, q⟩ := h
  obtain ⟨as, r1⟩ := Dp.reads I d x v hd rx
  obtain ⟨bs, r2⟩ := Dp.reads I e y u he ry
  exact PySem.W.ge_data r1 r2 ha hn (by omega) ⟨.bl _, H, I, rfl, q⟩
end
section
variable {K : Frag} {Γ : Ctx} {pos : Pos}
def cmpOk (x y : D) : Bool := plainD x && plainD y && PySem.W.alike x y && !isN x && okD x
def fCmpD (g : D → D → Bool) : D → D → Option D := fun x y => if cmpOk x y = true then some (.bool (g x y)) else none
theorem ov_cmpD {g : D → D → Bool} : OV K (fun x y H Q => ∃ d e, Dp K.K H x d ∧ Dp K.K H y e ∧ PySem.W.alike d e = true ∧ d ≠ .none ∧ d.depth ≤ 64 ∧ Q (.bl (g d e)) H) (fCmpD g) := ⟨fun ob F H β x y dx dy d Q fh bg hx hy e q => by
  unfold fCmpD at e
  split at e
  · rename_i hk
    unfold cmpOk at hk
    simp only [Bool.and_eq_true] at hk
    obtain ⟨⟨⟨⟨h1, h2⟩, h3⟩, h4⟩, h5⟩ := hk
    cases e
    refine ⟨dx, dy, bv_dp hx fh h1, bv_dp hy fh h2, h3, fun e0 => ?_, of_decide_eq_true h5, q _ F H (post0 fh bg) (.dp (.bl _))⟩
    subst e0; cases h4
  · cases e⟩
def fLt : D → D → Option D := orF (fI0 fun i j => .bool (decide (i < j))) (fCmpD PySem.W.dataLt)
def fGt : D → D → Option D := orF (fI0 fun i j => .bool (decide (j < i))) (fCmpD fun x y => PySem.W.dataLt y x)
def fLe : D → D → Option D := orF (fI0 fun i j => .bool (decide (i ≤ j))) (fCmpD fun x y => !PySem.W.dataLt y x)
def fGe : D → D → Option D := orF (fI0 fun i j => .bool (decide (j ≤ i))) (fCmpD fun x y => !PySem.W.dataLt x y)
/-- a comparison's rule, with its function -/
structure CmpR (Γ : Ctx) (op : CmpOp) (f : D → D → Option D) : Prop where
  ex : ∃ r : Cx → R2, (∀ X, Good Γ X → OpR X (compareOp op) (r X)) ∧ ∀ X, OV (un X) (r X) f
theorem Good.u64 {X : Cx} (G : Good Γ X) : X.A.units + 64 < cLine := by have := G.u; omega
theorem Good.u65 {X : Cx} (G : Good Γ X) : X.A.units + 65 < cLine := by have := G.u; omega
theorem cr_lt : CmpR Γ .Lt fLt := ⟨_, fun X G => .or op_lt (op_ltD G.u64), fun X => (ov_I0 fun _ _ _ => .bl _).or ov_cmpD⟩
theorem cr_gt : CmpR Γ .Gt fGt := ⟨_, fun X G => .or op_gt (op_gtD G.u64), fun X => (ov_I0 fun _ _ _ => .bl _).or ov_cmpD⟩
theorem cr_le : CmpR Γ .LtE fLe := ⟨_, fun X G => .or op_le (op_leD G.u64), fun X => (ov_I0 fun _ _ _ => .bl _).or ov_cmpD⟩
theorem cr_ge : CmpR Γ .GtE fGe := ⟨_, fun X G => .or op_ge (op_geD G.u64), fun X => (ov_I0 fun _ _ _ => .bl _).or ov_cmpD⟩
theorem cr_eq : CmpR Γ .Eq fEq := ⟨_, fun X G => op_eqD G.u64, fun X => ov_eq⟩
theorem cr_ne : CmpR Γ .NotEq fNe := ⟨_, fun X G => op_neD G.u64, fun X => ov_ne⟩
theorem cr_is : CmpR Γ .Is fIs := ⟨_, fun X G => .or op_isN op_is_bl, fun X => ov_is⟩
theorem cr_isN : CmpR Γ .IsNot fIsN := ⟨_, fun X G => .or op_notN op_isnot_bl, fun X => ov_isN⟩
theorem de_cmpR {a b : Expr} {op : CmpOp} {f : D → D → Option D} {fa fb : FE} (c : CmpR Γ op f) (ha : DB Γ a fa) (hb : DB Γ b fb) (hp : plainE b = true) : DE Γ (.Compare a [op] [b] pos) (dOp f fa fb) := by
  obtain ⟨r, h1, h2⟩ := c.ex
  exact de_cmp h1 h2 ha hb hp
theorem dt_cmpR {a b : Expr} {op : CmpOp} {f : D → D → Option D} {fa fb : FE} (c : CmpR Γ op f) (ha : DB Γ a fa) (hb : DB Γ b fb) (hp : plainE b = true) : DT Γ (.Compare a [op] [b] pos) (tob (dOp f fa fb)) := by
  obtain ⟨r, h1, h2⟩ := c.ex
  exact dt_cmp h1 h2 ha hb hp
theorem de_chainR {a b c : Expr} {op op' : CmpOp} {f g : D → D → Option D} {fa fb fc : FE} (c1 : CmpR Γ op f) (c2 : CmpR Γ op' g) (ha : DB Γ a fa) (hb : DB Γ b fb) (hc : DB Γ c fc) (hp : plainE c = true) : DE Γ (.Compare a [op, op'] [b, c] pos) (dChain f g fa fb fc) := by
  obtain ⟨r, h1, h2⟩ := c1.ex
  obtain ⟨r', h3, h4⟩ := c2.ex
  exact de_chain h1 h2 h3 h4 ha hb hc hp
theorem dt_chainR {a b c : Expr} {op op' : CmpOp} {f g : D → D → Option D} {fa fb fc : FE} (c1 : CmpR Γ op f) (c2 : CmpR Γ op' g) (ha : DB Γ a fa) (hb : DB Γ b fb) (hc : DB Γ c fc) (hp : plainE c = true) : DT Γ (.Compare a [op, op'] [b, c] pos) (tob (dChain f g fa fb fc)) := by
  obtain ⟨r, h1, h2⟩ := c1.ex
  obtain ⟨r', h3, h4⟩ := c2.ex
  exact dt_chain h1 h2 h3 h4 ha hb hc hp

/-! ### isinstance -/
inductive Ty where
  | int | bool | str | list | tuple | dict
def Ty.name : Ty → String
  | .int => "int" | .bool => "bool" | .str => "str" | .list => "list" | .tuple => "tuple" | .dict => "dict"
def typeD : D → String
  | .none => "NoneType" | .bool _ => "bool" | .int _ => "int" | .str _ => "str" | .list _ => "list" | .tuple _ => "tuple" | .dict _ => "dict"
def isiD : Ty → D → Bool
  | .int, .int _ => true
  | .int, .bool _ => true
  | .bool, .bool _ => true
  | .str, .str _ => true
  | .list, .list _ => true
  | .tuple, .tuple _ => true
  | .dict, .dict _ => true
  | _, _ => false
theorem kit_D (t : Ty) (d : D) : kitB (typeD d) t.name = some (isiD t d) := by
  cases t <;> cases d <;> first | rfl | decide +kernel
theorem bv_ty {ob F H x d} (h : Bv K ob F H x d) (fh : Same F H) : TyX K.K H x (.type (typeD d)) := by
  cases d with
  | none => rw [bv_non h]; exact .base .non
  | bool b => rw [bv_bl h]; exact .base (.bl _)
  | int b => rw [bv_int h]; exact .base (.int _)
  | str b => rw [bv_str h]; exact .base (.str _)
  | list ds =>
    obtain ⟨a, xs, rfl, h1, _⟩ := bv_lst h fh
    exact .base (.lst h1)
  | tuple ds =>
    obtain ⟨a, xs, rfl, _, h1, _⟩ := bv_tup h fh
    rcases h1 with (h1 | ⟨o, h1⟩) | ⟨o, its, n, h1, h2, _⟩
    · exact .base (.tup h1)
    · exact .fTuple h1
    · exact .kTuple h1 h2
  | dict ds =>
    obtain ⟨a, o, rfl, h1, h2⟩ := bv_dic h fh
    cases h2 with
    | k _ _ => exact .base (.dK h1)
def tyOf (x : Str) : Option Ty :=
  if x = "int" then some .int else if x = "bool" then some .bool else if x = "str" then some .str else if x = "list" then some .list else if x = "tuple" then some .tuple else if x = "dict" then some .dict else none
theorem boot_ty {x : Str} {t : Ty} (h : tyOf x = some t) : bootBuiltins x = some (.type t.name) := by
  unfold tyOf at h
  repeat' split at h
  all_goals first | (cases h; rename_i e; subst e; decide +kernel) | cases h
theorem pe_ty {X : Cx} (G : Good Γ X) {x : Str} {p : Pos} {t : Ty} (h : tyOf x = some t) (hg : glK Γ.names x = true) (hb : okB x = true) : PE X (.Name x p) (tC (.ty t.name)) := by
  obtain ⟨b1, b2, b3⟩ := okB_of hb
  exact pe_bltn (gl_of G hg) (G.bl x b1) (boot_ty h) rfl b3 b2
def dIsi (t : Ty) (f : FE) : FE := fun δ β => (f δ β).map fun x => (.bool (isiD t x.1), x.2)
theorem de_isi {p p2 : Pos} {e : Expr} {x : Str} {t : Ty} {f : FE} (hg : glK Γ.names "isinstance" = true) (h : tyOf x = some t) (hg2 : glK Γ.names x = true) (hb2 : okB x = true) (he : DB Γ e f) (hp : plainE e = true) :
    DE Γ (.Call (.Name "isinstance" p) [e, .Name x p2] [] pos) (dIsi t f) := fun X G => by
  refine PE.weaken (pe_callB call_isi (gl_of G hg) (G.bl _ (by decide +kernel)) (by decide +kernel) (pa_cons (he X G) (pa_cons (pe_ty G h hg2 hb2) pa_nil) (star_plain hp _ _)) (by decide +kernel) (by decide +kernel) (star_plain hp _ _)) fun σ H Q ⟨Z, F, β, δ, d, β', rl, e1, q⟩ => ?_
  obtain ⟨⟨d0, β0⟩, e2, e1⟩ := Option.map_eq_some_iff.mp e1
  cases e1
  refine ⟨Z, F, β, δ, d0, _, rl, e2, fun v F1 H1 p1 rv => ?_⟩
  exact ⟨v, .ty t.name, _, _, isiD t d0, rfl, .ty _, bv_ty rv p1.fh, kit_ty (kit_D t d0), q _ F1 H1 p1 (.dp (.bl _))⟩
def tysOf (Γ : Ctx) : List Expr → Option (List Ty)
  | [] => some []
  | .Name x _ :: r => if glK Γ.names x = true ∧ okB x = true then match tyOf x, tysOf Γ r with
      | some t, some ts => some (t :: ts)
      | _, _ => none
    else none
  | _ => none
theorem tys_pa {X : Cx} (G : Good Γ X) : ∀ {es : List Expr} {ts : List Ty}, tysOf Γ es = some ts → PA X es (fun _ H Q => Q (ts.map fun t => V.ty t.name) H)
  | [], ts, h => by cases h; exact pa_nil
  | e :: es, ts, h => by
    unfold tysOf at h
    split at h
    · rename_i heq; cases heq
    · rename_i x p r heq
      cases heq
      split at h
      · rename_i hk
        split at h
        · rename_i t ts' h1 h2
          cases h
          exact PA.weaken (pa_cons (pe_ty G h1 hk.1 hk.2) (tys_pa G h2)) fun σ H Q q => q
        · cases h
      · cases h
    · cases h
def dIsis (ts : List Ty) (f : FE) : FE := fun δ β => (f δ β).map fun x => (.bool (ts.any fun t => isiD t x.1), x.2)
theorem kit_any (d : D) : ∀ ts : List Ty, PySem.W.kitAny K.K (.type (typeD d)) (ts.map fun t => Value.type t.name) = some (ts.any fun t => isiD t d)
  | [] => kitAny_nil
  | t :: ts => by
    rw [List.map_cons, List.any_cons]
    refine kitAny_cons (kit_ty (kit_D t d)) (fun h => ?_) fun h => ?_
    · rw [h, Bool.false_or]; exact kit_any d ts
    · rw [h]; rfl
theorem cls_all : ∀ ts : List Ty, Paired ClsV (ts.map fun t => V.ty t.name) (ts.map fun t => Value.type t.name)
  | [] => .nil
  | t :: ts => .cons (.ty _) (cls_all ts)
theorem de_isis {p p2 : Pos} {k : Nat} {e : Expr} {es : List Expr} {ts : List Ty} {f : FE} (hg : glK Γ.names "isinstance" = true) (h : tysOf Γ es = some ts) (hl : ts.length ≤ 100) (he : DB Γ e f) (hp : plainE e = true) :
    DE Γ (.Call (.Name "isinstance" p) [e, .Tuple es k p2] [] pos) (dIsis ts f) := fun X G => by
  refine PE.weaken (pe_callB call_isiT (gl_of G hg) (G.bl _ (by decide +kernel)) (by decide +kernel) (pa_cons (he X G) (pa_cons (pe_tup (tys_pa G h)) pa_nil) (star_plain hp _ _)) (by decide +kernel) (by decide +kernel) (star_plain hp _ _)) fun σ H Q ⟨Z, F, β, δ, d, β', rl, e1, q⟩ => ?_
  obtain ⟨⟨d0, β0⟩, e2, e1⟩ := Option.map_eq_some_iff.mp e1
  cases e1
  refine ⟨Z, F, β, δ, d0, _, rl, e2, fun v F1 H1 p1 rv => ⟨by rw [List.length_map, sizeLine_eq]; omega, fun tp hn => ?_⟩⟩
  have p2 := p1.newO (o := .tup (ts.map fun t => V.ty t.name)) hn
  have p2' : Post Z.ob F1 H1 F1 (upd H1 tp (.tup (ts.map fun t => V.ty t.name))) β0 := (post0 p1.fh p1.bg).newO hn
  exact ⟨v, tp, _, _, _, _, rfl, upd_same, cls_all ts, bv_ty (rv.post p2') p2.fh, kit_any (K := un X) d0 ts, q _ F1 _ p2 (.dp (.bl _))⟩

/-! ### calls of the text's own functions -/
theorem rpAll_self {F : Hp} {vs : List V} {ds : List D} (h : RpAll K F vs ds) : RpAll K F (vs ++ []) ds := by rw [List.append_nil]; exact h
def dFn (u : UFn) (g : FA) : FE := fun δ β => (g δ β).bind fun x => if x.1.length = u.arity then (u.g x.1 (0, 0, 0)).map fun y => (y.1, x.2) else none
theorem tcall_of {u : UFn} (hu : u.bagged = false) {g : FA} {σ H Q} (h : tD K (dFn u g) σ H Q) : tCall (spU K u) [] E0 (tAr K g) σ H Q := by
  obtain ⟨Z, F, β, δ, d, β', rl, e, q⟩ := h
  obtain ⟨⟨ds, β1⟩, e1, e⟩ := Option.bind_eq_some_iff.mp e
  dsimp only at e
  split at e
  · rename_i hl
    obtain ⟨⟨d2, β2⟩, e2, e⟩ := Option.map_eq_some_iff.mp e
    cases e
    refine ⟨Z, F, β, δ, ds, _, rl, e1, fun vs F1 H1 p1 rvs => ?_⟩
    refine ⟨F1, none, ds, (0, 0, 0), β2, _, p1.fh, (fun b z => nomatch z), ?_, ?_, e2, fun v F' H' p2 rv => ?_⟩
    · rw [hu, if_neg Bool.false_ne_true]
      exact ⟨rfl, rpAll_self rvs⟩
    · rw [List.append_nil, rvs.len]; exact hl
    · refine q v F' H' ⟨p1.gr.trans p2.gr.nob, p2.fh, fun b eb => ?_⟩ rv
      obtain ⟨h1, h2⟩ := p1.bg b eb
      exact ⟨p2.gr.nw b _ h1 h2, p2.gr.kp b _ h2 (fun z => nomatch z)⟩
  · cases e
theorem de_fn {x : Str} {p : Pos} {e : Expr} {es : List Expr} {u : UFn} {g : FA} (hm : u ∈ Γ.fns) (hx : u.name = x) (hu : u.bagged = false) (hg : glK Γ.names x = true) (ho : okName x = true) (ha : DA Γ (e :: es) g) (hp : (e :: es).all plainE = true) :
    DE Γ (.Call (.Name x p) (e :: es) [] pos) (dFn u g) := fun X G => by
  subst hx
  obtain ⟨k, f, fd, ps, F, hr, hmg, hk, hb⟩ := G.us u hm
  rw [List.all_cons, Bool.and_eq_true] at hp
  exact PE.weaken (pe_call F hr (gl_of G hg) hmg hk hb .nil pass0 (ha X G) (okName1 ho) (star_plain hp.1 es X.env) (star_any X.env pos hp.2)) fun _ _ _ h => tcall_of hu h
theorem de_fn0 {x : Str} {p : Pos} {u : UFn} (hm : u ∈ Γ.fns) (hx : u.name = x) (hu : u.bagged = false) (hg : glK Γ.names x = true) (ho : okName x = true) :
    DE Γ (.Call (.Name x p) [] [] pos) (dFn u aNil) := fun X G => by
  subst hx
  obtain ⟨k, f, fd, ps, F, hr, hmg, hk, hb⟩ := G.us u hm
  refine PE.weaken (pe_call0 F hr (gl_of G hg) hmg hk hb .nil pass0 (okName1 ho)) fun σ H Q h => ?_
  obtain ⟨Z, F', β, δ, ds, β', rl, e, q⟩ := tcall_of hu h
  cases e
  exact q [] F' H rl.postR .nil
/-- with the bag ahead -/
def dFnB (u : UFn) (i : Nat) (g : FA) : FE := fun δ β => match δ[i]? with
  | some .bg => (g δ β).bind fun x => if x.1.length + 1 = u.arity then u.g x.1 x.2 else none
  | _ => none
theorem de_fnB {x y : Str} {p p2 : Pos} {es : List Expr} {u : UFn} {g : FA} {i : Nat} (hm : u ∈ Γ.fns) (hx : u.name = x) (hu : u.bagged = true) (hg : glK Γ.names x = true) (ho : okName x = true) (hN : Γ.N[i]? = some y) (hv : visK Γ.names y = true) (hoy : okName y = true)
    (ha : DA Γ es g) (hp : es.all plainE = true) : DE Γ (.Call (.Name x p) (.Name y p2 :: es) [] pos) (dFnB u i g) := fun X G => by
  subst hx
  obtain ⟨k, f, fd, ps, F, hr, hmg, hk, hb⟩ := G.us u hm
  refine PE.weaken (pe_call F hr (gl_of G hg) hmg hk hb .nil pass0 (pa_cons (pe_slot G hN hv hoy) (ha X G)) (okName1 ho) (star_plain rfl es X.env) (star_any X.env pos hp)) fun σ H Q ⟨Z, F0, β, δ, d, β', rl, e, q⟩ => ?_
  unfold dFnB at e
  split at e
  · rename_i hs
    obtain ⟨⟨ds, β1⟩, e1, e⟩ := Option.bind_eq_some_iff.mp e
    dsimp only at e
    split at e
    · rename_i hl
      obtain ⟨b, eb, hb'⟩ := rl.sl i _ hs
      refine ⟨.ref b, eb, ?_⟩
      refine ⟨Z, F0, β, δ, ds, β1, rl, e1, fun vs F1 H1 p1 rvs => ?_⟩
      refine ⟨F1, Z.ob, ds, β1, β', d, p1.fh, p1.bg, ?_, ?_, e, fun v F' H' p2 rv => q v F' H' (p1.trans p2) rv⟩
      · rw [hu, if_pos rfl]
        exact ⟨b, vs, hb', by simp, rvs⟩
      · simp only [List.append_nil, List.length_cons]
        rw [rvs.len]; exact hl
    · cases e
  · cases e
end
end PD
namespace PD
open PySem PySem.Spec PyProof.Rows L2
/-! ### a list or a tuple as a source of turns -/
inductive SK where | l | t
def SK.It : SK → Heap → Addr → Addr → Nat → Prop
  | .l, h, it, a, i => h.IsListIter it a i
  | .t, h, it, a, i => h.IsTupleIter it a i
def SK.Is : SK → Heap → Addr → Array Value → Prop
  | .l, h, a, xs => h.IsList a xs
  | .t, h, a, xs => h.IsTuple a xs
def SK.Sq (k : SK) (K : PySem.W.Frag) (H : Hp) (a : Addr) (xs : List V) : Prop := match k with
  | .l => SqL K H a xs
  | .t => SqT K H a xs
def SK.St (k : SK) (it a : Addr) (its : Array Value) (i : Nat) (h : Heap) : Prop := k.It h it a i ∧ k.Is h a its
theorem SK.draws (k : SK) {prog : Program} {w : World} {A : Around} (hh : A.handled = none) (it a : Addr) (hne : a ≠ it) (its : Array Value) : Draws prog w A it [it, a] its.size (fun i v => its[i]? = some v) (k.St it a its) := by
  cases k with
  | l => exact Draws.list hh it a hne its
  | t => exact Draws.tuple hh it a hne its
theorem SK.objs (k : SK) {h : Heap} {it a : Addr} {i : Nat} (st : k.It h it a i) : ∃ o, h.get? it = some o ∧ ∀ v, o.data ≠ .cell v := by
  cases k with
  | l => obtain ⟨o, e, c, d⟩ := st; exact ⟨o, e, fun v z => by rw [d] at z; cases z⟩
  | t => obtain ⟨o, e, c, d⟩ := st; exact ⟨o, e, fun v z => by rw [d] at z; cases z⟩
theorem SK.at (k : SK) {h h' : Heap} {it a : Addr} {i : Nat} (st : k.It h it a i) (hk : ∀ o, h.get? it = some o → h'.get? it = some o) : k.It h' it a i := by
  cases k with
  | l => exact Heap.IsListIter.at st hk
  | t => exact Heap.IsTupleIter.at st hk
theorem SK.items (k : SK) {X : Cx} {pins σ H s a xs} (I : Inv X pins σ H s) (h : k.Sq X.K H a xs) : ∃ its : List Value, Vals xs its ∧ k.Is s.heap a its.toArray ∧ xs.length ≤ sizeLine := by
  cases k with
  | l => obtain ⟨its, r, p, z⟩ := I.list h; exact ⟨its, r, p.isList, z⟩
  | t => obtain ⟨its, r, p, z⟩ := I.tuple h; exact ⟨its, r, p, z⟩
theorem SK.inj (k : SK) {X : Cx} {pins σ H s a xs ys} (I : Inv X pins σ H s) (h : k.Sq X.K H a xs) (h' : k.Sq X.K H a ys) : xs = ys := by
  cases k with
  | l => exact I.list_inj h h'
  | t => exact I.tuple_inj h h'
theorem SK.lt (k : SK) {h : Heap} {a : Addr} {its : Array Value} (p : k.Is h a its) : a < h.objs.size := by
  cases k with
  | l => obtain ⟨o, e, _⟩ := p; exact Heap.lt_size e
  | t => obtain ⟨o, e, _⟩ := p; exact Heap.lt_size e
theorem SK.ne (k : SK) {X : Cx} {pins σ H s a xs e} (I : Inv X pins σ H s) (h : k.Sq X.K H a xs) (f : FpOk X pins H e) : a ≠ e := by
  have tr : ∀ o, H a = some o → a ≠ e := fun o h => ne_of_none h f.1
  have wr : ∀ o, X.K.lookup a = some o → a ≠ e := fun o h z => by
    subst z
    have hb := I.mod.kin a o h
    rcases f.2.2.2.1 with q | q
    · exact I.ok.noex a o hb q
    · exact absurd (Nat.lt_of_lt_of_le (Heap.lt_size (I.ok.bs a o hb).1) q) (Nat.lt_irrefl _)
  cases k with
  | l =>
    rcases h with (h | ⟨o, h⟩) | ⟨o, _, _, h, _⟩
    · exact tr _ h
    · exact tr _ h
    · exact wr _ h
  | t =>
    rcases h with (h | ⟨o, h⟩) | ⟨o, _, _, h, _⟩
    · exact tr _ h
    · exact tr _ h
    · exact wr _ h
/-! enumerate(list or tuple) -/
def IteK (k : SK) (K : PySem.W.Frag) (a : Addr) : It :=
  ⟨fun i H => ∃ (xs : List V) (x : V), k.Sq K H a xs ∧ xs[i]? = some x, fun i H v H' => ∃ T x, v = .ref T ∧ H T = none ∧ H' = upd H T (.tup [.int (i : Nat), x]) ∧ ∀ xs, k.Sq K H a xs → xs[i]? = some x, fun i H => ∃ xs : List V, k.Sq K H a xs ∧ xs.length = i⟩
theorem turn_enumK (k : SK) {P : Program} {w : World} {K : PySem.W.Frag} {elts : List Expr} {kk : Nat} {tpos : Pos} (a e it : Addr) :
    Turn P w K (.Tuple elts kk tpos) (IteK k K a) [e, it] e (fun i h => (∃ old, IsEnum h e it ((i : Nat) : Int) old) ∧ k.It h it a i ∧ e ≠ it) where
  mem := by simp
  obj := fun i h st b hb => by
    obtain ⟨⟨old, he⟩, hit, _⟩ := st
    have e' : b = e ∨ b = it := by simpa using hb
    rcases e' with z | z
    · rw [z]; exact ⟨_, he, fun v q => nomatch q⟩
    · rw [z]; exact k.objs hit
  keep := fun i h h' st kk => let ⟨⟨old, he⟩, hi, hne⟩ := st; ⟨⟨old, kk e (by simp) _ he⟩, k.at hi fun o q => kk it (by simp) o q, hne⟩
  item := by
    intro X hP hw hK hc i pins s σ H E I hf st hg
    subst hP hw hK
    obtain ⟨⟨old, he⟩, hit, hne⟩ := st
    obtain ⟨xs, x, hq, hx⟩ := hg
    obtain ⟨its, rv, p, hz⟩ := k.items I hq
    obtain ⟨u, hu, ru⟩ := rv.get hx
    have hel : e < s.heap.objs.size := Heap.lt_size he
    have hil : it < s.heap.objs.size := by obtain ⟨_, q, _⟩ := k.objs hit; exact Heap.lt_size q
    have ane := k.ne I hq (hf e (by simp))
    have ani := k.ne I hq (hf it (by simp))
    have hi' : i < its.toArray.size := by
      have := rv.length
      have := (List.getElem?_eq_some_iff.mp hx).1
      simp; omega
    refine wpAny_pyNext_enum_itemD (k.draws (A := X.A.in1) (I.ok.hd hc) it a ani its.toArray) he ⟨hit, p⟩ hi' hne (by simp [hne, ane.symm]) fun x' h' tk px ho st' hT hsz hk => ?_
    obtain ⟨hit', _⟩ := st'
    have ex : x' = u := by
      have q1 : its.toArray[i]? = some x' := px
      have q2 : its.toArray[i]? = some u := by simpa using hu
      rw [q2] at q1; exact (Option.some.inj q1).symm
    subst ex
    refine ⟨_, rfl, wpAny_letOwnedTupleGo_enum (s := { s with heap := h', toks := tk + 1 }) ho fun h'' he' sb => ?_⟩
    have hT2 : h''.get? s.heap.objs.size = some { cls := .type "tuple", data := .seq #[.int i tk, x'] } := (sb.2 _ (Nat.ne_of_gt hel)).trans hT
    have new : ObjOk X.prog X.w (upd H s.heap.objs.size (.tup [.int (i : Nat), x])) h'' s.heap.objs.size (.tup [.int (i : Nat), x]) :=
      ⟨by show 2 ≤ sizeLine; decide, [.int i tk, x'], .cons ⟨_, rfl⟩ (.cons ru .nil), ⟨_, hT2, rfl, _, rfl⟩⟩
    have I1 : Inv X pins σ (upd H s.heap.objs.size (.tup [.int (i : Nat), x])) { s with heap := h'', toks := tk + 1 } :=
      I.turnedNew (ch := [e, it]) (fun b ob hb q => (sb.2 b (fun z => hb (by simp [z]))).trans (hk b ob (fun z => hb (by simp [z])) (fun z => hb (by simp [z])) q)) hf (Nat.le_refl _) new
    refine ⟨.ref s.heap.objs.size, _, I1, rfl, ⟨_, x, rfl, I.hok.fresh (Nat.le_refl _), rfl, fun ys hy => by rw [k.inj I hy hq]; exact hx⟩, ⟨⟨x', ?_⟩, k.at hit' fun o q => (sb.2 it (Ne.symm hne)).trans q, hne⟩, fun b hb => ?_⟩
    · have e1 : ((i + 1 : Nat) : Int) = (i : Int) + 1 := by omega
      rw [e1]; exact he'
    · have hb' : b < s.heap.objs.size := by
        have e' : b = e ∨ b = it := by simpa using hb
        rcases e' with z | z
        · rw [z]; exact hel
        · rw [z]; exact hil
      rw [upd_ne (Nat.ne_of_lt hb')]
      exact (hf b hb).1
  done := by
    intro X hP hw hK hc i pins s σ H E I hf st hg
    subst hP hw hK
    obtain ⟨⟨old, he⟩, hit, hne⟩ := st
    obtain ⟨xs, hq, hx⟩ := hg
    obtain ⟨its, rv, p, hz⟩ := k.items I hq
    obtain ⟨f0, f1, f2, f3, f4, f5⟩ := hf it (by simp)
    have ani := k.ne I hq (hf it (by simp))
    have hl : its.toArray.size = i := by have := rv.length; simp; omega
    refine wpAny_pyNext_enum_endD (k.draws (A := X.A.in1) (I.ok.hd hc) it a ani its.toArray) he (by rw [hl]; exact ⟨hit, p⟩) fun h' eb => ⟨rfl, I.turned (t' := s.toks) (fun b o hb q => eb b o hb q) f0 f1 f3 f4 f5⟩
  self := fun A i s Q E st h => let ⟨⟨_, he⟩, _⟩ := st; wpAny_pyIter_enum he h
def SK.mk : SK → Addr → Obj
  | .l, a => { cls := .type "list_iterator", data := .fields #[.ref a, .int 0 0] }
  | .t, a => { cls := .type "tuple_iterator", data := .fields #[.ref a, .int 0 0] }
theorem SK.begins (k : SK) (a : Addr) (its : Array Value) : Begins (.ref a) (k.mk a) (fun h => k.Is h a its) := by
  cases k with
  | l => exact begins_list a its
  | t => exact begins_tuple a its
theorem SK.itNew (k : SK) {h : Heap} {it a : Addr} (e : h.get? it = some (k.mk a)) : k.It h it a 0 := by
  cases k with
  | l => exact ⟨_, e, rfl, rfl⟩
  | t => exact ⟨_, e, rfl, rfl⟩
set_option maxHeartbeats 1000000 in
theorem meets_enumerate_newB0 {v : Value} {o : Obj} {H : Heap → Prop} (B : Begins v o H) :
    Meets (Builtin.«enumerate.__new__» ⟨[.type "enumerate", v], []⟩) (fun _ R s => H s.heap ∧
      R (.ok (.ret (.ref (s.heap.push o).objs.size))) { s with heap := (s.heap.push o).push { cls := .type "enumerate", data := .fields #[.none, .bool false, .ref s.heap.objs.size, rawInt 0, .none, .none] } }) :=
  .of_wp fun prog w A R s h => by
    obtain ⟨hp, g, d, tk, os⟩ := s; obtain ⟨h1, h⟩ := h
    have hsub := sub_enumerate
    have q1 : ∀ {A' : Around} {E : Value → Shared → Prop} {Q : Value → Shared → Prop}, Q (.ref hp.objs.size) ⟨hp.push o, g, d, tk, os⟩ → wpAny (model prog w) A' (pyIter v) Q E ⟨hp, g, d, tk, os⟩ :=
      fun q => B.iter prog w _ _ ⟨hp, g, d, tk, os⟩ _ h1 q
    wp_walk using q1
    refine wpAny_stack_any fun st => wpAny_pure ?_
    split
    · rename_i c _ _ _ _ _
      cases (c == Value.type "enumerate")
      · wp_walk using q1
        exact ⟨_, rfl, h⟩
      · wp_walk using q1
        exact ⟨_, rfl, h⟩
    · wp_walk using q1
      exact ⟨_, rfl, h⟩
theorem enum_begins0 {prog : Program} {w : World} {A : Around} {E : Value → Shared → Prop} {s : Shared} {v : Value} {o : Obj} {H : Heap → Prop} {Q : Value → Shared → Prop} (B : Begins v o H) (h1 : H s.heap)
    (h : ∀ h', IsEnum h' (s.heap.objs.size + 1) s.heap.objs.size 0 .none → h'.get? s.heap.objs.size = some o → h'.objs.size = s.heap.objs.size + 2 →
      (∀ b o, s.heap.get? b = some o → h'.get? b = some o) → Q (.ref (s.heap.objs.size + 1)) { s with heap := h' }) :
    wpAny (model prog w) A (call (.type "enumerate") [v]) Q E s := by
  refine callType_new F.called_enumerate (by decide) (F.typeCall_enumerate_1 _) (F.newCall_enumerate_1 _) (fun obj => F.args_object_init_2 obj _) F.entry_enumerate_new
    (meets_enumerate_newB0 B) ⟨h1, ?_⟩
  have hz : (s.heap.push o).objs.size = s.heap.objs.size + 1 := Heap.size_push ..
  show _ ∧ _
  rw [hz]
  have he : IsEnum ((s.heap.push o).push { cls := .type "enumerate", data := .fields #[.none, .bool false, .ref s.heap.objs.size, rawInt 0, .none, .none] }) (s.heap.objs.size + 1) s.heap.objs.size 0 .none := by
    have := Heap.get?_push_size (s.heap.push o)
      (o := { cls := .type "enumerate", data := .fields #[.none, .bool false, .ref s.heap.objs.size, rawInt 0, .none, .none] }) rfl
    rw [hz] at this; exact this
  refine ⟨⟨_, he, rfl⟩, h _ he (Heap.get?_push_of_some _ (Heap.get?_push_size _ B.free)) (by rw [Heap.size_push, hz]) fun b o x => Heap.get?_push_of_some _ (Heap.get?_push_of_some _ x)⟩
def iEnumK (K : PySem.W.Frag) (ta : TA) : TI := fun σ H R => ta σ H fun vs H1 => ∃ k a xs, vs = [.ref a] ∧ SK.Sq k K H1 a xs ∧ R (IteK k K a) H1
theorem pi_enumK {X : Cx} {e : Expr} {ta : TA} {p pos tpos : Pos} {elts : List Expr} {kk : Nat} (hg : Gl X "enumerate") (hm : X.mg "enumerate" = none) (ha : PA X [e] ta) (hs : starEach [e] X.env = [(false, eval e X.env)]) :
    PI X (.Tuple elts kk tpos) (.Call (.Name "enumerate" p) [e] [] pos) (iEnumK X.K ta) := by
  refine ⟨fun pins s σ H R I h => ?_⟩
  refine Call_ (ld_blt I hg hm boot_enumerate (PyProof.Rows.callWith_type1 (thn (ha.run pos pins s σ H _ I h) fun us s1 ⟨vs, H1, I1, r1, q1⟩ => ?_) hs rfl))
  obtain ⟨k, a, xs, ex, hq, q⟩ := q1
  subst ex
  cases r1 with
  | cons r rr =>
    cases rr
    cases r
    obtain ⟨its, rv, p', hz⟩ := k.items I1 hq
    refine enum_begins0 (k.begins a its.toArray) p' fun h' he hit hsz hk => wpAny_pyIter_enum he ?_
    have I2 : Inv X pins σ H1 { s1 with heap := h' } := I1.kept (t' := s1.toks) hk
    refine ⟨s1.heap.objs.size + 1, [s1.heap.objs.size + 1, s1.heap.objs.size], _, _, H1, rfl, I2, turn_enumK k a (s1.heap.objs.size + 1) s1.heap.objs.size, ⟨⟨.none, he⟩, k.itNew hit, Nat.succ_ne_self _⟩, fun b hb => ?_, q⟩
    have e' : b = s1.heap.objs.size + 1 ∨ b = s1.heap.objs.size := by simpa using hb
    have hle : s1.heap.objs.size ≤ b := by
      rcases e' with z | z
      · rw [z]; exact Nat.le_add_right _ _
      · rw [z]; exact Nat.le_refl _
    exact I1.fpOk hle (I1.hok.fresh hle)
/-! zip of two, each a list or a tuple -/
def ItzK (k1 k2 : SK) (K : PySem.W.Frag) (a b : Addr) : It :=
  ⟨fun i H => ∃ (xs ys : List V) (x y : V), k1.Sq K H a xs ∧ k2.Sq K H b ys ∧ xs[i]? = some x ∧ ys[i]? = some y,
    fun i H v H' => ∃ T x y, v = .ref T ∧ H T = none ∧ H' = upd H T (.tup [x, y]) ∧ (∀ xs, k1.Sq K H a xs → xs[i]? = some x) ∧ ∀ ys, k2.Sq K H b ys → ys[i]? = some y,
    fun i H => ∃ xs ys : List V, k1.Sq K H a xs ∧ k2.Sq K H b ys ∧ i ≤ xs.length ∧ i ≤ ys.length ∧ (xs.length = i ∨ ys.length = i)⟩
structure Cells5 (z TI TO i1 i2 : Addr) : Prop where
  TIz : TI ≠ z
  TOz : TO ≠ z
  TITO : TI ≠ TO
  TIi1 : TI ≠ i1
  TIi2 : TI ≠ i2
  i1z : i1 ≠ z
  i2z : i2 ≠ z
  i1T : i1 ≠ TO
  i2T : i2 ≠ TO
  i12 : i1 ≠ i2
theorem Cells5.new (N : Nat) : Cells5 (N + 4) (N + 2) (N + 3) N (N + 1) where
  TIz := show (N + 2 : Nat) ≠ N + 4 by omega
  TOz := show (N + 3 : Nat) ≠ N + 4 by omega
  TITO := show (N + 2 : Nat) ≠ N + 3 by omega
  TIi1 := show (N + 2 : Nat) ≠ N by omega
  TIi2 := show (N + 2 : Nat) ≠ N + 1 by omega
  i1z := show (N : Nat) ≠ N + 4 by omega
  i2z := show (N + 1 : Nat) ≠ N + 4 by omega
  i1T := show (N : Nat) ≠ N + 3 by omega
  i2T := show (N + 1 : Nat) ≠ N + 3 by omega
  i12 := show (N : Nat) ≠ N + 1 by omega
theorem Cells5.sep {z TI TO i1 i2 a b : Addr} (C : Cells5 z TI TO i1 i2) (ha : ∀ c ∈ [z, TI, TO, i1, i2], a ≠ c) (hb : ∀ c ∈ [z, TI, TO, i1, i2], b ≠ c) : ZipSep2 z TI TO i1 i2 [i1, a] [i2, b] where
  TIz := C.TIz
  TOz := C.TOz
  TITO := C.TITO
  TIi1 := C.TIi1
  mem1 := by simp
  zf1 := by simp [C.i1z.symm, (ha z (by simp)).symm]
  Tf1 := by simp [C.i1T.symm, (ha TO (by simp)).symm]
  TIi2 := C.TIi2
  mem2 := by simp
  zf2 := by simp [C.i2z.symm, (hb z (by simp)).symm]
  Tf2 := by simp [C.i2T.symm, (hb TO (by simp)).symm]
  sep1_2 := by simp [C.i12, (hb i1 (by simp)).symm]
  sep2_1 := by simp [C.i12.symm, (ha i2 (by simp)).symm]
theorem turn_zipK (k1 k2 : SK) {P : Program} {w : World} {K : PySem.W.Frag} {elts : List Expr} {kk : Nat} {tpos : Pos} {a b z TI TO i1 i2 : Addr} (C : Cells5 z TI TO i1 i2) :
    Turn P w K (.Tuple elts kk tpos) (ItzK k1 k2 K a b) [z, TI, TO, i1, i2] z (fun i h => IsZip h z TI TO .none ∧ IsPair h TI (.ref i1) (.ref i2) ∧ (∃ x y, IsPair h TO x y) ∧ k1.It h i1 a i ∧ k2.It h i2 b i) where
  mem := by simp
  obj := fun i h st c hc => by
    obtain ⟨hz, hTI, ⟨x, y, hTO⟩, h1, h2⟩ := st
    have e' : c = z ∨ c = TI ∨ c = TO ∨ c = i1 ∨ c = i2 := by simpa using hc
    rcases e' with q | q | q | q | q
    · rw [q]; exact ⟨_, hz, fun v q => nomatch q⟩
    · rw [q]; exact ⟨_, hTI, fun v q => nomatch q⟩
    · rw [q]; exact ⟨_, hTO, fun v q => nomatch q⟩
    · rw [q]; exact k1.objs h1
    · rw [q]; exact k2.objs h2
  keep := fun i h h' st k => by
    obtain ⟨hz, hTI, ⟨x, y, hTO⟩, h1, h2⟩ := st
    exact ⟨k z (by simp) _ hz, k TI (by simp) _ hTI, ⟨x, y, k TO (by simp) _ hTO⟩, k1.at h1 fun o q => k i1 (by simp) o q, k2.at h2 fun o q => k i2 (by simp) o q⟩
  item := by
    intro X hP hw hK hc i pins s σ H E I hf st hg
    subst hP hw hK
    obtain ⟨hz, hTI, ⟨x0, y0, hTO⟩, h1, h2⟩ := st
    obtain ⟨xs, ys, x, y, hqx, hqy, hx, hy⟩ := hg
    obtain ⟨its, rv, p, _⟩ := k1.items I hqx
    obtain ⟨its2, rv2, p2, _⟩ := k2.items I hqy
    obtain ⟨u, hu, ru⟩ := rv.get hx
    obtain ⟨u2, hu2, ru2⟩ := rv2.get hy
    have hzl : z < s.heap.objs.size := Heap.lt_size hz
    have na : ∀ c ∈ [z, TI, TO, i1, i2], a ≠ c := fun c hc' => k1.ne I hqx (hf c hc')
    have nb : ∀ c ∈ [z, TI, TO, i1, i2], b ≠ c := fun c hc' => k2.ne I hqy (hf c hc')
    have hh := I.ok.hd hc
    have l1 : i < its.toArray.size := by
      have := rv.length
      have := (List.getElem?_eq_some_iff.mp hx).1
      simp; omega
    have l2 : i < its2.toArray.size := by
      have := rv2.length
      have := (List.getElem?_eq_some_iff.mp hy).1
      simp; omega
    refine wpAny_pyNext_zipD2_item (C.sep na nb) (k1.draws (A := X.A.in1) hh i1 a (na i1 (by simp)) its.toArray) (k2.draws (A := X.A.in1) hh i2 b (nb i2 (by simp)) its2.toArray) hz hTI hTO ⟨h1, p⟩ ⟨h2, p2⟩ l1 l2
      fun x1 x2 h' tk px py z' TO' st1 st2 hT hsz hk => ?_
    obtain ⟨h1', _⟩ := st1
    obtain ⟨h2', _⟩ := st2
    have e1 : x1 = u := by
      have q1 : its.toArray[i]? = some x1 := px
      have q2 : its.toArray[i]? = some u := by simpa using hu
      rw [q2] at q1; exact (Option.some.inj q1).symm
    have e2 : x2 = u2 := by
      have q1 : its2.toArray[i]? = some x2 := py
      have q2 : its2.toArray[i]? = some u2 := by simpa using hu2
      rw [q2] at q1; exact (Option.some.inj q1).symm
    subst e1 e2
    refine ⟨_, rfl, wpAny_letOwnedTupleGo_zip (s := { s with heap := h', toks := tk }) z' fun h'' z'' sb => ?_⟩
    have hT2 : h''.get? s.heap.objs.size = some { cls := .type "tuple", data := .seq #[x1, x2] } := (sb.2 _ (Nat.ne_of_gt hzl)).trans hT
    have new : ObjOk X.prog X.w (upd H s.heap.objs.size (.tup [x, y])) h'' s.heap.objs.size (.tup [x, y]) :=
      ⟨by show 2 ≤ sizeLine; decide, [x1, x2], .cons ru (.cons ru2 .nil), ⟨_, hT2, rfl, _, rfl⟩⟩
    have I1 : Inv X pins σ (upd H s.heap.objs.size (.tup [x, y])) { s with heap := h'', toks := tk } :=
      I.turnedNew (ch := [z, TI, TO, i1, i2]) (fun c o hb q => (sb.2 c (fun q' => hb (by simp [q']))).trans (hk c o (fun q' => hb (by simp [q'])) (fun q' => hb (by simp [q'])) (fun q' => hb (by simp [q'])) (fun q' => hb (by simp [q'])) q)) hf (Nat.le_refl _) new
    refine ⟨.ref s.heap.objs.size, _, I1, rfl, ⟨_, x, y, rfl, I.hok.fresh (Nat.le_refl _), rfl, fun l hl => by rw [k1.inj I hl hqx]; exact hx, fun l hl => by rw [k2.inj I hl hqy]; exact hy⟩, ⟨z'', ?_, ⟨x1, x2, ?_⟩, ?_, ?_⟩, fun c hcm => ?_⟩
    · exact (sb.2 _ C.TIz).trans (hk _ _ C.TIz C.TITO C.TIi1 C.TIi2 hTI)
    · exact (sb.2 _ C.TOz).trans TO'
    · exact k1.at h1' fun o q => (sb.2 _ C.i1z).trans q
    · exact k2.at h2' fun o q => (sb.2 _ C.i2z).trans q
    · have hlt : c < s.heap.objs.size := by
        have e' : c = z ∨ c = TI ∨ c = TO ∨ c = i1 ∨ c = i2 := by simpa using hcm
        rcases e' with q | q | q | q | q
        · rw [q]; exact hzl
        · rw [q]; exact Heap.lt_size hTI
        · rw [q]; exact Heap.lt_size hTO
        · rw [q]; obtain ⟨_, e1, _⟩ := k1.objs h1; exact Heap.lt_size e1
        · rw [q]; obtain ⟨_, e2, _⟩ := k2.objs h2; exact Heap.lt_size e2
      rw [upd_ne (Nat.ne_of_lt hlt)]
      exact (hf c hcm).1
  done := by
    intro X hP hw hK hc i pins s σ H E I hf st hg
    subst hP hw hK
    obtain ⟨hz, hTI, ⟨x0, y0, hTO⟩, h1, h2⟩ := st
    obtain ⟨xs, ys, hqx, hqy, hl1, hl2, hend⟩ := hg
    obtain ⟨its, rv, p, _⟩ := k1.items I hqx
    obtain ⟨its2, rv2, p2, _⟩ := k2.items I hqy
    have n1 := rv.length
    have n2 := rv2.length
    have na : ∀ c ∈ [z, TI, TO, i1, i2], a ≠ c := fun c hc' => k1.ne I hqx (hf c hc')
    have nb : ∀ c ∈ [z, TI, TO, i1, i2], b ≠ c := fun c hc' => k2.ne I hqy (hf c hc')
    have hh := I.ok.hd hc
    exact wpAny_pyNext_zipD2_end (C.sep na nb) (k1.draws (A := X.A.in1) hh i1 a (na i1 (by simp)) its.toArray) (k2.draws (A := X.A.in1) hh i2 b (nb i2 (by simp)) its2.toArray) hz hTI hTO ⟨h1, p⟩ ⟨h2, p2⟩ (by simp; omega) (by simp; omega) (by simp; omega)
      fun h' tk hk => ⟨rfl, I.turnedL (ch := [z, TI, TO, i1, i2]) (fun c o hb q =>
      hk c o (fun q' => hb (by simp [q'])) (fun q' => hb (by simp [q'])) (fun q' => hb (by simp [q'])) (fun q' => hb (by simp [q'])) q) hf⟩
  self := fun A i s Q E st h => wpAny_pyIter_zip st.1 h
def iZipK (K : PySem.W.Frag) (ta : TA) : TI := fun σ H R => ta σ H fun vs H1 => ∃ k1 k2 a b xs ys, vs = [.ref a, .ref b] ∧ SK.Sq k1 K H1 a xs ∧ SK.Sq k2 K H1 b ys ∧ R (ItzK k1 k2 K a b) H1
theorem pi_zipK {X : Cx} {e e2 : Expr} {ta : TA} {p pos tpos : Pos} {elts : List Expr} {kk : Nat} (hg : Gl X "zip") (hm : X.mg "zip" = none) (ha : PA X [e, e2] ta)
    (hs : starEach [e, e2] X.env = (false, eval e X.env) :: starEach [e2] X.env) (hpl : (backTo pos (starEach [e2] X.env)).any (·.1) = false) :
    PI X (.Tuple elts kk tpos) (.Call (.Name "zip" p) [e, e2] [] pos) (iZipK X.K ta) := by
  refine ⟨fun pins s σ H R I h => ?_⟩
  refine Call_ (ld_blt I hg hm PyProof.Rows.boot_zip (PyProof.Rows.callWith_type1 (thn (ha.run pos pins s σ H _ I h) fun us s1 ⟨vs, H1, I1, r1, q1⟩ => ?_) hs hpl))
  obtain ⟨k1, k2, a, b, xs, ys, ex, hqx, hqy, q⟩ := q1
  subst ex
  cases r1 with
  | cons r rr =>
    cases rr with
    | cons r' rr =>
      cases rr
      cases r
      cases r'
      obtain ⟨its, rv, p1, _⟩ := k1.items I1 hqx
      obtain ⟨its2, rv2, p2, _⟩ := k2.items I1 hqy
      refine zip_begins2 (k1.begins a its.toArray) (k2.begins b its2.toArray) p1 p2 fun h' hz hTI hTO h1 h2 hsz hk => wpAny_pyIter_zip hz ?_
      have I2 : Inv X pins σ H1 { s1 with heap := h' } := I1.kept (t' := s1.toks) hk
      refine ⟨s1.heap.objs.size + 4, [s1.heap.objs.size + 4, s1.heap.objs.size + 2, s1.heap.objs.size + 3, s1.heap.objs.size, s1.heap.objs.size + 1], _, _, H1, rfl, I2, turn_zipK k1 k2 (Cells5.new s1.heap.objs.size), ⟨hz, hTI, ⟨_, _, hTO⟩, k1.itNew h1, k2.itNew h2⟩, fun c hcm => ?_, q⟩
      have e' : c = s1.heap.objs.size + 4 ∨ c = s1.heap.objs.size + 2 ∨ c = s1.heap.objs.size + 3 ∨ c = s1.heap.objs.size ∨ c = s1.heap.objs.size + 1 := by simpa using hcm
      have hle : s1.heap.objs.size ≤ c := by
        rcases e' with z | z | z | z | z
        · rw [z]; exact Nat.le_add_right _ _
        · rw [z]; exact Nat.le_add_right _ _
        · rw [z]; exact Nat.le_add_right _ _
        · rw [z]; exact Nat.le_refl _
        · rw [z]; exact Nat.le_add_right _ _
      exact I1.fpOk hle (I1.hok.fresh hle)
end PD
namespace PD
open PySem PySem.Spec L2
section
variable {K : Frag} {Z : Act} {F H : Hp} {β : Bag} {δ : Env} {σ : St}
/-! ### changes of slots -/
theorem Rel.mk' {F' H' β' δ' σ'} (r : Rel K Z F β δ σ H) (p : Post Z.ob Z.F Z.H F' H' β') (len : δ'.length = σ'.length) (sl : ∀ (i : Nat) (s : Sl), δ'[i]? = some s → SlOk K Z F' H' σ'[i]? s) (dj : ∀ (i j : Nat) (d e : D), i ≠ j → δ'[i]? = some (.ow d) → δ'[j]? = some (.ow e) → σ'[i]? ≠ σ'[j]?) : Rel K Z F' β' δ' σ' H' := ⟨p.gr, p.fh, p.bg, len, sl, dj⟩
theorem Rel.pst (r : Rel K Z F β δ σ H) : Post Z.ob Z.F Z.H F H β := ⟨r.gr, r.fh, r.bg⟩
theorem rel_set (r : Rel K Z F β δ σ H) {i : Nat} {v : V} {d : D} (hv : Rp K F v d) : Rel K Z F β (δ.set i (.fr d)) (σ.set i (some v)) H := by
  refine ⟨r.gr, r.fh, r.bg, by simp [r.len], fun j s e => ?_, fun j k d1 d2 hn e1 e2 => ?_⟩
  · by_cases hj : i = j
    · subst hj
      by_cases hl : i < δ.length
      · rw [List.getElem?_set_self hl] at e
        cases e
        rw [List.getElem?_set_self (by rw [← r.len]; exact hl)]
        exact ⟨v, rfl, hv⟩
      · rw [List.getElem?_eq_none (by simpa using hl)] at e; cases e
    · rw [List.getElem?_set_ne hj] at e ⊢
      exact r.sl j s e
  · have h1 : i ≠ j := fun q => by
      subst q
      by_cases hl : i < δ.length
      · rw [List.getElem?_set_self hl] at e1; cases e1
      · rw [List.getElem?_eq_none (by simpa using hl)] at e1; cases e1
    have h2 : i ≠ k := fun q => by
      subst q
      by_cases hl : i < δ.length
      · rw [List.getElem?_set_self hl] at e2; cases e2
      · rw [List.getElem?_eq_none (by simpa using hl)] at e2; cases e2
    rw [List.getElem?_set_ne h1] at e1 ⊢
    rw [List.getElem?_set_ne h2] at e2 ⊢
    exact r.dj j k d1 d2 hn e1 e2
/-- a new object of one's own -/
theorem rel_own (r : Rel K Z F β δ σ H) {i : Nat} {p : Addr} {d : D} (hz : Z.H p = none) (hf : F p = none) (hb : Z.ob ≠ some p) (ho : OwnAt K F H p d) (hs : ∀ (j : Nat) (e : D), δ[j]? = some (.ow e) → σ[j]? ≠ some (some (.ref p))) : Rel K Z F β (δ.set i (.ow d)) (σ.set i (some (.ref p))) H := by
  refine ⟨r.gr, r.fh, r.bg, by simp [r.len], fun j s e => ?_, fun j k d1 d2 hn e1 e2 => ?_⟩
  · by_cases hj : i = j
    · subst hj
      by_cases hl : i < δ.length
      · rw [List.getElem?_set_self hl] at e
        cases e
        rw [List.getElem?_set_self (by rw [← r.len]; exact hl)]
        exact ⟨p, rfl, hf, hz, hb, ho⟩
      · rw [List.getElem?_eq_none (by simpa using hl)] at e; cases e
    · rw [List.getElem?_set_ne hj] at e ⊢
      exact r.sl j s e
  · have lt : i = j ∨ i = k → i < δ.length := fun q => by
      by_cases hl : i < δ.length
      · exact hl
      · rcases q with q | q
        · rw [List.getElem?_eq_none (by rw [List.length_set]; omega)] at e1; cases e1
        · rw [List.getElem?_eq_none (by rw [List.length_set]; omega)] at e2; cases e2
    by_cases h1 : i = j
    · have hl := lt (.inl h1)
      subst h1
      rw [List.getElem?_set_ne hn] at e2 ⊢
      rw [List.getElem?_set_self (by rw [← r.len]; exact hl)]
      exact fun q => hs k d2 e2 q.symm
    · by_cases h2 : i = k
      · have hl := lt (.inr h2)
        subst h2
        rw [List.getElem?_set_ne h1] at e1 ⊢
        rw [List.getElem?_set_self (by rw [← r.len]; exact hl)]
        exact fun q => hs j d1 e1 q
      · rw [List.getElem?_set_ne h1] at e1 ⊢
        rw [List.getElem?_set_ne h2] at e2 ⊢
        exact r.dj j k d1 d2 hn e1 e2
/-- the slots of a block's own names -/
def wipeD (δ : Env) : List Nat → Env
  | [] => δ
  | v :: vs => (wipeD δ vs).set v .no
theorem wipeD_len (δ : Env) : ∀ vs, (wipeD δ vs).length = δ.length
  | [] => rfl
  | v :: vs => by unfold wipeD; rw [List.length_set, wipeD_len δ vs]
theorem wipeD_get {δ : Env} {i : Nat} {s : Sl} : ∀ {vs : List Nat}, (wipeD δ vs)[i]? = some s → s = .no ∨ (δ[i]? = some s ∧ i ∉ vs)
  | [], h => .inr ⟨h, by simp⟩
  | v :: vs, h => by
    unfold wipeD at h
    by_cases hv : v = i
    · subst hv
      by_cases hl : v < (wipeD δ vs).length
      · rw [List.getElem?_set_self hl] at h; cases h; exact .inl rfl
      · rw [List.getElem?_eq_none (by simpa using hl)] at h; cases h
    · rw [List.getElem?_set_ne hv] at h
      rcases wipeD_get h with q | ⟨q1, q2⟩
      · exact .inl q
      · exact .inr ⟨q1, by simp [q2]; exact fun e => hv e.symm⟩
theorem wipe_out' {σ : St} {i : Nat} : ∀ {vs : List Nat}, i ∉ vs → (wipe σ vs)[i]? = σ[i]?
  | [], _ => rfl
  | v :: vs, h => by
    unfold wipe
    rw [List.getElem?_set_ne (fun e => h (by simp [e]))]
    exact wipe_out' fun q => h (List.mem_cons_of_mem _ q)
theorem wipe_get {σ : St} {i : Nat} : ∀ (vs : List Nat), (wipe σ vs)[i]? = if i ∈ vs then (σ[i]?).map (fun _ => none) else σ[i]?
  | [] => by simp [wipe]
  | v :: vs => by
    unfold wipe
    by_cases hv : v = i
    · subst hv
      rw [if_pos List.mem_cons_self]
      by_cases hl : v < (wipe σ vs).length
      · rw [List.getElem?_set_self hl]
        rw [wipe_length] at hl
        rw [List.getElem?_eq_getElem hl]; rfl
      · rw [List.getElem?_eq_none (by simpa using hl)]
        rw [wipe_length] at hl
        rw [List.getElem?_eq_none (by omega)]; rfl
    · rw [List.getElem?_set_ne hv, wipe_get vs]
      by_cases hi : i ∈ vs
      · rw [if_pos hi, if_pos (List.mem_cons_of_mem _ hi)]
      · rw [if_neg hi, if_neg (by simp [hi]; exact fun e => hv e.symm)]
theorem wipe_eq {σ σ' : St} {vs : List Nat} (hl : σ'.length = σ.length) (h : ∀ j, j ∉ vs → σ'[j]? = σ[j]?) : wipe σ' vs = wipe σ vs := by
  apply List.ext_getElem?
  intro i
  rw [wipe_get, wipe_get]
  by_cases hi : i ∈ vs
  · rw [if_pos hi, if_pos hi]
    by_cases hli : i < σ.length
    · rw [List.getElem?_eq_getElem hli, List.getElem?_eq_getElem (by omega)]; rfl
    · rw [List.getElem?_eq_none (by omega), List.getElem?_eq_none (by omega)]
  · rw [if_neg hi, if_neg hi, h i hi]
theorem rel_wipe (r : Rel K Z F β δ σ H) (vs : List Nat) : Rel K Z F β (wipeD δ vs) (wipe σ vs) H := by
  refine ⟨r.gr, r.fh, r.bg, by rw [wipeD_len, wipe_length, r.len], fun j s e => ?_, fun j k d1 d2 hn e1 e2 => ?_⟩
  · rcases wipeD_get e with q | ⟨q1, q2⟩
    · subst q; trivial
    · rw [wipe_out' q2]; exact r.sl j s q1
  · rcases wipeD_get e1 with q | ⟨q1, q2⟩
    · cases q
    · rcases wipeD_get e2 with q | ⟨q3, q4⟩
      · cases q
      · rw [wipe_out' q2, wipe_out' q4]; exact r.dj j k d1 d2 hn q1 q3
/-- an owned object is frozen -/
def frz1 (δ : Env) (i : Nat) : Env := match δ[i]? with
  | some (.ow d) => δ.set i (.fr d)
  | _ => δ
def frz : List Nat → Env → Env
  | [], δ => δ
  | i :: is, δ => frz is (frz1 δ i)
theorem rel_frz1 (r : Rel K Z F β δ σ H) {i : Nat} {d : D} (e : δ[i]? = some (.ow d)) : ∃ F', Same F F' ∧ Rel K Z F' β (δ.set i (.fr d)) σ H := by
  obtain ⟨o, e1, f, z, b, w⟩ := r.sl i _ e
  obtain ⟨u, hu⟩ := w.there
  have sm : Same F (upd F o u) := same_upd1 f
  have hr : Rp K (upd F o u) (.ref o) d := by
    cases d with
    | list ds =>
      obtain ⟨xs, h1, h2⟩ := w
      rw [h1] at hu; cases hu
      exact .dp (.lst upd_same (dpAll_mono sm _ _ h2))
    | dict ds =>
      obtain ⟨ob, h1, h2⟩ := w
      rw [h1] at hu; cases hu
      exact .dic upd_same (dicO_mono sm h2)
    | _ => exact w.elim
  have hi : i < δ.length := (List.getElem?_eq_some_iff.mp e).1
  refine ⟨_, sm, ⟨⟨r.gr.fs.trans sm, fun a o' ha hh => ?_, r.gr.kp, r.gr.dm⟩, fun a o' q => ?_, fun a q => ?_, by simp [r.len], fun j s q => ?_, fun j k d1 d2 hn q1 q2 => ?_⟩⟩
  · rw [upd_ne (ne_of_none hh z)]; exact r.gr.nw a o' ha hh
  · by_cases ha : a = o
    · subst ha; rw [upd_same] at q; cases q; exact hu
    · rw [upd_ne ha] at q; exact r.fh _ _ q
  · have hao : a ≠ o := fun x => b (by rw [q, x])
    have := r.bg a q
    rw [upd_ne hao]; exact this
  · by_cases hj : i = j
    · subst hj
      rw [List.getElem?_set_self hi] at q
      cases q
      exact ⟨_, e1, hr⟩
    · rw [List.getElem?_set_ne hj] at q
      have h0 := r.sl j s q
      cases s with
      | no => trivial
      | fr d' => obtain ⟨v, a1, a2⟩ := h0; exact ⟨v, a1, a2.mono sm⟩
      | ow d' =>
        obtain ⟨o', a1, a2, a3, a4, a5⟩ := h0
        have ne : o' ≠ o := fun x => by
          subst x
          exact r.dj i j d d' hj e q (by rw [e1, a1])
        exact ⟨o', a1, by rw [upd_ne ne]; exact a2, a3, a4, a5.move sm fun _ x => x⟩
      | bg => exact h0
      | sc ns => exact h0
  · have h1 : i ≠ j := fun x => by subst x; rw [List.getElem?_set_self hi] at q1; cases q1
    have h2 : i ≠ k := fun x => by subst x; rw [List.getElem?_set_self hi] at q2; cases q2
    rw [List.getElem?_set_ne h1] at q1
    rw [List.getElem?_set_ne h2] at q2
    exact r.dj j k d1 d2 hn q1 q2
theorem rel_frz : ∀ (is : List Nat) {F : Hp} {δ : Env} (r : Rel K Z F β δ σ H), ∃ F', Same F F' ∧ Rel K Z F' β (frz is δ) σ H
  | [], F, δ, r => ⟨F, Same.refl _, r⟩
  | i :: is, F, δ, r => by
    show ∃ F', Same F F' ∧ Rel K Z F' β (frz is (frz1 δ i)) σ H
    unfold frz1
    split
    · rename_i d e
      obtain ⟨F1, s1, r1⟩ := rel_frz1 r e
      obtain ⟨F2, s2, r2⟩ := rel_frz is r1
      exact ⟨F2, s1.trans s2, r2⟩
    · exact rel_frz is r
/-- an owned object changes -/
theorem rel_mut (r : Rel K Z F β δ σ H) {i : Nat} {d d' : D} {o : Addr} {u : HO} (e : δ[i]? = some (.ow d)) (es : σ[i]? = some (some (.ref o))) (hn : OwnAt K F (upd H o u) o d') : Rel K Z F β (δ.set i (.ow d')) σ (upd H o u) := by
  obtain ⟨o1, e1, f, z, b, w⟩ := r.sl i _ e
  rw [es] at e1; cases e1
  obtain ⟨u0, hu⟩ := w.there
  have hi : i < δ.length := (List.getElem?_eq_some_iff.mp e).1
  refine ⟨⟨r.gr.fs, r.gr.nw, fun a o' hh hb => ?_, fun a o' hh => ?_⟩, fun a o' q => ?_, fun a q => ?_, by simp [r.len], fun j s q => ?_, fun j k d1 d2 hn' q1 q2 => ?_⟩
  · rw [upd_ne (ne_of_none hh z)]; exact r.gr.kp a o' hh hb
  · rw [upd_ne (ne_of_none hh z)]; exact r.gr.dm a o' hh
  · rw [upd_ne (ne_of_none q f)]; exact r.fh _ _ q
  · have hao : a ≠ o := fun x => b (by rw [q, x])
    have := r.bg a q
    rw [upd_ne hao]; exact this
  · by_cases hj : i = j
    · subst hj
      rw [List.getElem?_set_self hi] at q
      cases q
      exact ⟨o, es, f, z, b, hn⟩
    · rw [List.getElem?_set_ne hj] at q
      have h0 := r.sl j s q
      cases s with
      | no => trivial
      | fr d' => exact h0
      | ow d2 =>
        obtain ⟨o', a1, a2, a3, a4, a5⟩ := h0
        have ne : o' ≠ o := fun x => by
          subst x
          exact r.dj i j d d2 hj e q (by rw [es, a1])
        exact ⟨o', a1, a2, a3, a4, a5.move (Same.refl _) fun x hx => by rw [upd_ne ne]; exact hx⟩
      | bg => exact h0
      | sc ns => exact h0
  · by_cases h1 : i = j
    · by_cases h2 : i = k
      · exact absurd (h1.symm.trans h2) hn'
      · subst h1
        rw [List.getElem?_set_ne h2] at q2
        exact r.dj i k d d2 hn' e q2
    · by_cases h2 : i = k
      · subst h2
        rw [List.getElem?_set_ne h1] at q1
        exact r.dj j i d1 d hn' q1 e
      · rw [List.getElem?_set_ne h1] at q1
        rw [List.getElem?_set_ne h2] at q2
        exact r.dj j k d1 d2 hn' q1 q2
end
end PD
namespace PD
open PySem PySem.Spec L2
/-! ### sources of turns -/
structure Wk (K : Frag) (J : It) (F : Hp) (S : Hp → Prop) (ds : List D) : Prop where
  goes : ∀ i F1 H1, i < ds.length → Same F F1 → Same F1 H1 → S H1 → J.go i H1
  stops : ∀ F1 H1, Same F F1 → Same F1 H1 → S H1 → J.stop ds.length H1
  yields : ∀ i F1 H1 x H2 d, ds[i]? = some d → Same F F1 → Same F1 H1 → S H1 → J.yld i H1 x H2 →
    (H2 = H1 ∧ Rp K F1 x d) ∨ ∃ p o, H1 p = none ∧ H2 = upd H1 p o ∧ Rp K (upd F1 p o) x d
/-- br: a comprehension's source (it may be an owned object); otherwise it is frozen -/
def Stab (br : Bool) (ob : Option Addr) (F H : Hp) (S : Hp → Prop) : Prop := (br = true → ∀ F1 H1, Gr ob F H F1 H1 → S H1) ∧ (br = false → ∀ H1, S H1)
def tI (K : Frag) (br : Bool) (f : FA) : TI := fun σ H R => ∃ Z F β δ ds β', Rel K Z F β δ σ H ∧ f δ β = some (ds, β') ∧ ∀ J F' H' S, Post Z.ob F H F' H' β' → Wk K J F' S ds → Stab br Z.ob F' H' S → R J H'
def DI (br : Bool) (Γ : Ctx) (tg e : Expr) (f : FA) : Prop := ∀ X, Good Γ X → PI X tg e (tI (un X) br f)
def Xv (br : Bool) (K : Frag) (ob : Option Addr) (F H : Hp) (v : V) (d : D) : Prop := match br with
  | true => Bv K ob F H v d
  | false => Rp K F v d
inductive XvAll (br : Bool) (K : Frag) (ob : Option Addr) (F H : Hp) : List V → List D → Prop
  | nil : XvAll br K ob F H [] []
  | cons {v d vs ds} : Xv br K ob F H v d → XvAll br K ob F H vs ds → XvAll br K ob F H (v :: vs) (d :: ds)
def tX (br : Bool) (K : Frag) (f : FE) : TE := fun σ H Q => ∃ Z F β δ d β', Rel K Z F β δ σ H ∧ f δ β = some (d, β') ∧ ∀ v F' H', Post Z.ob F H F' H' β' → Xv br K Z.ob F' H' v d → Q v H'
def tXr (br : Bool) (K : Frag) (f : FA) : TA := fun σ H Q => ∃ Z F β δ ds β', Rel K Z F β δ σ H ∧ f δ β = some (ds, β') ∧ ∀ vs F' H', Post Z.ob F H F' H' β' → XvAll br K Z.ob F' H' vs ds → Q vs H'
def DX (br : Bool) (Γ : Ctx) (e : Expr) (f : FE) : Prop := ∀ X, Good Γ X → PE X e (tX br (un X) f)
def DXA (br : Bool) (Γ : Ctx) (es : List Expr) (f : FA) : Prop := ∀ X, Good Γ X → PA X es (tXr br (un X) f)
section
variable {K : Frag} {Γ : Ctx} {pos : Pos} {br : Bool}
theorem Xv.post {ob F H F' H' β v d} (h : Xv br K ob F H v d) (p : Post ob F H F' H' β) : Xv br K ob F' H' v d := by
  cases br with
  | true => exact Bv.post h p
  | false => exact Rp.mono p.gr.fs h
theorem Xv.b {ob F H v d} (h : Xv br K ob F H v d) : Bv K ob F H v d := by
  cases br with
  | true => exact h
  | false => exact .inl h
theorem DE.x {e : Expr} {f : FE} (h : DE Γ e f) : DX br Γ e f := fun X G => PE.weaken (h X G) fun σ H Q ⟨Z, F, β, δ, d, β', r, e1, q⟩ => ⟨Z, F, β, δ, d, β', r, e1, fun v F' H' p rv => q v F' H' p (by
  cases br with
  | true => exact .inl rv
  | false => exact rv)⟩
theorem DB.x {e : Expr} {f : FE} (h : DB Γ e f) : DX true Γ e f := h
theorem dxa_nil : DXA br Γ [] aNil := fun X G => PA.weaken pa_nil fun σ H Q ⟨Z, F, β, δ, d, β', rl, e, q⟩ => by
  cases e
  exact q [] F H rl.postR .nil
theorem dxa_cons {e : Expr} {es : List Expr} {f : FE} {g : FA} (h : DX br Γ e f) (k : DXA br Γ es g) (hp : plainE e = true) : DXA br Γ (e :: es) (aCons f g) := fun X G =>
  PA.weaken (pa_cons (h X G) (k X G) (star_plain hp es X.env)) fun σ H Q ⟨Z, F, β, δ, d, β', rl, e, q⟩ => by
    obtain ⟨⟨d0, β0⟩, e1, e⟩ := Option.bind_eq_some_iff.mp e
    obtain ⟨⟨ds, β1⟩, e2, e⟩ := Option.map_eq_some_iff.mp e
    cases e
    exact ⟨Z, F, β, δ, d0, β0, rl, e1, fun v F1 H1 p1 rv => ⟨Z, F1, β0, δ, ds, β1, rl.post p1, e2, fun vs F2 H2 p2 rvs => q _ F2 H2 (p1.trans p2) (.cons (rv.post p2) rvs)⟩⟩
def seqD : D → Option (List D)
  | .list ds => some ds
  | .tuple ds => some ds
  | _ => none
def kindD : D → SK
  | .list _ => .l
  | _ => .t
/-- an operand that is a list or a tuple, as a source -/
theorem xv_seq {ob F H v d ds} (h : Xv br K ob F H v d) (fh : Same F H) (e : seqD d = some ds) : ∃ (a : Addr) (xs : List V) (S : Hp → Prop), v = .ref a ∧ DqAll K F xs ds ∧ Stab br ob F H S ∧ S H ∧ (∀ F1 H1, Same F F1 → Same F1 H1 → S H1 → (kindD d).Sq K.K H1 a xs) := by
  have frz : Rp K F v d → ∃ (a : Addr) (xs : List V) (S : Hp → Prop), v = .ref a ∧ DqAll K F xs ds ∧ Stab br ob F H S ∧ S H ∧ (∀ F1 H1, Same F F1 → Same F1 H1 → S H1 → (kindD d).Sq K.K H1 a xs) := fun h => by
    cases d with
    | list l =>
      cases e
      obtain ⟨a, xs, rfl, h1, h2⟩ := dp_lst (h.plain rfl)
      exact ⟨a, xs, fun _ => True, rfl, h2, ⟨fun _ _ _ _ => trivial, fun _ _ => trivial⟩, trivial, fun F1 H1 s1 s2 _ => .of (s2 _ _ (s1 _ _ h1))⟩
    | tuple l =>
      cases e
      obtain ⟨a, xs, rfl, h1, h2⟩ := dp_tup (h.plain rfl)
      exact ⟨a, xs, fun _ => True, rfl, h2, ⟨fun _ _ _ _ => trivial, fun _ _ => trivial⟩, trivial, fun F1 H1 s1 s2 _ => same_seq (s1.trans s2) h1⟩
    | _ => cases e
  cases br with
  | false => exact frz h
  | true =>
    rcases h with h | ⟨o, rfl, hf, hb, w⟩
    · exact frz h
    · cases d with
      | list l =>
        cases e
        obtain ⟨xs, h1, h2⟩ := w
        exact ⟨o, xs, fun H1 => H1 o = some (.lst xs), rfl, h2, ⟨fun _ F1 H1 g => g.kp o _ h1 hb, fun q => by cases q⟩, h1, fun F1 H1 _ _ q => .of q⟩
      | tuple l => exact w.elim
      | _ => cases e
theorem DqAll.at {F : Hp} {vs : List V} {ds : List D} (h : DqAll K F vs ds) {i : Nat} {v : V} {d : D} (e : vs[i]? = some v) (e2 : ds[i]? = some d) : Dq K F v d := by
  obtain ⟨w, e3, hw⟩ := h.get e2
  rw [e] at e3; cases e3; exact hw
def sSeq (f : FE) : FA := fun δ β => (f δ β).bind fun x => (seqD x.1).map fun ds => (ds, x.2)
theorem di_seq {tg e : Expr} {f : FE} (h : DX br Γ e f) : DI br Γ tg e (sSeq f) := fun X G => by
  have P1 : PI X tg e (fun σ H R => iList X.K (tX br (un X) f) σ H R ∨ iTup X.K (tX br (un X) f) σ H R) := ⟨fun pins s σ H R I q => by
    rcases q with q | q
    · exact (pi_list (h X G)).run pins s σ H R I q
    · exact (pi_tup (h X G)).run pins s σ H R I q⟩
  refine PI.weaken P1 fun σ H R ⟨Z, F, β, δ, ds, β', rl, e, q⟩ => ?_
  obtain ⟨⟨d0, β0⟩, e1, e⟩ := Option.bind_eq_some_iff.mp e
  obtain ⟨ds', e2, e⟩ := Option.map_eq_some_iff.mp e
  cases e
  cases d0 with
  | list l =>
    refine .inl ⟨Z, F, β, δ, _, _, rl, e1, fun v F' H' p rv => ?_⟩
    obtain ⟨a, xs, S, rfl, hx, st, s0, sq⟩ := xv_seq rv p.fh e2
    refine ⟨a, rfl, ⟨xs, sq F' H' (Same.refl _) p.fh s0⟩, q _ F' H' S p ⟨fun i F1 H1 hi s1 s2 hs => ?_, fun F1 H1 s1 s2 hs => ?_, fun i F1 H1 x H2 d hd s1 s2 hs hy => ?_⟩ st⟩
    · have hi' : i < xs.length := by rw [hx.len]; exact hi
      exact ⟨xs, xs[i], sq F1 H1 s1 s2 hs, by simp [hi']⟩
    · exact ⟨xs, sq F1 H1 s1 s2 hs, Nat.le_of_eq hx.len⟩
    · obtain ⟨rfl, hy⟩ := hy
      exact .inl ⟨rfl, .dp (dp_mono s1 _ _ (hx.at (hy xs (sq F1 _ s1 s2 hs)) hd))⟩
  | tuple l =>
    refine .inr ⟨Z, F, β, δ, _, _, rl, e1, fun v F' H' p rv => ?_⟩
    obtain ⟨a, xs, S, rfl, hx, st, s0, sq⟩ := xv_seq rv p.fh e2
    refine ⟨a, rfl, ⟨xs, sq F' H' (Same.refl _) p.fh s0⟩, q _ F' H' S p ⟨fun i F1 H1 hi s1 s2 hs => ?_, fun F1 H1 s1 s2 hs => ?_, fun i F1 H1 x H2 d hd s1 s2 hs hy => ?_⟩ st⟩
    · have hi' : i < xs.length := by rw [hx.len]; exact hi
      exact ⟨xs, xs[i], sq F1 H1 s1 s2 hs, by simp [hi']⟩
    · exact ⟨xs, sq F1 H1 s1 s2 hs, Nat.le_of_eq hx.len⟩
    · obtain ⟨rfl, hy⟩ := hy
      exact .inl ⟨rfl, .dp (dp_mono s1 _ _ (hx.at (hy xs (sq F1 _ s1 s2 hs)) hd))⟩
  | _ => cases e2
theorem xva1 {ob F H vs d} (h : XvAll br K ob F H vs [d]) : ∃ v, vs = [v] ∧ Xv br K ob F H v d := by
  cases h with
  | cons h t => cases t; exact ⟨_, rfl, h⟩
theorem xva2 {ob F H vs d e} (h : XvAll br K ob F H vs [d, e]) : ∃ v w, vs = [v, w] ∧ Xv br K ob F H v d ∧ Xv br K ob F H w e := by
  cases h with
  | cons h t =>
    cases t with
    | cons h2 t => cases t; exact ⟨_, _, rfl, h, h2⟩
/-- range -/
def rangeD (lo : Int) (n : Nat) : List D := (List.range n).map fun i => .int (lo + (i : Nat))
theorem rangeD_len (lo : Int) (n : Nat) : (rangeD lo n).length = n := by simp [rangeD]
theorem rangeD_get {lo : Int} {n i : Nat} {d : D} (h : (rangeD lo n)[i]? = some d) : i < n ∧ d = .int (lo + (i : Nat)) := by
  unfold rangeD at h
  rw [List.getElem?_map] at h
  obtain ⟨j, h1, h2⟩ := Option.map_eq_some_iff.mp h
  rw [List.getElem?_eq_some_iff] at h1
  obtain ⟨h3, h4⟩ := h1
  rw [List.length_range] at h3
  rw [List.getElem_range] at h4
  subst h4
  exact ⟨h3, h2.symm⟩
def okR (i : Int) : Bool := decide (-(2 ^ 62) ≤ i) && decide (i < 2 ^ 62)
theorem okR_of {i : Int} (h : okR i = true) : -(2 ^ 62) ≤ i ∧ i < 2 ^ 62 := by
  unfold okR at h
  rw [Bool.and_eq_true] at h
  exact ⟨of_decide_eq_true h.1, of_decide_eq_true h.2⟩
theorem wk_range {F lo n} : Wk K (Itr lo n) F (fun _ => True) (rangeD lo n) :=
  ⟨fun i F1 H1 hi _ _ _ => by rw [rangeD_len] at hi; exact hi, fun F1 H1 _ _ _ => by rw [rangeD_len]; exact Nat.le_refl _, fun i F1 H1 x H2 d hd _ _ _ hy => by
    obtain ⟨h1, rfl⟩ := rangeD_get hd
    obtain ⟨rfl, rfl⟩ := hy
    exact .inl ⟨rfl, .dp (.int _)⟩⟩
theorem stab_true {ob F H} : Stab br ob F H (fun _ => True) := ⟨fun _ _ _ _ => trivial, fun _ _ => trivial⟩
def sRange1 (g : FA) : FA := fun δ β => (g δ β).bind fun x => match x.1 with
  | [.int n] => if okR n = true then some (rangeD 0 n.toNat, x.2) else none
  | _ => none
theorem di_range1 {tg a : Expr} {p : Pos} {g : FA} (hg : glK Γ.names "range" = true) (h : DXA true Γ [a] g) (hp : plainE a = true) : DI br Γ tg (.Call (.Name "range" p) [a] [] pos) (sRange1 g) := fun X G =>
  PI.weaken (pi_range1 (gl_of G hg) (G.bl _ (by decide +kernel)) (h X G) (by rw [star_plain hp]; rfl)) fun σ H R ⟨Z, F, β, δ, ds, β', rl, e, q⟩ => by
    obtain ⟨⟨ds0, β0⟩, e1, e⟩ := Option.bind_eq_some_iff.mp e
    dsimp only at e
    split at e
    · rename_i n
      split at e
      · rename_i hk
        cases e
        refine ⟨Z, F, β, δ, _, _, rl, e1, fun vs F' H' p1 rv => ?_⟩
        obtain ⟨v, rfl, hv⟩ := xva1 rv
        have hv := bv_int hv
        subst hv
        exact ⟨n, rfl, (okR_of hk).1, (okR_of hk).2, q _ F' H' _ p1 wk_range stab_true⟩
      · cases e
    · cases e
def sRange2 (g : FA) : FA := fun δ β => (g δ β).bind fun x => match x.1 with
  | [.int i, .int j] => if okR i = true ∧ okR j = true then some (rangeD i (j - i).toNat, x.2) else none
  | _ => none
theorem di_range2 {tg a b : Expr} {p : Pos} {g : FA} (hg : glK Γ.names "range" = true) (h : DXA true Γ [a, b] g) (hp : plainE a = true) (hp2 : plainE b = true) : DI br Γ tg (.Call (.Name "range" p) [a, b] [] pos) (sRange2 g) := fun X G =>
  PI.weaken (pi_range2 (gl_of G hg) (G.bl _ (by decide +kernel)) (h X G) (by rw [star_plain hp, star_plain hp2]; rfl) (by rw [star_plain hp2]; rfl)) fun σ H R ⟨Z, F, β, δ, ds, β', rl, e, q⟩ => by
    obtain ⟨⟨ds0, β0⟩, e1, e⟩ := Option.bind_eq_some_iff.mp e
    dsimp only at e
    split at e
    · rename_i i j
      split at e
      · rename_i hk
        cases e
        refine ⟨Z, F, β, δ, _, _, rl, e1, fun vs F' H' p1 rv => ?_⟩
        obtain ⟨v, w, rfl, hv, hw⟩ := xva2 rv
        have hv := bv_int hv
        have hw := bv_int hw
        subst hv hw
        exact ⟨i, j, rfl, ⟨(okR_of hk.1).1, (okR_of hk.1).2, (okR_of hk.2).1, (okR_of hk.2).2⟩, q _ F' H' _ p1 wk_range stab_true⟩
      · cases e
    · cases e
/-- enumerate -/
def pairsD : Nat → List D → List D
  | _, [] => []
  | i, d :: r => .tuple [.int (i : Nat), d] :: pairsD (i + 1) r
theorem pairsD_len : ∀ (i : Nat) (ds : List D), (pairsD i ds).length = ds.length
  | _, [] => rfl
  | i, d :: r => by simp [pairsD, pairsD_len (i + 1) r]
theorem pairsD_get : ∀ {k : Nat} {ds : List D} {i : Nat} {d : D}, (pairsD k ds)[i]? = some d → ∃ e, ds[i]? = some e ∧ d = .tuple [.int ((k + i : Nat) : Int), e]
  | _, [], i, d, h => by simp [pairsD] at h
  | k, e :: r, 0, d, h => by
    simp only [pairsD, List.getElem?_cons_zero, Option.some.injEq] at h
    exact ⟨e, rfl, h.symm⟩
  | k, e :: r, i + 1, d, h => by
    simp only [pairsD, List.getElem?_cons_succ] at h
    obtain ⟨e', h1, h2⟩ := pairsD_get h
    refine ⟨e', by simpa using h1, ?_⟩
    rw [h2]
    have : k + 1 + i = k + (i + 1) := by omega
    rw [this]
def sEnum (g : FA) : FA := fun δ β => (g δ β).bind fun x => match x.1 with
  | [d] => (seqD d).map fun ds => (pairsD 0 ds, x.2)
  | _ => none
theorem di_enum {elts : List Expr} {kk : Nat} {tpos : Pos} {a : Expr} {p : Pos} {g : FA} (hg : glK Γ.names "enumerate" = true) (h : DXA br Γ [a] g) (hp : plainE a = true) : DI br Γ (.Tuple elts kk tpos) (.Call (.Name "enumerate" p) [a] [] pos) (sEnum g) := fun X G =>
  PI.weaken (pi_enumK (gl_of G hg) (G.bl _ (by decide +kernel)) (h X G) (by rw [star_plain hp]; rfl)) fun σ H R ⟨Z, F, β, δ, ds, β', rl, e, q⟩ => by
    obtain ⟨⟨ds0, β0⟩, e1, e⟩ := Option.bind_eq_some_iff.mp e
    dsimp only at e
    split at e
    · rename_i d0
      obtain ⟨ds', e2, e⟩ := Option.map_eq_some_iff.mp e
      cases e
      refine ⟨Z, F, β, δ, _, _, rl, e1, fun vs F' H' p1 rv => ?_⟩
      obtain ⟨v, rfl, hv⟩ := xva1 rv
      obtain ⟨a, xs, S, rfl, hx, st, s0, sq⟩ := xv_seq hv p1.fh e2
      refine ⟨kindD d0, a, xs, rfl, sq F' H' (Same.refl _) p1.fh s0, q _ F' H' S p1 ⟨fun i F1 H1 hi s1 s2 hs => ?_, fun F1 H1 s1 s2 hs => ?_, fun i F1 H1 x H2 d hd s1 s2 hs hy => ?_⟩ st⟩
      · rw [pairsD_len] at hi
        have hi' : i < xs.length := by rw [hx.len]; exact hi
        exact ⟨xs, xs[i], sq F1 H1 s1 s2 hs, by simp [hi']⟩
      · rw [pairsD_len]
        exact ⟨xs, sq F1 H1 s1 s2 hs, hx.len⟩
      · obtain ⟨T, y, rfl, hn, rfl, hy⟩ := hy
        obtain ⟨e', h1, rfl⟩ := pairsD_get hd
        have sm : Same F1 (upd F1 T (.tup [.int (i : Nat), y])) := same_upd1 (s2.free hn)
        refine .inr ⟨T, _, hn, rfl, .dp (.tup (.of upd_same) ?_)⟩
        rw [Nat.zero_add]
        exact .cons (.int _) (.cons (dp_mono (s1.trans sm) _ _ (hx.at (hy xs (sq F1 _ s1 s2 hs)) h1)) .nil)
    · cases e
/-- zip -/
def zipD : List D → List D → List D
  | a :: r, b :: s => .tuple [a, b] :: zipD r s
  | _, _ => []
theorem zipD_len : ∀ (a b : List D), (zipD a b).length = min a.length b.length
  | [], _ => by simp [zipD]
  | _ :: _, [] => by simp [zipD]
  | a :: r, b :: s => by simp [zipD, zipD_len r s]
theorem zipD_get : ∀ {a b : List D} {i : Nat} {d : D}, (zipD a b)[i]? = some d → ∃ x y, a[i]? = some x ∧ b[i]? = some y ∧ d = .tuple [x, y]
  | [], _, _, _, h => by simp [zipD] at h
  | _ :: _, [], _, _, h => by simp [zipD] at h
  | a :: r, b :: s, 0, d, h => by
    simp only [zipD, List.getElem?_cons_zero, Option.some.injEq] at h
    exact ⟨a, b, rfl, rfl, h.symm⟩
  | a :: r, b :: s, i + 1, d, h => by
    simp only [zipD, List.getElem?_cons_succ] at h
    obtain ⟨x, y, h1, h2, h3⟩ := zipD_get h
    exact ⟨x, y, by simpa using h1, by simpa using h2, h3⟩
def sZip (g : FA) : FA := fun δ β => (g δ β).bind fun x => match x.1 with
  | [d, e] => (seqD d).bind fun ds => (seqD e).map fun es => (zipD ds es, x.2)
  | _ => none
theorem di_zip {elts : List Expr} {kk : Nat} {tpos : Pos} {a b : Expr} {p : Pos} {g : FA} (hg : glK Γ.names "zip" = true) (h : DXA br Γ [a, b] g) (hp : plainE a = true) (hp2 : plainE b = true) : DI br Γ (.Tuple elts kk tpos) (.Call (.Name "zip" p) [a, b] [] pos) (sZip g) := fun X G =>
  PI.weaken (pi_zipK (gl_of G hg) (G.bl _ (by decide +kernel)) (h X G) (star_plain hp _ _) (by rw [star_plain hp2]; rfl)) fun σ H R ⟨Z, F, β, δ, ds, β', rl, e, q⟩ => by
    obtain ⟨⟨ds0, β0⟩, e1, e⟩ := Option.bind_eq_some_iff.mp e
    dsimp only at e
    split at e
    · rename_i d0 d1
      obtain ⟨ds', e2, e⟩ := Option.bind_eq_some_iff.mp e
      obtain ⟨es', e3, e⟩ := Option.map_eq_some_iff.mp e
      cases e
      refine ⟨Z, F, β, δ, _, _, rl, e1, fun vs F' H' p1 rv => ?_⟩
      obtain ⟨v, w, rfl, hv, hw⟩ := xva2 rv
      obtain ⟨a, xs, S, rfl, hx, st, s0, sq⟩ := xv_seq hv p1.fh e2
      obtain ⟨b, ys, S', rfl, hy, st', s0', sq'⟩ := xv_seq hw p1.fh e3
      refine ⟨kindD d0, kindD d1, a, b, xs, ys, rfl, sq F' H' (Same.refl _) p1.fh s0, sq' F' H' (Same.refl _) p1.fh s0', q _ F' H' (fun H1 => S H1 ∧ S' H1) p1 ⟨fun i F1 H1 hi s1 s2 hs => ?_, fun F1 H1 s1 s2 hs => ?_, fun i F1 H1 x H2 d hd s1 s2 hs hz => ?_⟩ ⟨fun z F1 H1 g => ⟨st.1 z F1 H1 g, st'.1 z F1 H1 g⟩, fun z H1 => ⟨st.2 z H1, st'.2 z H1⟩⟩⟩
      · rw [zipD_len] at hi
        have h1 : i < xs.length := by rw [hx.len]; omega
        have h2 : i < ys.length := by rw [hy.len]; omega
        exact ⟨xs, ys, xs[i], ys[i], sq F1 H1 s1 s2 hs.1, sq' F1 H1 s1 s2 hs.2, by simp [h1], by simp [h2]⟩
      · rw [zipD_len]
        have l1 := hx.len
        have l2 := hy.len
        exact ⟨xs, ys, sq F1 H1 s1 s2 hs.1, sq' F1 H1 s1 s2 hs.2, by omega, by omega, by omega⟩
      · obtain ⟨T, x1, x2, rfl, hn, rfl, hy1, hy2⟩ := hz
        obtain ⟨x', y', h1, h2, rfl⟩ := zipD_get hd
        have sm : Same F1 (upd F1 T (.tup [x1, x2])) := same_upd1 (s2.free hn)
        refine .inr ⟨T, _, hn, rfl, .dp (.tup (.of upd_same) ?_)⟩
        exact .cons (dp_mono (s1.trans sm) _ _ (hx.at (hy1 xs (sq F1 _ s1 s2 hs.1)) h1)) (.cons (dp_mono (s1.trans sm) _ _ (hy.at (hy2 ys (sq' F1 _ s1 s2 hs.2)) h2)) .nil)
    · cases e

/-! ### targets -/
abbrev FG := D → Env → Option Env
def gNm (i : Nat) : FG := fun d δ => some (δ.set i (.fr d))
def tGd (K : Frag) (g : FG) (js : List Nat) : TG := fun v σ H Q => ∃ Z F β δ d δ', Rel K Z F β δ σ H ∧ Rp K F v d ∧ g d δ = some δ' ∧ ∀ σ', Rel K Z F β δ' σ' H → σ'.length = σ.length → (∀ j, j ∉ js → σ'[j]? = σ[j]?) → Q σ' H
def DG (Γ : Ctx) (tg : Expr) (g : FG) (js : List Nat) : Prop := ∀ X, Good Γ X → PG X tg (tGd (un X) g js)
theorem PG.weaken {X : Cx} {tg : Expr} {t t' : TG} (h : PG X tg t) (w : ∀ v σ H Q, t' v σ H Q → t v σ H Q) : PG X tg t' := ⟨fun pins s σ H v u Q I r q => h.run pins s σ H v u Q I r (w v σ H Q q)⟩
theorem PGs.weaken {X : Cx} {tg : List Expr} {t t' : TGs} (h : PGs X tg t) (w : ∀ v σ H Q, t' v σ H Q → t v σ H Q) : PGs X tg t' := ⟨fun pins s σ H v u Q I r q => h.run pins s σ H v u Q I r (w v σ H Q q)⟩
def locK (Γ : Ctx) (x : Str) : Bool := match Γ.names.lookup x with
  | some .local => true
  | some .cell => Γ.fn x
  | _ => false
theorem loc_of {X : Cx} (G : Good Γ X) {x : Str} (h : locK Γ x = true) : L2.Loc X.env.scope x ∧ (X.fn x = true ∨ X.env.scope.names.lookup x = some .local) := by
  unfold locK at h
  unfold L2.Loc
  rw [G.sc]
  split at h
  · rename_i q; exact ⟨.inl q, .inr q⟩
  · rename_i q; exact ⟨.inr q, .inl (G.fn x h)⟩
  · cases h
theorem dg_name {i : Nat} {x : Str} (hN : Γ.N[i]? = some x) (hl : locK Γ x = true) : DG Γ (.Name x pos) (gNm i) [i] := fun X G => by
  obtain ⟨h1, h2⟩ := loc_of G hl
  refine PG.weaken (pg_name G.nd (by rw [G.hN]; exact hN) h1 h2) fun v σ H Q ⟨Z, F, β, δ, d, δ', rl, rv, e, q⟩ => ?_
  cases e
  exact q _ (rel_set rl rv) (by simp) fun j hj => List.getElem?_set_ne (fun z => hj (by simp [z]))
/-- several targets -/
abbrev FGs := List D → Env → Option Env
def tGds (K : Frag) (g : FGs) (js : List Nat) : TGs := fun vs σ H Q => ∃ Z F β δ ds δ', Rel K Z F β δ σ H ∧ DqAll K F vs ds ∧ g ds δ = some δ' ∧ ∀ σ', Rel K Z F β δ' σ' H → σ'.length = σ.length → (∀ j, j ∉ js → σ'[j]? = σ[j]?) → Q σ' H
def DGs (Γ : Ctx) (tg : List Expr) (g : FGs) (js : List Nat) : Prop := ∀ X, Good Γ X → PGs X tg (tGds (un X) g js)
def gsNil : FGs := fun ds δ => match ds with
  | [] => some δ
  | _ => none
def gsCons (g : FG) (r : FGs) : FGs := fun ds δ => match ds with
  | d :: ds => (g d δ).bind fun δ1 => r ds δ1
  | [] => none
theorem dgs_nil : DGs Γ [] gsNil [] := fun X G => PGs.weaken pgs_nil fun vs σ H Q ⟨Z, F, β, δ, ds, δ', rl, rv, e, q⟩ => by
  unfold gsNil at e
  split at e
  · cases e
    cases rv
    exact ⟨rfl, q σ rl rfl fun _ _ => rfl⟩
  · cases e
theorem dgs_cons {e : Expr} {es : List Expr} {g : FG} {r : FGs} {js ks : List Nat} (h : DG Γ e g js) (k : DGs Γ es r ks) (hp : plainE e = true) : DGs Γ (e :: es) (gsCons g r) (js ++ ks) := fun X G => PGs.weaken (pgs_cons (h X G) (k X G) (assign_plain hp es X.env)) fun vs σ H Q ⟨Z, F, β, δ, ds, δ', rl, rv, e, q⟩ => by
  unfold gsCons at e
  split at e
  · obtain ⟨δ1, e1, e2⟩ := Option.bind_eq_some_iff.mp e
    cases rv with
    | cons h1 h2 =>
      refine ⟨_, _, rfl, Z, F, β, δ, _, δ1, rl, .dp h1, e1, fun σ1 r1 l1 k1 => ?_⟩
      exact ⟨Z, F, β, δ1, _, δ', r1, h2, e2, fun σ2 r2 l2 k2 => q σ2 r2 (l2.trans l1) fun j hj => (k2 j fun z => hj (List.mem_append_right _ z)).trans (k1 j fun z => hj (List.mem_append_left _ z))⟩
  · cases e
def gTp (r : FGs) (n : Nat) : FG := fun d δ => match d with
  | .tuple ds => if ds.length = n then r ds δ else none
  | _ => none
theorem assign_len : ∀ {es : List Expr} (env : PySem.Env), es.all plainE = true → (assignEach es env).length = es.length
  | [], _, _ => rfl
  | e :: es, env, h => by
    rw [List.all_cons, Bool.and_eq_true] at h
    have := congrArg List.length (assign_plain h.1 es env)
    simp only [List.length_map, List.length_cons] at this
    rw [List.length_cons, this, assign_len env h.2]
theorem assign_star : ∀ {es : List Expr} (env : PySem.Env), es.all plainE = true → (assignEach es env).findIdx? (·.1) = none
  | [], _, _ => rfl
  | e :: es, env, h => by
    rw [List.all_cons, Bool.and_eq_true] at h
    have ih := assign_star (es := es) env h.2
    cases e <;> first | (exact absurd h.1 Bool.false_ne_true) | (show (List.findIdx? (·.1) ((false, _) :: assignEach es env)) = none; rw [List.findIdx?_cons]; simp [ih])
theorem dg_tup {es : List Expr} {k : Nat} {r : FGs} {js : List Nat} (h : DGs Γ es r js) (hp : es.all plainE = true) : DG Γ (.Tuple es k pos) (gTp r es.length) js := fun X G =>
  PG.weaken (pg_tup G.calm (h X G) (assign_len X.env hp) (assign_star X.env hp)) fun v σ H Q ⟨Z, F, β, δ, d, δ', rl, rv, e, q⟩ => by
    unfold gTp at e
    split at e
    · split at e
      · rename_i hl
        obtain ⟨a, xs, rfl, h1, h2⟩ := dp_tup (rv.plain rfl)
        exact ⟨a, xs, rfl, same_seq rl.fh h1, by rw [h2.len]; exact hl, Z, F, β, δ, _, δ', rl, h2, e, q⟩
      · cases e
    · cases e
end
end PD
namespace PD
open PySem PySem.Spec L2
section
variable {K : Frag} {Γ : Ctx} {pos : Pos} {br : Bool}
/-! ### the block of a comprehension -/
def blkNames (Γ : Ctx) (scope : Scope) : List (Str × NameKind) := scope.names.map fun (n, k) => if (k == NameKind.free && (Γ.names.lookup n == some NameKind.cell)) = true then (n, NameKind.cell) else (n, k)
def Ctx.blk (Γ : Ctx) (scope : Scope) : Ctx := { Γ with names := blkNames Γ scope, fn := fun x => scope.names.lookup x == some .cell }
def dummy (names : List (Str × NameKind)) : Scope := { kind := .function, names := names, isGenerator := false, isCoroutine := false }
theorem blkOk_of {X : Cx} (G : Good Γ X) {scope : Scope} {own : List (Str × Nat)} (h : blkC Γ.N (dummy Γ.names) scope own = true) : BlkOk X.N X.env.scope scope own := by
  have b := blkOk_by h
  refine ⟨b.kind, b.uniq, ?_, fun y hy e => ?_, ?_⟩
  · rw [G.hN]; exact b.ix
  · rw [G.sc]; exact b.free y hy e
  · rw [G.hN]; exact b.own
theorem Good.blk {X : Cx} (G : Good Γ X) {scope : Scope} (hk : scope.kind = .function) (s : Shared) (H : Hp) (C : Addr) (cl : List (Str × Addr)) (fp : List Addr) : Good (Γ.blk scope) (X.blk s H scope (compEnvC scope cl C X.env) fp) where
  hN := G.hN
  nd := G.nd
  sc := by
    show (scope.names.map fun (n, k) => if (k == NameKind.free && X.env.scope.kind == ScopeKind.function && X.env.kindOf n == some NameKind.cell) = true then (n, NameKind.cell) else (n, k)) = _
    unfold Ctx.blk blkNames
    have e1 : (X.env.scope.kind == ScopeKind.function) = true := by rw [G.kind]; rfl
    refine List.map_congr_left fun x _ => ?_
    obtain ⟨n, k⟩ := x
    show (if (k == NameKind.free && X.env.scope.kind == ScopeKind.function && X.env.scope.names.lookup n == some NameKind.cell) = true then (n, NameKind.cell) else (n, k)) = _
    rw [e1, G.sc, Bool.and_true]
  kind := hk
  calm := G.calm
  xe := rfl
  fn := fun x h => h
  room := G.room
  bl := G.bl
  us := G.us
  cs := G.cs
  bgs := G.bgs
theorem blkC_kind {N sc scope own} (h : blkC N sc scope own = true) : scope.kind = .function := (blkOk_by h).kind
/-- the ifs of a clause -/
def DTs (Γ : Ctx) (ifs : List Expr) (f : FT) : Prop := ∀ X, Good Γ X → PTs X ifs (tTt (un X) f)
theorem PTs.weaken {X : Cx} {e : List Expr} {t t' : TT} (h : PTs X e t) (w : ∀ σ H Q, t' σ H Q → t σ H Q) : PTs X e t' := ⟨fun pins s σ H Q I q => h.run pins s σ H Q I (w σ H Q q)⟩
def tTrue : FT := fun _ β => some (true, β)
theorem dts_nil : DTs Γ [] tTrue := fun X G => PTs.weaken pts_nil fun σ H Q ⟨Z, F, β, δ, b, β', rl, e, q⟩ => by
  cases e
  exact q F H rl.postR
theorem dts_one {c : Expr} {f : FT} (h : DT Γ c f) : DTs Γ [c] f := fun X G => pts_one (h X G)
/-- the turns of a comprehension -/
def lcGo (g : FG) (t : FT) (e : FE) (δw : Env) : List D → Bag → Option (List D × Bag)
  | [], β => some ([], β)
  | d :: r, β => (g d δw).bind fun δ1 => (t δ1 β).bind fun b => if b.1 = true then (e δ1 b.2).bind fun y => if plainD y.1 = true then (lcGo g t e δw r y.2).map fun z => (y.1 :: z.1, z.2) else none else lcGo g t e δw r b.2
def lcF (s : FA) (g : FG) (t : FT) (e : FE) (vs : List Nat) : FA := fun δ β => (s δ β).bind fun x => if x.1.length ≤ 16777216 then lcGo g t e (wipeD δ vs) x.1 x.2 else none
theorem wipe_wipe (σ : St) (vs : List Nat) : wipe (wipe σ vs) vs = wipe σ vs := wipe_eq (wipe_length σ vs) fun j hj => wipe_out' hj
theorem Post.mutO {ob F H F1 H1 β D o} (p : Post ob F H F1 H1 β) (hn : H D = none) (hf : F1 D = none) (hb : ob ≠ some D) : Post ob F H F1 (upd H1 D o) β := by
  refine ⟨⟨p.gr.fs, p.gr.nw, fun a u hh hb' => ?_, fun a u hh => ?_⟩, fun b u e => ?_, fun b e => ?_⟩
  · rw [upd_ne (ne_of_none hh hn)]; exact p.gr.kp a u hh hb'
  · rw [upd_ne (ne_of_none hh hn)]; exact p.gr.dm a u hh
  · rw [upd_ne (ne_of_none e hf)]; exact p.fh b u e
  · have hne : b ≠ D := fun x => hb (by rw [e, x])
    have := p.bg b e
    rw [upd_ne hne]; exact this
theorem nd_fits {n : Nat} (h : n < 16777216) : n < sizeLine := by rw [sizeLine_eq]; exact h
theorem lc_of {X : Cx} {s : FA} {g : FG} {t : FT} {e : FE} {vs js : List Nat} (hj : ∀ j ∈ js, j ∈ vs) {σ H Q} (h : tFr (un X) (lcF s g t e vs) σ H Q) : tLc (tI (un X) true s) (tGd (un X) g js) (tTt (un X) t) (tD (un X) e) vs σ H Q := by
  obtain ⟨Z, F, β, δ, ds, β', rl, ef, q⟩ := h
  obtain ⟨⟨src, β0⟩, e1, e2⟩ := Option.bind_eq_some_iff.mp ef
  dsimp only at e2
  split at e2
  · rename_i hsz
    refine ⟨Z, F, β, δ, src, β0, rl, e1, fun J F' H' S p0 wk st Dl hD => ?_⟩
    have rl0 := rl.post p0
    have hFD : F' Dl = none := p0.fh.free hD
    have hbD : Z.ob ≠ some Dl := p0.ne hD
    have hHD : H Dl = none := by
      cases hq : H Dl with
      | none => rfl
      | some o => obtain ⟨o', e'⟩ := p0.gr.dm Dl o hq; rw [e'] at hD; cases hD
    -- the walk
    have w : Walk J src.length (fun H1 => ∃ F1, Same F' F1 ∧ Same F1 H1 ∧ S H1) (fun i H1 x H2 => ∀ F1 d, src[i]? = some d → Same F' F1 → Same F1 H1 → S H1 → (H2 = H1 ∧ Rp (un X) F1 x d) ∨ ∃ p o, H1 p = none ∧ H2 = upd H1 p o ∧ Rp (un X) (upd F1 p o) x d) :=
      ⟨fun i H1 hi ⟨F1, s1, s2, hs⟩ => wk.goes i F1 H1 hi s1 s2 hs, fun H1 ⟨F1, s1, s2, hs⟩ => wk.stops F1 H1 s1 s2 hs, fun i H1 x H2 hi _ hy F1 d hd s1 s2 hs => wk.yields i F1 H1 x H2 d hd s1 s2 hs hy⟩
    refine lc_it w (fun i H1 => ∃ F1 β1 acc dac rest, Post Z.ob F' H' F1 H1 β1 ∧ F1 Dl = none ∧ H1 Dl = some (.lst acc) ∧ DqAll (un X) F1 acc dac ∧ acc.length ≤ i ∧ lcGo g t e (wipeD δ vs) (src.drop i) β1 = some (rest, β') ∧ dac ++ rest = ds) ?_ ?_ ?_ ?_
    · exact ⟨F', β0, [], [], ds, (post0 p0.fh p0.bg).newO hD, hFD, upd_same, .nil, Nat.le_refl _, by rw [List.drop_zero]; exact e2, rfl⟩
    · rintro i H1 hi ⟨F1, β1, acc, dac, rest, p1, _⟩
      exact ⟨F1, p1.gr.fs, p1.fh, st.1 rfl F1 H1 p1.gr⟩
    · rintro i x H1 H2 hi ⟨F1, β1, acc, dac, rest, p1, hf1, hd1, ha1, hl1, hg1, hr1⟩ hy
      obtain ⟨d, hd⟩ : ∃ d, src[i]? = some d := ⟨src[i], by simp [hi]⟩
      have hdrop : src.drop i = d :: src.drop (i + 1) := by
        rw [List.drop_eq_getElem_cons hi]
        have : src[i] = d := by rw [List.getElem?_eq_getElem hi] at hd; exact Option.some.inj hd
        rw [this]
      rw [hdrop] at hg1
      obtain ⟨δ1, g1, hg1⟩ := Option.bind_eq_some_iff.mp hg1
      obtain ⟨⟨b, β2⟩, g2, hg1⟩ := Option.bind_eq_some_iff.mp hg1
      have hs1 := st.1 rfl F1 H1 p1.gr
      -- the item
      obtain ⟨F2, p2, hf2, hx2, hd2, sm2⟩ : ∃ F2, Post Z.ob F' H' F2 H2 β1 ∧ F2 Dl = none ∧ Rp (un X) F2 x d ∧ H2 Dl = some (.lst acc) ∧ Same F1 F2 := by
        rcases hy F1 d hd p1.gr.fs p1.fh hs1 with ⟨rfl, hx⟩ | ⟨p, o, hn, rfl, hx⟩
        · exact ⟨F1, p1, hf1, hx, hd1, Same.refl _⟩
        · have hne := ne_of_none hd1 hn
          exact ⟨upd F1 p o, p1.new hn, by rw [upd_ne hne]; exact hf1, hx, by rw [upd_ne hne]; exact hd1, same_upd1 (p1.fh.free hn)⟩
      have rl2 := rel_wipe (rl0.post p2) vs
      refine ⟨Z, F2, β1, wipeD δ vs, d, δ1, rl2, hx2, g1, fun σ1 r1 l1 k1 => ⟨?_, ?_⟩⟩
      · have := wipe_eq (σ := wipe σ vs) (σ' := σ1) (vs := vs) (l1) (fun j hj' => k1 j fun z => hj' (hj j z))
        rw [this, wipe_wipe]
      · refine ⟨Z, F2, β1, δ1, b, β2, r1, g2, fun F3 H3 p3 => ?_⟩
        have p3' := p2.trans p3
        have hd3 : H3 Dl = some (.lst acc) := p3.gr.kp Dl _ hd2 hbD
        have hf3 : F3 Dl = none := p3.gr.nw Dl _ hf2 hd2
        dsimp only at hg1
        split at hg1
        · rename_i hb
          show (if b = true then _ else _)
          rw [hb, if_pos rfl]
          obtain ⟨⟨y, β3⟩, g3, hg1⟩ := Option.bind_eq_some_iff.mp hg1
          dsimp only at hg1
          split at hg1
          · rename_i hpl
            obtain ⟨⟨zs, β4⟩, g4, hg1⟩ := Option.map_eq_some_iff.mp hg1
            cases hg1
            refine ⟨Z, F3, β2, δ1, y, β3, r1.post p3, g3, fun v F4 H4 p4 rv => ?_⟩
            have p4' := p3'.trans p4
            have hd4 : H4 Dl = some (.lst acc) := p4.gr.kp Dl _ hd3 hbD
            have hf4 : F4 Dl = none := p4.gr.nw Dl _ hf3 hd3
            refine ⟨acc, hd4, nd_fits (by omega), F4, β3, acc ++ [v], dac ++ [y], zs, p4'.mutO hD hf4 hbD, hf4, upd_same, ?_, ?_, g4, ?_⟩
            · have sm : Same F1 F4 := (sm2.trans p3.gr.fs).trans p4.gr.fs
              exact (dpAll_mono sm _ _ ha1).append (.cons (rv.plain hpl) .nil)
            · rw [List.length_append]; simp; omega
            · rw [← hr1, List.append_assoc]; rfl
          · cases hg1
        · rename_i hb
          show (if b = true then _ else _)
          rw [if_neg hb]
          exact ⟨F3, β2, acc, dac, rest, p3', hf3, hd3, dpAll_mono (sm2.trans p3.gr.fs) _ _ ha1, by omega, hg1, hr1⟩
    · rintro H1 ⟨F1, β1, acc, dac, rest, p1, hf1, hd1, ha1, hl1, hg1, hr1⟩
      rw [List.drop_length] at hg1
      cases hg1
      rw [List.append_nil] at hr1
      subst hr1
      exact q Dl acc F1 H1 (p0.trans p1) hHD hf1 hd1 ha1
  · cases e2
theorem df_lc {elt tg iter : Expr} {ifs : List Expr} {scope : Scope} {own : List (Str × Nat)} {s : FA} {g : FG} {t : FT} {e : FE} {js : List Nat} (hi : DI true Γ tg iter s) (hb : blkC Γ.N (dummy Γ.names) scope own = true) (hg : DG (Γ.blk scope) tg g js) (ht : DTs (Γ.blk scope) ifs t) (he : DE (Γ.blk scope) elt e)
    (hj : ∀ j ∈ js, j ∈ own.map (·.2)) (hp : plainE iter = true) : DF Γ (.ListComp elt [⟨tg, iter, ifs, 0⟩] scope pos) (lcF s g t e (own.map (·.2))) := fun X G => by
  have hk := blkC_kind hb
  exact PE.weaken (pe_lc G.calm G.nd (hi X G) (blkOk_of G hb) (fun s H C cl fp => hg _ (G.blk hk s H C cl fp)) (fun s H C cl fp => ht _ (G.blk hk s H C cl fp)) (fun s H C cl fp => he _ (G.blk hk s H C cl fp)) (fun x => folded_plain hp X.env x)) fun _ _ _ h => lc_of hj h
end
end PD
namespace PD
open PySem PySem.Spec L2
/-! ### statements -/
inductive Out where | nx | bk | ct | rt (d : D)
abbrev SF := Env → Bag → Option (Env × Bag × Out)
def OutOk (K : Frag) (Dn : Ends) (o : Out) (F : Hp) (σ : St) (H : Hp) : Prop := match o with
  | .nx => Dn.nx σ H
  | .bk => Dn.bk σ H
  | .ct => Dn.ct σ H
  | .rt d => ∀ v, Rp K F v d → Dn.rt v H
def tS (K : Frag) (S : SF) : TS := fun Dn σ H => ∃ Z F β δ δ' β' o, Rel K Z F β δ σ H ∧ S δ β = some (δ', β', o) ∧ ∀ F' σ' H', Same F F' → Rel K Z F' β' δ' σ' H' → OutOk K Dn o F' σ' H'
def DS (Γ : Ctx) (st : Stmt) (S : SF) : Prop := ∀ X, Good Γ X → PS X st (tS (un X) S)
def DSs (Γ : Ctx) (st : List Stmt) (S : SF) : Prop := ∀ X, Good Γ X → PSs X st (tS (un X) S)
section
variable {K : Frag} {Γ : Ctx} {pos : Pos} {br : Bool}
def sNx : SF := fun δ β => some (δ, β, .nx)
def sqS (S T : SF) : SF := fun δ β => (S δ β).bind fun r => match r.2.2 with
  | .nx => T r.1 r.2.1
  | o => some (r.1, r.2.1, o)
theorem dss_nil : DSs Γ [] sNx := fun X G => PSs.weaken pss_nil fun Dn σ H ⟨Z, F, β, δ, δ', β', o, rl, e, q⟩ => by
  cases e
  exact q F σ H (Same.refl _) rl
theorem dss_cons {st : Stmt} {rest : List Stmt} {S T : SF} (h : DS Γ st S) (k : DSs Γ rest T) : DSs Γ (st :: rest) (sqS S T) := fun X G => PSs.weaken (pss_cons (h X G) (k X G)) fun Dn σ H ⟨Z, F, β, δ, δ', β', o, rl, e, q⟩ => by
  obtain ⟨⟨δ1, β1, o1⟩, e1, e⟩ := Option.bind_eq_some_iff.mp e
  refine ⟨Z, F, β, δ, δ1, β1, o1, rl, e1, fun F1 σ1 H1 s1 r1 => ?_⟩
  cases o1 with
  | nx => exact ⟨Z, F1, β1, δ1, δ', β', o, r1, e, fun F2 σ2 H2 s2 r2 => q F2 σ2 H2 (s1.trans s2) r2⟩
  | bk => cases e; exact q F1 σ1 H1 s1 r1
  | ct => cases e; exact q F1 σ1 H1 s1 r1
  | rt d => cases e; exact q F1 σ1 H1 s1 r1
theorem ds_pass : DS Γ (.Pass pos) sNx := fun X G => PS.weaken ps_pass fun Dn σ H ⟨Z, F, β, δ, δ', β', o, rl, e, q⟩ => by
  cases e
  exact q F σ H (Same.refl _) rl
def sBk : SF := fun δ β => some (δ, β, .bk)
def sCt : SF := fun δ β => some (δ, β, .ct)
def sNone : SF := fun _ _ => none
theorem ds_break : DS Γ (.Break pos) sBk := fun X G => PS.weaken ps_break fun Dn σ H ⟨Z, F, β, δ, δ', β', o, rl, e, q⟩ => by
  cases e
  exact q F σ H (Same.refl _) rl
theorem ds_cont : DS Γ (.Continue pos) sCt := fun X G => PS.weaken ps_continue fun Dn σ H ⟨Z, F, β, δ, δ', β', o, rl, e, q⟩ => by
  cases e
  exact q F σ H (Same.refl _) rl
theorem ds_never {st : Stmt} : DS Γ st sNone := fun X G => PS.weaken ps_never fun Dn σ H ⟨Z, F, β, δ, δ', β', o, rl, e, q⟩ => by cases e
def sRet (f : FE) : SF := fun δ β => (f δ β).map fun x => (δ, x.2, .rt x.1)
theorem ds_ret {e : Expr} {f : FE} (h : DE Γ e f) : DS Γ (.Return (some e) pos) (sRet f) := fun X G => PS.weaken (ps_ret (h X G)) fun Dn σ H ⟨Z, F, β, δ, δ', β', o, rl, e, q⟩ => by
  obtain ⟨⟨d, β1⟩, e1, e⟩ := Option.map_eq_some_iff.mp e
  cases e
  exact ⟨Z, F, β, δ, d, _, rl, e1, fun v F1 H1 p1 rv => q F1 σ H1 p1.gr.fs (rl.post p1) v rv⟩
theorem ds_retN : DS Γ (.Return none pos) (sRet (dC .none)) := fun X G => PS.weaken ps_retN fun Dn σ H ⟨Z, F, β, δ, δ', β', o, rl, e, q⟩ => by
  cases e
  exact q F σ H (Same.refl _) rl _ (.dp .non)
def sIf (t : FT) (S T : SF) : SF := fun δ β => (t δ β).bind fun b => if b.1 = true then S δ b.2 else T δ b.2
theorem ds_if {c : Expr} {a b : List Stmt} {t : FT} {S T : SF} (hc : DT Γ c t) (ha : DSs Γ a S) (hb : DSs Γ b T) : DS Γ (.If c a b pos) (sIf t S T) := fun X G => PS.weaken (ps_if (hc X G) (ha X G) (hb X G)) fun Dn σ H ⟨Z, F, β, δ, δ', β', o, rl, e, q⟩ => by
  obtain ⟨⟨b0, β0⟩, e1, e⟩ := Option.bind_eq_some_iff.mp e
  refine ⟨Z, F, β, δ, b0, β0, rl, e1, fun F1 H1 p1 => ?_⟩
  dsimp only at e
  split at e
  · rename_i hb0
    rw [hb0, if_pos rfl]
    exact ⟨Z, F1, β0, δ, δ', β', o, rl.post p1, e, fun F2 σ2 H2 s2 r2 => q F2 σ2 H2 (p1.gr.fs.trans s2) r2⟩
  · rename_i hb0
    rw [if_neg hb0]
    exact ⟨Z, F1, β0, δ, δ', β', o, rl.post p1, e, fun F2 σ2 H2 s2 r2 => q F2 σ2 H2 (p1.gr.fs.trans s2) r2⟩
/-- an owned object is frozen ahead -/
theorem ds_frz {st : Stmt} {S : SF} (is : List Nat) (h : DS Γ st S) : DS Γ st (fun δ β => S (frz is δ) β) := fun X G => PS.weaken (h X G) fun Dn σ H ⟨Z, F, β, δ, δ', β', o, rl, e, q⟩ => by
  obtain ⟨F1, s1, r1⟩ := rel_frz is rl
  exact ⟨Z, F1, β, _, δ', β', o, r1, e, fun F2 σ2 H2 s2 r2 => q F2 σ2 H2 (s1.trans s2) r2⟩

/-! ### assignments -/
def sSet (i : Nat) (f : FE) : SF := fun δ β => (f δ β).map fun x => (δ.set i (.fr x.1), x.2, .nx)
theorem ds_set {i : Nat} {x : Str} {e : Expr} {p : Pos} {f : FE} (hN : Γ.N[i]? = some x) (hl : locK Γ x = true) (he : DE Γ e f) (hc : noComp e = true) : DS Γ (.Assign [.Name x p] e pos) (sSet i f) := fun X G => by
  obtain ⟨h1, h2⟩ := loc_of G hl
  refine PS.weaken (ps_set G.nd (by rw [G.hN]; exact hN) h1 (he X G) (swaps_no hc _ _ _) h2) fun Dn σ H ⟨Z, F, β, δ, δ', β', o, rl, e, q⟩ => ?_
  obtain ⟨⟨d, β1⟩, e1, e⟩ := Option.map_eq_some_iff.mp e
  cases e
  exact ⟨Z, F, β, δ, d, _, rl, e1, fun v F1 H1 p1 rv => q F1 _ H1 p1.gr.fs (rel_set (rl.post p1) rv)⟩
/-- a new list of one's own -/
def sSetO (i : Nat) (f : FA) : SF := fun δ β => (f δ β).map fun x => (δ.set i (.ow (.list x.1)), x.2, .nx)
theorem own_new {Z : Act} {F H : Hp} {β : Bag} {δ : Env} {σ : St} {F1 H1 : Hp} {β1 : Bag} {p : Addr} {d : D} (rl : Rel K Z F β δ σ H) (p1 : Post Z.ob F H F1 H1 β1) (hn : H p = none) (hf : F1 p = none) (ho : OwnAt K F1 H1 p d) (i : Nat) : Rel K Z F1 β1 (δ.set i (.ow d)) (σ.set i (some (.ref p))) H1 := by
  have hz : Z.H p = none := by
    cases hq : Z.H p with
    | none => rfl
    | some o => obtain ⟨o', e'⟩ := rl.gr.dm p o hq; rw [e'] at hn; cases hn
  refine rel_own (rl.post p1) hz hf (fun e => ?_) ho fun j e hj hs => ?_
  · obtain ⟨_, h⟩ := rl.bg p e
    rw [h] at hn; cases hn
  · obtain ⟨o, e1, _, _, _, w⟩ := rl.sl j _ hj
    rw [hs] at e1; cases e1
    obtain ⟨u, hu⟩ := w.there
    rw [hu] at hn; cases hn
theorem ds_setO {i : Nat} {x : Str} {e : Expr} {p : Pos} {f : FA} (hN : Γ.N[i]? = some x) (hl : locK Γ x = true) (he : DF Γ e f) (hc : noComp e = true) : DS Γ (.Assign [.Name x p] e pos) (sSetO i f) := fun X G => by
  obtain ⟨h1, h2⟩ := loc_of G hl
  refine PS.weaken (ps_set G.nd (by rw [G.hN]; exact hN) h1 (he X G) (swaps_no hc _ _ _) h2) fun Dn σ H ⟨Z, F, β, δ, δ', β', o, rl, e, q⟩ => ?_
  obtain ⟨⟨d, β1⟩, e1, e⟩ := Option.map_eq_some_iff.mp e
  cases e
  exact ⟨Z, F, β, δ, d, _, rl, e1, fun pa xs F1 H1 p1 hn hf hp hx => q F1 _ H1 p1.gr.fs (own_new (d := .list _) rl p1 hn hf ⟨xs, hp, hx⟩ i)⟩
def swOk (Γ : Ctx) (scope : Scope) (pos py : Pos) (y : Str) : Bool := (Γ.names.lookup y == some NameKind.local) && (py.line == pos.line) && !(scope.names.any fun (n, k) => n == y && (k == NameKind.local || k == NameKind.cell))
theorem ds_setLc {i : Nat} {y : Str} {py : Pos} {elt tg iter : Expr} {ifs : List Expr} {scope : Scope} {own : List (Str × Nat)} {lpos spos : Pos} {s : FA} {g : FG} {t : FT} {e : FE} {js : List Nat} (hN : Γ.N[i]? = some y) (hsw : swOk Γ scope lpos py y = true)
    (hi : DI true Γ tg iter s) (hb : blkC Γ.N (dummy Γ.names) scope own = true) (hg : DG (Γ.blk scope) tg g js) (ht : DTs (Γ.blk scope) ifs t) (he : DE (Γ.blk scope) elt e)
    (hj : ∀ j ∈ js, j ∈ own.map (·.2)) (hp : plainE iter = true) : DS Γ (.Assign [.Name y py] (.ListComp elt [⟨tg, iter, ifs, 0⟩] scope lpos) spos) (sSetO i (lcF s g t e (own.map (·.2)))) := fun X G => by
  have hk := blkC_kind hb
  unfold swOk at hsw
  simp only [Bool.and_eq_true, Bool.not_eq_true'] at hsw
  obtain ⟨⟨h1, h2⟩, h3⟩ := hsw
  have h1' : X.env.scope.names.lookup y = some .local := by rw [G.sc]; simpa using h1
  refine PS.weaken (ps_setLc (te := tD (un X) e) (tt := tTt (un X) t) (g := tGd (un X) g js) G.calm G.nd (by rw [G.hN]; exact hN) h1' (sw_true G.kind h1' h2 h3) (hi X G) (blkOk_of G hb) (fun s H C cl fp => hg _ (G.blk hk s H C cl fp)) (fun s H C cl fp => ht _ (G.blk hk s H C cl fp)) (fun s H C cl fp => he _ (G.blk hk s H C cl fp)) (fun x => folded_plain hp X.env x)) fun Dn σ H ⟨Z, F, β, δ, δ', β', o, rl, e, q⟩ => ?_
  obtain ⟨⟨d, β1⟩, e1, e⟩ := Option.map_eq_some_iff.mp e
  cases e
  exact lc_of hj ⟨Z, F, β, δ, d, _, rl, e1, fun pa xs F1 H1 p1 hn hf hp hx => q F1 _ H1 p1.gr.fs (own_new (d := .list _) rl p1 hn hf ⟨xs, hp, hx⟩ i)⟩
/-- a, b = e -/
def sAsg (g : FG) (f : FE) : SF := fun δ β => (f δ β).bind fun x => (g x.1 δ).map fun δ1 => (δ1, x.2, .nx)
def notTupE : Expr → Bool
  | .Tuple .. => false
  | .List .. => false
  | _ => true
theorem swappedStores_no {ts : List Expr} {k : Nat} {p : Pos} {e : Expr} (h : notTupE e = true) (env : PySem.Env) : swappedStores [.Tuple ts k p] e env = pure none := by
  cases e <;> first | rfl | cases h
theorem ds_asgT {ts : List Expr} {k : Nat} {p : Pos} {e : Expr} {g : FG} {f : FE} {js : List Nat} (hg : DG Γ (.Tuple ts k p) g js) (he : DE Γ e f) (hc : noComp e = true) (ht : notTupE e = true) : DS Γ (.Assign [.Tuple ts k p] e pos) (sAsg g f) := fun X G => by
  refine PS.weaken (ps_asg (he X G) (hg X G) (by show swapsWith e (some (.Tuple ts k p)) pos.line X.env = pure false; exact swaps_no hc _ _ _) (swappedStores_no ht _)) fun Dn σ H ⟨Z, F, β, δ, δ', β', o, rl, e, q⟩ => ?_
  obtain ⟨⟨d, β1⟩, e1, e⟩ := Option.bind_eq_some_iff.mp e
  obtain ⟨δ1, e2, e⟩ := Option.map_eq_some_iff.mp e
  cases e
  exact ⟨Z, F, β, δ, d, _, rl, e1, fun v F1 H1 p1 rv => ⟨Z, F1, _, δ, d, _, rl.post p1, rv, e2, fun σ2 r2 _ _ => q F1 σ2 H1 p1.gr.fs r2⟩⟩

/-! ### loops -/
def forGo (g : FG) (B : SF) : List D → Env → Bag → Option (Env × Bag × Out)
  | [], δ, β => some (δ, β, .nx)
  | d :: r, δ, β => (g d δ).bind fun δ1 => (B δ1 β).bind fun x => match x.2.2 with
    | .nx => forGo g B r x.1 x.2.1
    | .ct => forGo g B r x.1 x.2.1
    | .bk => some (x.1, x.2.1, .nx)
    | .rt d => some (x.1, x.2.1, .rt d)
def sFor (s : FA) (g : FG) (B : SF) : SF := fun δ β => (s δ β).bind fun x => forGo g B x.1 δ x.2
theorem ds_for {tg iter : Expr} {body : List Stmt} {s : FA} {g : FG} {js : List Nat} {B : SF} (hi : DI false Γ tg iter s) (hg : DG Γ tg g js) (hb : DSs Γ body B) (hp : plainE iter = true) : DS Γ (.For tg iter body [] pos) (sFor s g B) := fun X G => by
  refine PS.weaken (ps_for (by rw [G.xe]; exact PassesOwn.never) G.calm (hi X G) (hg X G) (hb X G) (folded_plain hp X.env)) fun Dn σ H ⟨Z, F, β, δ, δ', β', o, rl, e, q⟩ => ?_
  obtain ⟨⟨src, β0⟩, e1, e2⟩ := Option.bind_eq_some_iff.mp e
  refine ⟨Z, F, β, δ, src, β0, rl, e1, fun J F' H' S p0 wk st => ?_⟩
  have w : Walk J src.length (fun H1 => ∃ F1, Same F' F1 ∧ Same F1 H1) (fun i H1 x H2 => ∀ F1 d, src[i]? = some d → Same F' F1 → Same F1 H1 → (H2 = H1 ∧ Rp (un X) F1 x d) ∨ ∃ p o, H1 p = none ∧ H2 = upd H1 p o ∧ Rp (un X) (upd F1 p o) x d) :=
    ⟨fun i H1 hi ⟨F1, s1, s2⟩ => wk.goes i F1 H1 hi s1 s2 (st.2 rfl H1), fun H1 ⟨F1, s1, s2⟩ => wk.stops F1 H1 s1 s2 (st.2 rfl H1), fun i H1 x H2 hi _ hy F1 d hd s1 s2 => wk.yields i F1 H1 x H2 d hd s1 s2 (st.2 rfl H1) hy⟩
  refine for_it w (fun i σ1 H1 => ∃ F1 β1 δ1, Same F' F1 ∧ Rel (un X) Z F1 β1 δ1 σ1 H1 ∧ forGo g B (src.drop i) δ1 β1 = some (δ', β', o)) ?_ ?_ ?_ ?_
  · exact ⟨F', β0, δ, Same.refl _, rl.post p0, by rw [List.drop_zero]; exact e2⟩
  · rintro i σ1 H1 hi ⟨F1, β1, δ1, s1, r1, _⟩
    exact ⟨F1, s1, r1.fh⟩
  · rintro i x σ1 H1 H2 hi ⟨F1, β1, δ1, s1, r1, hf⟩ hy
    obtain ⟨d, hd⟩ : ∃ d, src[i]? = some d := ⟨src[i], by simp [hi]⟩
    have hdrop : src.drop i = d :: src.drop (i + 1) := by
      rw [List.drop_eq_getElem_cons hi]
      have : src[i] = d := by rw [List.getElem?_eq_getElem hi] at hd; exact Option.some.inj hd
      rw [this]
    rw [hdrop] at hf
    obtain ⟨δ2, g1, hf⟩ := Option.bind_eq_some_iff.mp hf
    obtain ⟨⟨δ3, β3, o3⟩, g2, hf⟩ := Option.bind_eq_some_iff.mp hf
    obtain ⟨F2, r2, hx2, s2⟩ : ∃ F2, Rel (un X) Z F2 β1 δ1 σ1 H2 ∧ Rp (un X) F2 x d ∧ Same F' F2 := by
      rcases hy F1 d hd s1 r1.fh with ⟨rfl, hx⟩ | ⟨p, o, hn, rfl, hx⟩
      · exact ⟨F1, r1, hx, s1⟩
      · exact ⟨upd F1 p o, r1.post (r1.postN hn), hx, s1.trans (same_upd1 (r1.fh.free hn))⟩
    refine ⟨Z, F2, β1, δ1, d, δ2, r2, hx2, g1, fun σ2 r3 _ _ => ?_⟩
    refine ⟨Z, F2, β1, δ2, δ3, β3, o3, r3, g2, fun F3 σ3 H3 s3 r4 => ?_⟩
    cases o3 with
    | nx => exact ⟨F3, β3, δ3, s2.trans s3, r4, hf⟩
    | ct => exact ⟨F3, β3, δ3, s2.trans s3, r4, hf⟩
    | bk => cases hf; exact q F3 σ3 H3 ((p0.gr.fs.trans s2).trans s3) r4
    | rt d => cases hf; exact q F3 σ3 H3 ((p0.gr.fs.trans s2).trans s3) r4
  · rintro σ1 H1 ⟨F1, β1, δ1, s1, r1, hf⟩
    rw [List.drop_length] at hf
    cases hf
    exact q F1 σ1 H1 (p0.gr.fs.trans s1) r1
def whileGo (t : FT) (B : SF) : Nat → Env → Bag → Option (Env × Bag × Out)
  | 0, _, _ => none
  | n + 1, δ, β => (t δ β).bind fun b => if b.1 = true then (B δ b.2).bind fun x => match x.2.2 with
      | .nx => whileGo t B n x.1 x.2.1
      | .ct => whileGo t B n x.1 x.2.1
      | .bk => some (x.1, x.2.1, .nx)
      | .rt d => some (x.1, x.2.1, .rt d)
    else some (δ, b.2, .nx)
open Classical in
noncomputable def sWhile (t : FT) (B : SF) : SF := fun δ β => if h : ∃ r, ∃ n, whileGo t B n δ β = some r then some h.choose else none
theorem whileGo_mono {t : FT} {B : SF} : ∀ {n m : Nat} {δ β r}, n ≤ m → whileGo t B n δ β = some r → whileGo t B m δ β = some r
  | 0, _, _, _, _, _, h => by cases h
  | n + 1, 0, _, _, _, hl, h => by omega
  | n + 1, m + 1, δ, β, r, hl, h => by
    unfold whileGo at h ⊢
    obtain ⟨⟨b, β1⟩, e1, h⟩ := Option.bind_eq_some_iff.mp h
    rw [e1]
    show (if b = true then _ else _) = _
    dsimp only at h
    split at h
    · rename_i hb
      rw [if_pos hb]
      obtain ⟨⟨δ2, β2, o⟩, e2, h⟩ := Option.bind_eq_some_iff.mp h
      show (B δ β1).bind _ = _
      rw [e2]
      cases o with
      | nx => exact whileGo_mono (by omega) h
      | ct => exact whileGo_mono (by omega) h
      | bk => exact h
      | rt d => exact h
    · rename_i hb
      rw [if_neg hb]; exact h
theorem sWhile_of {t : FT} {B : SF} {n : Nat} {δ β r} (h : whileGo t B n δ β = some r) : sWhile t B δ β = some r := by
  have ex : ∃ r, ∃ n, whileGo t B n δ β = some r := ⟨r, n, h⟩
  unfold sWhile
  rw [dif_pos ex]
  obtain ⟨m, hm⟩ := ex.choose_spec
  rcases Nat.le_total n m with hl | hl
  · rw [whileGo_mono hl h] at hm; exact hm.symm
  · rw [whileGo_mono hl hm] at h; exact h
theorem of_sWhile {t : FT} {B : SF} {δ β r} (h : sWhile t B δ β = some r) : ∃ n, whileGo t B n δ β = some r := by
  unfold sWhile at h
  split at h
  · rename_i ex
    obtain ⟨m, hm⟩ := ex.choose_spec
    exact ⟨m, by rw [hm]; exact h⟩
  · cases h
theorem ds_while {c : Expr} {body : List Stmt} {t : FT} {B : SF} (hc : DT Γ c t) (hb : DSs Γ body B) : DS Γ (.While c body [] pos) (sWhile t B) := fun X G => by
  refine PS.weaken (ps_while (by rw [G.xe]; exact PassesOwn.never) (hc X G) (hb X G)) fun Dn σ H ⟨Z, F, β, δ, δ', β', o, rl, e, q⟩ => ?_
  obtain ⟨n, hn⟩ := of_sWhile e
  refine ⟨fun m σ1 H1 => ∃ F1 β1 δ1, Same F F1 ∧ Rel (un X) Z F1 β1 δ1 σ1 H1 ∧ whileGo t B m δ1 β1 = some (δ', β', o), ⟨n, F, β, δ, Same.refl _, rl, hn⟩, ?_⟩
  rintro m σ1 H1 ⟨F1, β1, δ1, s1, r1, hm⟩
  cases m with
  | zero => cases hm
  | succ m =>
    unfold whileGo at hm
    obtain ⟨⟨b, β2⟩, e1, hm⟩ := Option.bind_eq_some_iff.mp hm
    refine ⟨Z, F1, β1, δ1, b, β2, r1, e1, fun F2 H2 p2 => ?_⟩
    dsimp only at hm
    split at hm
    · rename_i hb
      rw [hb, if_pos rfl]
      obtain ⟨⟨δ2, β3, o2⟩, e2, hm⟩ := Option.bind_eq_some_iff.mp hm
      refine ⟨fun σ' H' => ∃ F1 β1 δ1, Same F F1 ∧ Rel (un X) Z F1 β1 δ1 σ' H' ∧ whileGo t B m δ1 β1 = some (δ', β', o), fun σ' H' hN => ⟨m, Nat.lt_succ_self _, hN⟩, ?_⟩
      refine ⟨Z, F2, β2, δ1, δ2, β3, o2, r1.post p2, e2, fun F3 σ3 H3 s3 r3 => ?_⟩
      have sF := (s1.trans p2.gr.fs).trans s3
      cases o2 with
      | nx => exact ⟨F3, β3, δ2, sF, r3, hm⟩
      | ct => exact ⟨F3, β3, δ2, sF, r3, hm⟩
      | bk => cases hm; exact q F3 σ3 H3 sF r3
      | rt d => cases hm; exact q F3 σ3 H3 sF r3
    · rename_i hb
      rw [if_neg hb]
      cases hm
      exact q F2 σ1 H2 (s1.trans p2.gr.fs) (r1.post p2)
theorem sWhile_step {t : FT} {B : SF} {δ β b β1} (h : t δ β = some (b, β1)) : sWhile t B δ β = if b = true then (B δ β1).bind fun x => match x.2.2 with
      | .nx => sWhile t B x.1 x.2.1
      | .ct => sWhile t B x.1 x.2.1
      | .bk => some (x.1, x.2.1, .nx)
      | .rt d => some (x.1, x.2.1, .rt d)
    else some (δ, β1, .nx) := by
  apply Option.ext
  intro r
  constructor
  · intro hr
    obtain ⟨n, hn⟩ := of_sWhile hr
    cases n with
    | zero => cases hn
    | succ n =>
      unfold whileGo at hn
      rw [h] at hn
      change (if b = true then _ else _) = _ at hn
      split
      · rename_i hb
        rw [if_pos hb] at hn
        obtain ⟨⟨δ2, β3, o2⟩, e2, hn⟩ := Option.bind_eq_some_iff.mp hn
        have e2' : B δ β1 = some (δ2, β3, o2) := e2
        rw [e2']
        cases o2 with
        | nx => exact sWhile_of hn
        | ct => exact sWhile_of hn
        | bk => exact hn
        | rt d => exact hn
      · rename_i hb
        rw [if_neg hb] at hn; exact hn
  · intro hr
    split at hr
    · rename_i hb
      obtain ⟨⟨δ2, β3, o2⟩, e2, hr⟩ := Option.bind_eq_some_iff.mp hr
      have key : ∀ n, (match o2 with
        | .nx => whileGo t B n δ2 β3
        | .ct => whileGo t B n δ2 β3
        | .bk => some (δ2, β3, .nx)
        | .rt d => some (δ2, β3, .rt d)) = some r → whileGo t B (n + 1) δ β = some r := fun n hq => by
        unfold whileGo
        rw [h]
        show (if b = true then _ else _) = _
        rw [if_pos hb]
        show (B δ β1).bind _ = _
        rw [e2]
        cases o2 <;> exact hq
      cases o2 with
      | nx => obtain ⟨n, hn⟩ := of_sWhile hr; exact sWhile_of (key n hn)
      | ct => obtain ⟨n, hn⟩ := of_sWhile hr; exact sWhile_of (key n hn)
      | bk => exact sWhile_of (key 0 hr)
      | rt d => exact sWhile_of (key 0 hr)
    · rename_i hb
      refine sWhile_of (n := 1) ?_
      unfold whileGo
      rw [h]
      show (if b = true then _ else _) = _
      rw [if_neg hb]; exact hr
end
end PD
namespace PD
open PySem PySem.Spec L2
section
variable {K : Frag} {Γ : Ctx} {pos : Pos} {br : Bool}
/-! ### dicts at the data's level -/
def lookD : List (D × D) → D → Option D
  | [], _ => none
  | (a, d) :: r, k => if PyData.eqv a k = true then some d else lookD r k
def putD : List (D × D) → D → D → List (D × D)
  | [], k, v => [(k, v)]
  | (a, d) :: r, k, v => if PyData.eqv a k = true then (a, v) :: r else (a, d) :: putD r k v
def keyOfD : D → Option Key
  | .int i => some (.inl i)
  | .str s => some (.inr s)
  | _ => none
theorem keyOf_keyD (k : Key) : keyOfD (keyD k) = some k := by cases k <;> rfl
theorem keyD_of {d : D} {k : Key} (h : keyOfD d = some k) : d = keyD k := by
  cases d <;> first | (cases h; rfl) | cases h
theorem eqv_key (a b : Key) : PyData.eqv (keyD a) (keyD b) = decide (a = b) := by
  cases a <;> cases b <;> simp [keyD, PyData.eqv, key_ll, key_rr] <;> rfl
theorem kV_of {F : Hp} {v : V} {k : Key} (h : Dq K F v (keyD k)) : v = kV k := by
  cases k with
  | inl i => exact dp_int h
  | inr x => exact dp_str h
theorem lookD_kvp {F : Hp} {k : Key} : ∀ {ks : List (Key × V)} {ds : List (D × D)}, KVp K F ks ds → (valV ks k = none ∧ lookD ds (keyD k) = none) ∨ ∃ v d, valV ks k = some v ∧ lookD ds (keyD k) = some d ∧ Dq K F v d
  | _, _, .nil => .inl ⟨rfl, rfl⟩
  | _, _, .cons (k := a) (v := v) (d := d) (ks := ks) (ds := ds) h t => by
    unfold lookD
    rw [eqv_key]
    by_cases e : a = k
    · rw [valV_pos (p := (a, v)) e, if_pos (decide_eq_true e)]
      exact .inr ⟨v, d, rfl, rfl, h⟩
    · rw [valV_neg (p := (a, v)) e, if_neg (by simpa using e)]
      exact lookD_kvp t
/-- keys once -/
def nodupD : List (D × D) → Bool
  | [] => true
  | (a, _) :: r => (r.all fun p => !PyData.eqv p.1 a) && nodupD r
theorem putK_cons {p : Key × V} {r : List (Key × V)} {k : Key} {v : V} (hn : p.1 = k → ∀ q ∈ r, q.1 ≠ k) : putK (p :: r) k v = if p.1 = k then (p.1, v) :: r else p :: putK r k v := by
  unfold putK
  by_cases e : p.1 = k
  · rw [List.any_cons, decide_eq_true e, Bool.true_or, if_pos rfl, List.map_cons, if_pos e, if_pos e]
    congr 1
    have h := hn e
    have : r.map (fun kv => if kv.1 = k then (kv.1, v) else kv) = r.map id := List.map_congr_left fun q hq => by rw [if_neg (h q hq)]; rfl
    rw [this, List.map_id]
  · rw [List.any_cons, decide_eq_false e, Bool.false_or, List.map_cons, if_neg e, if_neg e]
    split <;> rfl
theorem putD_kvp {F : Hp} {k : Key} {v : V} {d : D} (hv : Dq K F v d) : ∀ {ks : List (Key × V)} {ds : List (D × D)}, KVp K F ks ds → (ks.map (·.1)).Nodup → KVp K F (putK ks k v) (putD ds (keyD k) d)
  | _, _, .nil, _ => by show KVp K F ([] ++ [(k, v)]) _; exact .cons hv .nil
  | _, _, .cons (k := a) (v := w) (d := e) (ks := ks) (ds := ds) h t, hn => by
    rw [List.map_cons, List.nodup_cons] at hn
    rw [putK_cons (fun e q hq z => hn.1 (by show a ∈ _; rw [show a = k from e, ← z]; exact List.mem_map_of_mem hq))]
    unfold putD
    rw [eqv_key]
    by_cases e : a = k
    · rw [if_pos (show (a, w).1 = k from e), if_pos (decide_eq_true e)]
      exact .cons hv t
    · rw [if_neg (show ¬ (a, w).1 = k from e), if_neg (by simpa using e)]
      exact .cons h (putD_kvp hv t hn.2)
theorem putK_nodup {k : Key} {v : V} : ∀ {ks : List (Key × V)}, (ks.map (·.1)).Nodup → ((putK ks k v).map (·.1)).Nodup
  | [], _ => by simp [putK]
  | (a, w) :: r, hn => by
    rw [List.map_cons, List.nodup_cons] at hn
    rw [putK_cons (fun e q hq z => hn.1 (by show a ∈ _; rw [show a = k from e, ← z]; exact List.mem_map_of_mem hq))]
    by_cases e : a = k
    · rw [if_pos (show (a, w).1 = k from e)]
      rw [List.map_cons, List.nodup_cons]; exact hn
    · rw [if_neg (show ¬ (a, w).1 = k from e)]
      rw [List.map_cons, List.nodup_cons]
      refine ⟨fun hm => ?_, putK_nodup hn.2⟩
      obtain ⟨q, hq, e2⟩ := List.mem_map.mp hm
      have : q.1 ∈ r.map (·.1) ∨ q.1 = k := by
        unfold putK at hq
        split at hq
        · obtain ⟨q', hq', e3⟩ := List.mem_map.mp hq
          have e4 : q.1 = q'.1 := by
            split at e3
            · rw [← e3]
            · rw [e3]
          rw [e4]; exact .inl (List.mem_map_of_mem hq')
        · rcases List.mem_append.mp hq with z | z
          · exact .inl (List.mem_map_of_mem z)
          · simp at z; exact .inr (by rw [z])
      rcases this with z | z
      · exact hn.1 (by rw [← show q.1 = a from e2]; exact z)
      · exact e (by rw [← z]; exact e2.symm)

/-! ### in, not in, [], get of dicts -/
theorem op_inDK {X : Cx} (hu : X.A.units + 1 < cLine) : OpR X (compareOp .In) (fun x y H Q => ∃ a o, y = .ref a ∧ DGet H a x o ∧ Q (.bl o.isSome) H) := by
  intro pins s σ H x y v u Q I rx ry h
  obtain ⟨a, o, rfl, g, q⟩ := h
  cases ry
  exact d_in hu I g rx fun s' I' => ⟨.bl _, H, I', rfl, q⟩
theorem op_ninDK {X : Cx} (hu : X.A.units + 1 < cLine) : OpR X (compareOp .NotIn) (fun x y H Q => ∃ a o, y = .ref a ∧ DGet H a x o ∧ Q (.bl (!o.isSome)) H) := by
  intro pins s σ H x y v u Q I rx ry h
  obtain ⟨a, o, rfl, g, q⟩ := h
  cases ry
  exact d_notIn hu I g rx fun s' I' => ⟨.bl _, H, I', rfl, q⟩
def fInK : D → D → Option D := fun x y => match y with
  | .dict kvs => match keyOfD x with
    | some _ => some (.bool (lookD kvs x).isSome)
    | none => none
  | _ => none
def fNinK : D → D → Option D := fun x y => match y with
  | .dict kvs => match keyOfD x with
    | some _ => some (.bool (!(lookD kvs x).isSome))
    | none => none
  | _ => none
/-- what a look-up finds -/
theorem dget_of {ob F H x y dx kvs} (hx : Bv K ob F H x dx) (hy : Bv K ob F H y (.dict kvs)) (fh : Same F H) {k : Key} (hk : keyOfD dx = some k) : ∃ a o, y = .ref a ∧ DGet H a x o ∧ ((o = none ∧ lookD kvs dx = none) ∨ ∃ v d, o = some v ∧ lookD kvs dx = some d ∧ Dq K F v d) := by
  obtain ⟨a, o, rfl, h1, h2⟩ := bv_dic hy fh
  have e := keyD_of hk
  subst e
  have hxk : x = kV k := kV_of (bv_flat hx (by cases k <;> rfl))
  subst hxk
  cases h2 with
  | k hq hn =>
    refine ⟨a, valV _ k, rfl, .k h1, ?_⟩
    rcases lookD_kvp (k := k) hq with ⟨q1, q2⟩ | ⟨v, d, q1, q2, q3⟩
    · exact .inl ⟨q1, q2⟩
    · exact .inr ⟨v, d, q1, q2, q3⟩
theorem ov_inK : OV K (fun x y H Q => ∃ a o, y = .ref a ∧ DGet H a x o ∧ Q (.bl o.isSome) H) fInK := ⟨fun ob F H β x y dx dy d Q fh bg hx hy e q => by
  unfold fInK at e
  split at e
  · rename_i kvs
    split at e
    · rename_i k hk
      cases e
      obtain ⟨a, o, h1, h2, h3⟩ := dget_of hx hy fh hk
      refine ⟨a, o, h1, h2, ?_⟩
      have : o.isSome = (lookD kvs dx).isSome := by
        rcases h3 with ⟨z1, z2⟩ | ⟨v, d, z1, z2, _⟩
        · rw [z1, z2]; rfl
        · rw [z1, z2]; rfl
      rw [this]
      exact q _ F H (post0 fh bg) (.dp (.bl _))
    · cases e
  · cases e⟩
theorem ov_ninK : OV K (fun x y H Q => ∃ a o, y = .ref a ∧ DGet H a x o ∧ Q (.bl (!o.isSome)) H) fNinK := ⟨fun ob F H β x y dx dy d Q fh bg hx hy e q => by
  unfold fNinK at e
  split at e
  · rename_i kvs
    split at e
    · rename_i k hk
      cases e
      obtain ⟨a, o, h1, h2, h3⟩ := dget_of hx hy fh hk
      refine ⟨a, o, h1, h2, ?_⟩
      have : o.isSome = (lookD kvs dx).isSome := by
        rcases h3 with ⟨z1, z2⟩ | ⟨v, d, z1, z2, _⟩
        · rw [z1, z2]; rfl
        · rw [z1, z2]; rfl
      rw [this]
      exact q _ F H (post0 fh bg) (.dp (.bl _))
    · cases e
  · cases e⟩
def fIn : D → D → Option D := orF fInL fInK
def fNin : D → D → Option D := orF fNinL fNinK
theorem Good.u1 {X : Cx} (G : Good Γ X) : X.A.units + 1 < cLine := by have := G.u; omega
theorem cr_in : CmpR Γ .In fIn := ⟨_, fun X G => .or (.or (op_inD G.u65) op_in_seq) (op_inDK G.u1), fun X => ov_inL.or ov_inK⟩
theorem cr_nin : CmpR Γ .NotIn fNin := ⟨_, fun X G => .or (.or (op_notInD G.u65) op_notIn_seq) (op_ninDK G.u1), fun X => ov_ninL.or ov_ninK⟩
/-- d[k] beside xs[i] -/
theorem ix_dict {X : Cx} (hu : X.A.units + 1 < cLine) : IxR X (fun x y H Q => ∃ a v, x = .ref a ∧ DGet H a y (some v) ∧ Q v H) := by
  intro value slice pins s σ H x y v u Q I rx ry h hs
  obtain ⟨a, w, rfl, g, q⟩ := h
  cases rx
  exact PyProof.Rows.tail_any (dict_typeIs I g) PySem.F.slot_dict_getitem.lookup (d_getItem hu I g ry fun w' s' I' r' => ⟨w, H, I', r', q⟩) hs
def fIxK : D → D → Option D := fun x y => match x with
  | .dict kvs => match keyOfD y with
    | some _ => lookD kvs y
    | none => none
  | _ => none
theorem ov_ixK : OV K (fun x y H Q => ∃ a v, x = .ref a ∧ DGet H a y (some v) ∧ Q v H) fIxK := ⟨fun ob F H β x y dx dy d Q fh bg hx hy e q => by
  unfold fIxK at e
  split at e
  · split at e
    · rename_i k hk
      obtain ⟨a, o, h1, h2, h3⟩ := dget_of hy hx fh hk
      rcases h3 with ⟨z1, z2⟩ | ⟨v, d', z1, z2, z3⟩
      · rw [z2] at e; cases e
      · rw [z2] at e; cases e
        subst z1
        exact ⟨a, v, h1, h2, q v F H (post0 fh bg) (.dp z3)⟩
    · cases e
  · cases e⟩
def fIx : D → D → Option D := orF fIxS fIxK
theorem de_ix {a b : Expr} {fa fb : FE} (ha : DB Γ a fa) (hb : DB Γ b fb) (hp : plainE b = true) : DE Γ (.Subscript a b pos) (dOp fIx fa fb) :=
  de_ix0 (r := fun X x y H Q => rIx X.K x y H Q ∨ ∃ a v, x = .ref a ∧ DGet H a y (some v) ∧ Q v H) (fun X G => ix_seq.or (ix_dict G.u1)) (fun X => ov_ix.or ov_ixK) ha hb hp

/-! ### new dicts -/
abbrev FK := Env → Bag → Option (List (D × D) × Bag)
def tKr (K : Frag) (f : FK) : TE := fun σ H Q => ∃ Z F β δ ds β', Rel K Z F β δ σ H ∧ f δ β = some (ds, β') ∧ ∀ p o F' H', Post Z.ob F H F' H' β' → H p = none → F' p = none → H' p = some o → DicO K F' o ds → Q (.ref p) H'
def DK (Γ : Ctx) (e : Expr) (f : FK) : Prop := ∀ X, Good Γ X → PE X e (tKr (un X) f)
def dFrzK (g : FK) : FE := fun δ β => (g δ β).map fun x => (.dict x.1, x.2)
theorem DK.e {e : Expr} {g : FK} (h : DK Γ e g) : DE Γ e (dFrzK g) := fun X G => PE.weaken (h X G) fun σ H Q ⟨Z, F, β, δ, d, β', rl, e, q⟩ => by
  obtain ⟨⟨ds, β0⟩, e1, e⟩ := Option.map_eq_some_iff.mp e
  cases e
  refine ⟨Z, F, β, δ, ds, _, rl, e1, fun p o F1 H1 p1 hn hf hp hx => ?_⟩
  exact q (.ref p) _ H1 (p1.freeze rl.bg hn hf hp) (.dic upd_same (dicO_mono (same_upd1 hf) hx))
def kNil : FK := fun _ β => some ([], β)
theorem dk_nil : DK Γ (.Dict [] [] pos) kNil := fun X G => PE.weaken pe_dnewK fun σ H Q ⟨Z, F, β, δ, d, β', rl, e, q⟩ => by
  cases e
  intro p hp
  exact q p _ F _ (rl.postR.newO hp) hp (rl.fh.free hp) upd_same (.k .nil (by simp))
/-- {k: v for ..}, the keys ints or texts -/
def dcGo (g : FG) (t : FT) (ek ev : FE) (δw : Env) : List D → List (D × D) → Bag → Option (List (D × D) × Bag)
  | [], acc, β => some (acc, β)
  | d :: r, acc, β => (g d δw).bind fun δ1 => (t δ1 β).bind fun b => if b.1 = true then (ek δ1 b.2).bind fun y => (ev δ1 y.2).bind fun z => if (keyOfD y.1).isSome = true ∧ plainD z.1 = true then dcGo g t ek ev δw r (putD acc y.1 z.1) z.2 else none
    else dcGo g t ek ev δw r acc b.2
def dcF (s : FA) (g : FG) (t : FT) (ek ev : FE) (vs : List Nat) : FK := fun δ β => (s δ β).bind fun x => if x.1.length ≤ 16777216 then dcGo g t ek ev (wipeD δ vs) x.1 [] x.2 else none
theorem putK_len (k : Key) (v : V) : ∀ ks : List (Key × V), (putK ks k v).length ≤ ks.length + 1 := fun ks => by
  unfold putK
  split <;> simp
theorem dc_of {X : Cx} {s : FA} {g : FG} {t : FT} {ek ev : FE} {vs js : List Nat} (hj : ∀ j ∈ js, j ∈ vs) {σ H Q} (h : tKr (un X) (dcF s g t ek ev vs) σ H Q) : tDc (tI (un X) true s) (tGd (un X) g js) (tTt (un X) t) (tD (un X) ek) (tD (un X) ev) vs σ H Q := by
  obtain ⟨Z, F, β, δ, ds, β', rl, ef, q⟩ := h
  obtain ⟨⟨src, β0⟩, e1, e2⟩ := Option.bind_eq_some_iff.mp ef
  dsimp only at e2
  split at e2
  · rename_i hsz
    refine ⟨Z, F, β, δ, src, β0, rl, e1, fun J F' H' S p0 wk st Dl hD => ?_⟩
    have rl0 := rl.post p0
    have hFD : F' Dl = none := p0.fh.free hD
    have hbD : Z.ob ≠ some Dl := p0.ne hD
    have hHD : H Dl = none := by
      cases hq : H Dl with
      | none => rfl
      | some o => obtain ⟨o', e'⟩ := p0.gr.dm Dl o hq; rw [e'] at hD; cases hD
    refine ⟨fun i m H1 => m = src.length - i ∧ i ≤ src.length ∧ ∃ F1 β1 acc dac, Post Z.ob F' H' F1 H1 β1 ∧ F1 Dl = none ∧ H1 Dl = some (.dK acc) ∧ KVp (un X) F1 acc dac ∧ (acc.map (·.1)).Nodup ∧ acc.length ≤ i ∧ dcGo g t ek ev (wipeD δ vs) (src.drop i) dac β1 = some (ds, β'),
      ⟨src.length, by simp, Nat.zero_le _, F', β0, [], [], (post0 p0.fh p0.bg).newO hD, hFD, upd_same, .nil, by simp, Nat.le_refl _, by rw [List.drop_zero]; exact e2⟩, ?_⟩
    rintro i m H1 ⟨rfl, hi, F1, β1, acc, dac, p1, hf1, hd1, ha1, hn1, hl1, hg1⟩
    have hs1 := st.1 rfl F1 H1 p1.gr
    by_cases hlt : i < src.length
    · refine .inr ⟨wk.goes i F1 H1 hlt p1.gr.fs p1.fh hs1, fun H1 => ∃ F1 β1 acc dac, Post Z.ob F' H' F1 H1 β1 ∧ F1 Dl = none ∧ H1 Dl = some (.dK acc) ∧ KVp (un X) F1 acc dac ∧ (acc.map (·.1)).Nodup ∧ acc.length ≤ i + 1 ∧ dcGo g t ek ev (wipeD δ vs) (src.drop (i + 1)) dac β1 = some (ds, β'), fun H2 hN => ⟨src.length - (i + 1), by omega, rfl, hlt, hN⟩, fun x H2 hy => ?_⟩
      obtain ⟨d, hd⟩ : ∃ d, src[i]? = some d := ⟨src[i], by simp [hlt]⟩
      have hdrop : src.drop i = d :: src.drop (i + 1) := by
        rw [List.drop_eq_getElem_cons hlt]
        have : src[i] = d := by rw [List.getElem?_eq_getElem hlt] at hd; exact Option.some.inj hd
        rw [this]
      rw [hdrop] at hg1
      obtain ⟨δ1, g1, hg1⟩ := Option.bind_eq_some_iff.mp hg1
      obtain ⟨⟨b, β2⟩, g2, hg1⟩ := Option.bind_eq_some_iff.mp hg1
      obtain ⟨F2, p2, hf2, hx2, hd2, sm2⟩ : ∃ F2, Post Z.ob F' H' F2 H2 β1 ∧ F2 Dl = none ∧ Rp (un X) F2 x d ∧ H2 Dl = some (.dK acc) ∧ Same F1 F2 := by
        rcases wk.yields i F1 H1 x H2 d hd p1.gr.fs p1.fh hs1 hy with ⟨rfl, hx⟩ | ⟨p, o, hn, rfl, hx⟩
        · exact ⟨F1, p1, hf1, hx, hd1, Same.refl _⟩
        · have hne := ne_of_none hd1 hn
          exact ⟨upd F1 p o, p1.new hn, by rw [upd_ne hne]; exact hf1, hx, by rw [upd_ne hne]; exact hd1, same_upd1 (p1.fh.free hn)⟩
      have rl2 := rel_wipe (rl0.post p2) vs
      refine ⟨Z, F2, β1, wipeD δ vs, d, δ1, rl2, hx2, g1, fun σ1 r1 l1 k1 => ⟨?_, ?_⟩⟩
      · have := wipe_eq (σ := wipe σ vs) (σ' := σ1) (vs := vs) (l1) (fun j hj' => k1 j fun z => hj' (hj j z))
        rw [this, wipe_wipe]
      · refine ⟨Z, F2, β1, δ1, b, β2, r1, g2, fun F3 H3 p3 => ?_⟩
        have p3' := p2.trans p3
        have hd3 : H3 Dl = some (.dK acc) := p3.gr.kp Dl _ hd2 hbD
        have hf3 : F3 Dl = none := p3.gr.nw Dl _ hf2 hd2
        dsimp only at hg1
        split at hg1
        · rename_i hb
          show (if b = true then _ else _)
          rw [hb, if_pos rfl]
          obtain ⟨⟨y, β3⟩, g3, hg1⟩ := Option.bind_eq_some_iff.mp hg1
          obtain ⟨⟨z, β4⟩, g4, hg1⟩ := Option.bind_eq_some_iff.mp hg1
          dsimp only at hg1
          split at hg1
          · rename_i hpl
            obtain ⟨k, hk⟩ := Option.isSome_iff_exists.mp hpl.1
            have hyk := keyD_of hk
            refine ⟨Z, F3, β2, δ1, y, β3, r1.post p3, g3, fun v F4 H4 p4 rv => ?_⟩
            have p4' := p3'.trans p4
            have hd4 : H4 Dl = some (.dK acc) := p4.gr.kp Dl _ hd3 hbD
            have hf4 : F4 Dl = none := p4.gr.nw Dl _ hf3 hd3
            refine ⟨Z, F4, β3, δ1, z, β4, (r1.post p3).post p4, g4, fun w F5 H5 p5 rw' => ?_⟩
            have p5' := p4'.trans p5
            have hd5 : H5 Dl = some (.dK acc) := p5.gr.kp Dl _ hd4 hbD
            have hf5 : F5 Dl = none := p5.gr.nw Dl _ hf4 hd4
            have sm : Same F1 F5 := ((sm2.trans p3.gr.fs).trans p4.gr.fs).trans p5.gr.fs
            have ev : v = kV k := by
              subst hyk
              exact kV_of (rv.plain (by cases k <;> rfl))
            refine ⟨acc, k, ev, hd5, nd_fits (by omega), F5, β4, putK acc k w, putD dac y z, p5'.mutO hD hf5 hbD, hf5, upd_same, ?_, putK_nodup hn1, Nat.le_trans (putK_len _ _ _) (by omega), hg1⟩
            rw [hyk]
            exact putD_kvp (rw'.plain hpl.2) (kvp_mono sm ha1) hn1
          · cases hg1
        · rename_i hb
          show (if b = true then _ else _)
          rw [if_neg hb]
          exact ⟨F3, β2, acc, dac, p3', hf3, hd3, kvp_mono (sm2.trans p3.gr.fs) ha1, hn1, by omega, hg1⟩
    · have hi' : i = src.length := by omega
      subst hi'
      refine .inl ⟨wk.stops F1 H1 p1.gr.fs p1.fh hs1, ?_⟩
      rw [List.drop_length] at hg1
      cases hg1
      exact q Dl _ F1 H1 (p0.trans p1) hHD hf1 hd1 (.k ha1 hn1)
  · cases e2
theorem dk_dc {kx vx tg iter : Expr} {ifs : List Expr} {scope : Scope} {own : List (Str × Nat)} {s : FA} {g : FG} {t : FT} {ek ev : FE} {js : List Nat} (hi : DI true Γ tg iter s) (hb : blkC Γ.N (dummy Γ.names) scope own = true) (hg : DG (Γ.blk scope) tg g js) (ht : DTs (Γ.blk scope) ifs t) (hk : DE (Γ.blk scope) kx ek) (hv : DE (Γ.blk scope) vx ev)
    (hj : ∀ j ∈ js, j ∈ own.map (·.2)) (hp : plainE iter = true) : DK Γ (.DictComp kx vx [⟨tg, iter, ifs, 0⟩] scope pos) (dcF s g t ek ev (own.map (·.2))) := fun X G => by
  have hkk := blkC_kind hb
  exact PE.weaken (pe_dc (tk := tD (un X) ek) (tv := tD (un X) ev) (tt := tTt (un X) t) (g := tGd (un X) g js) G.calm G.nd (hi X G) (blkOk_of G hb) (fun s H C cl fp => hg _ (G.blk hkk s H C cl fp)) (fun s H C cl fp => ht _ (G.blk hkk s H C cl fp)) (fun s H C cl fp => hk _ (G.blk hkk s H C cl fp)) (fun s H C cl fp => hv _ (G.blk hkk s H C cl fp)) (fun x => folded_plain hp X.env x)) fun _ _ _ h => dc_of hj h
theorem sw_trueD {kx vx : Expr} {gs : List Comprehension} {scope : Scope} {pos py : Pos} {y : Str} {l : Nat} {env : PySem.Env} (hk : env.scope.kind = .function) (hy : env.scope.names.lookup y = some .local) (hl : (py.line == pos.line) = true)
    (ha : (scope.names.any fun (n, k) => n == y && (k == .local || k == .cell)) = false) : swapsWith (.DictComp kx vx gs scope pos) (some (.Name y py)) l env = pure true := by
  have ky : env.kindOf y = some .local := hy
  have hb : env.blockKind = .function := by unfold PySem.Env.blockKind; rw [hk]; rfl
  unfold swapsWith
  simp only [hb, ky, ha, Expr.pos, hl]
  rfl
def sSetK (i : Nat) (f : FK) : SF := fun δ β => (f δ β).map fun x => (δ.set i (.ow (.dict x.1)), x.2, .nx)
theorem ds_setK {i : Nat} {x : Str} {e : Expr} {p : Pos} {f : FK} (hN : Γ.N[i]? = some x) (hl : locK Γ x = true) (he : DK Γ e f) (hc : noComp e = true) : DS Γ (.Assign [.Name x p] e pos) (sSetK i f) := fun X G => by
  obtain ⟨h1, h2⟩ := loc_of G hl
  refine PS.weaken (ps_set G.nd (by rw [G.hN]; exact hN) h1 (he X G) (swaps_no hc _ _ _) h2) fun Dn σ H ⟨Z, F, β, δ, δ', β', o, rl, e, q⟩ => ?_
  obtain ⟨⟨d, β1⟩, e1, e⟩ := Option.map_eq_some_iff.mp e
  cases e
  exact ⟨Z, F, β, δ, d, _, rl, e1, fun pa ho F1 H1 p1 hn hf hp hx => q F1 _ H1 p1.gr.fs (own_new (d := .dict _) rl p1 hn hf ⟨ho, hp, hx⟩ i)⟩
theorem ds_setDc {i : Nat} {y : Str} {py : Pos} {kx vx tg iter : Expr} {ifs : List Expr} {scope : Scope} {own : List (Str × Nat)} {lpos spos : Pos} {s : FA} {g : FG} {t : FT} {ek ev : FE} {js : List Nat} (hN : Γ.N[i]? = some y) (hsw : swOk Γ scope lpos py y = true)
    (hi : DI true Γ tg iter s) (hb : blkC Γ.N (dummy Γ.names) scope own = true) (hg : DG (Γ.blk scope) tg g js) (ht : DTs (Γ.blk scope) ifs t) (hk : DE (Γ.blk scope) kx ek) (hv : DE (Γ.blk scope) vx ev)
    (hj : ∀ j ∈ js, j ∈ own.map (·.2)) (hp : plainE iter = true) : DS Γ (.Assign [.Name y py] (.DictComp kx vx [⟨tg, iter, ifs, 0⟩] scope lpos) spos) (sSetK i (dcF s g t ek ev (own.map (·.2)))) := fun X G => by
  have hkk := blkC_kind hb
  unfold swOk at hsw
  simp only [Bool.and_eq_true, Bool.not_eq_true'] at hsw
  obtain ⟨⟨h1, h2⟩, h3⟩ := hsw
  have h1' : X.env.scope.names.lookup y = some .local := by rw [G.sc]; simpa using h1
  refine ⟨fun pins s0 σ H Dn I q => ?_⟩
  have hsw' := sw_trueD (kx := kx) (vx := vx) (gs := [⟨tg, iter, ifs, 0⟩]) (l := spos.line) (env := X.env) G.kind h1' h2 h3
  rw [exec_Assign_Name_used _ _ _ _ hsw']
  refine wpAny_bind (wpAny_standAt (wpAny_bind ?_))
  show wpAny _ X.A (do let _ ← comprehension (.DictComp kx vx [⟨tg, iter, ifs, 0⟩] scope lpos) scope X.env (firstIterPos [⟨tg, iter, ifs, 0⟩] lpos) newDict false (eval iter X.env) (some (assign (.Name y py) X.env))) _ _ s0
  have hq : tDc (tI (un X) true s) (tGd (un X) g js) (tTt (un X) t) (tD (un X) ek) (tD (un X) ev) (own.map (·.2)) σ H (fun x H1 => gName i x σ H1 Dn.nx) := by
    obtain ⟨Z, F, β, δ, δ', β', o, rl, e, q⟩ := q
    obtain ⟨⟨d, β1⟩, e1, e⟩ := Option.map_eq_some_iff.mp e
    cases e
    exact dc_of hj ⟨Z, F, β, δ, d, _, rl, e1, fun pa ho F1 H1 p1 hn hf hp hx => q F1 _ H1 p1.gr.fs (own_new (d := .dict _) rl p1 hn hf ⟨ho, hp, hx⟩ i)⟩
  refine wpAny_bind (thn (dc_core (Qf := fun _ s' => SP X pins Dn .next s') G.calm G.nd I (hi X G) (blkOk_of G hb) (fun s H C cl fp => hg _ (G.blk hkk s H C cl fp)) (fun s H C cl fp => ht _ (G.blk hkk s H C cl fp)) (fun s H C cl fp => hk _ (G.blk hkk s H C cl fp)) (fun s H C cl fp => hv _ (G.blk hkk s H C cl fp)) (fun x => folded_plain hp X.env x) hq fun L C s' m H' I' q hn f => ?_) fun _ s' hq => wpAny_pure (wpAny_pure hq))
  show wpAny _ _ (assign (.Name y py) X.env (.ref L)) _ _ _
  refine wpAny_assign_Name (store_ok2 (v := V.ref L) I' G.nd (by rw [G.hN]; exact hN) (.inl h1') rfl (fun s2 I2 ⟨a, sb, ha⟩ => ?_) (.inr h1'))
  obtain ⟨f0, f1, f2, f3, f4, f5⟩ := f
  have haC : C ≠ a := by
    rcases ha with z | z
    · rw [z]; exact f1
    · exact fun e => f4 y a z e.symm
  refine ⟨m, hn.sameBut sb haC, fun h3 sb3 => ?_⟩
  exact ⟨_, H', I2.turned (t' := s2.toks) (fun b o hb e => (sb3.2 b hb).trans e) f0 f1 f3 f4 f5, q⟩
end
end PD
namespace PD
open PySem PySem.Spec L2
def isStar : Expr → Bool
  | .Starred .. => true
  | _ => false
def swNames (names : List (Str × NameKind)) (ts : List Expr) : List Str := ts.filterMap fun
    | .Name id pos => if names.lookup id == some .local && pos.line == (ts.head?.map (·.pos.line)).getD 0 then some id else none
    | _ => none
def swp (names : List (Str × NameKind)) (ts vs : List Expr) : Option (Option (List Str)) :=
  if (!(ts.length == 2 || ts.length == 3) || vs.length != ts.length) = true then some none
  else if (vs.any fun | .Starred .. => true | _ => false) = true then some none
  else if ((swNames names ts).length != ts.length || (swNames names ts).eraseDups.length != (swNames names ts).length) = true then some none
  else if vs.all (foldedForSure 8) = true then some none
  else if vs.all (constantsAlone 8) = true then none
  else some (some (swNames names ts))
theorem swp_eq {names : List (Str × NameKind)} {ts vs : List Expr} {r : Option (List Str)} {k k2 : Nat} {p p2 : Pos} {env : PySem.Env} (hk : env.scope.kind = .function) (hn : env.scope.names = names) (h : swp names ts vs = some r) :
    swappedStores [.Tuple ts k p] (.Tuple vs k2 p2) env = pure r := by
  have hb : env.blockKind = .function := by unfold PySem.Env.blockKind; rw [hk]; rfl
  have hko : ∀ id, env.kindOf id = names.lookup id := fun id => by rw [← hn]; rfl
  unfold swp at h
  unfold swappedStores
  simp only [hb, hko]
  unfold swNames at h
  split at h
  · rename_i h1
    cases h
    simp only [bne_self_eq_false, Bool.or_false] at h1 ⊢
    simp only [h1, if_true]
  · rename_i h1
    split at h
    · rename_i h2
      cases h
      simp only [bne_self_eq_false, Bool.or_false, h1]
      rw [if_neg Bool.false_ne_true]
      exact if_pos h2
    · rename_i h2
      split at h
      · rename_i h3
        cases h
        simp only [bne_self_eq_false, Bool.or_false, h1]
        rw [if_neg Bool.false_ne_true]
        exact (if_neg h2).trans (if_pos h3)
      · rename_i h3
        split at h
        · rename_i h4
          cases h
          simp only [bne_self_eq_false, Bool.or_false, h1]
          rw [if_neg Bool.false_ne_true]
          exact (if_neg h2).trans ((if_neg h3).trans (if_pos h4))
        · rename_i h4
          split at h
          · cases h
          · rename_i h5
            cases h
            simp only [bne_self_eq_false, Bool.or_false, h1]
            rw [if_neg Bool.false_ne_true]
            exact (if_neg h2).trans ((if_neg h3).trans ((if_neg h4).trans (if_neg h5)))

section
variable {K : Frag} {Γ : Ctx} {pos : Pos} {br : Bool}
/-! ### values for a slot: frozen, or a new object of one's own -/
abbrev FV := Env → Bag → Option (Sl × Bag)
def NewOk (K : Frag) (H F' H' : Hp) (v : V) : Sl → Prop
  | .fr d => Rp K F' v d
  | .ow d => ∃ p, v = .ref p ∧ H p = none ∧ F' p = none ∧ OwnAt K F' H' p d
  | _ => False
def tV (K : Frag) (f : FV) : TE := fun σ H Q => ∃ Z F β δ s β', Rel K Z F β δ σ H ∧ f δ β = some (s, β') ∧ ∀ v F' H', Post Z.ob F H F' H' β' → NewOk K H F' H' v s → Q v H'
def DV (Γ : Ctx) (e : Expr) (f : FV) : Prop := ∀ X, Good Γ X → PE X e (tV (un X) f)
def vFr (f : FE) : FV := fun δ β => (f δ β).map fun x => (.fr x.1, x.2)
def vL (f : FA) : FV := fun δ β => (f δ β).map fun x => (.ow (.list x.1), x.2)
def vK (f : FK) : FV := fun δ β => (f δ β).map fun x => (.ow (.dict x.1), x.2)
theorem DE.v {e : Expr} {f : FE} (h : DE Γ e f) : DV Γ e (vFr f) := fun X G => PE.weaken (h X G) fun σ H Q ⟨Z, F, β, δ, s, β', rl, e, q⟩ => by
  obtain ⟨⟨d, β1⟩, e1, e⟩ := Option.map_eq_some_iff.mp e
  cases e
  exact ⟨Z, F, β, δ, d, _, rl, e1, fun v F1 H1 p1 rv => q v F1 H1 p1 rv⟩
theorem DF.v {e : Expr} {f : FA} (h : DF Γ e f) : DV Γ e (vL f) := fun X G => PE.weaken (h X G) fun σ H Q ⟨Z, F, β, δ, s, β', rl, e, q⟩ => by
  obtain ⟨⟨d, β1⟩, e1, e⟩ := Option.map_eq_some_iff.mp e
  cases e
  exact ⟨Z, F, β, δ, d, _, rl, e1, fun p xs F1 H1 p1 hn hf hp hx => q _ F1 H1 p1 ⟨p, rfl, hn, hf, xs, hp, hx⟩⟩
theorem DK.v {e : Expr} {f : FK} (h : DK Γ e f) : DV Γ e (vK f) := fun X G => PE.weaken (h X G) fun σ H Q ⟨Z, F, β, δ, s, β', rl, e, q⟩ => by
  obtain ⟨⟨d, β1⟩, e1, e⟩ := Option.map_eq_some_iff.mp e
  cases e
  exact ⟨Z, F, β, δ, d, _, rl, e1, fun p o F1 H1 p1 hn hf hp hx => q _ F1 H1 p1 ⟨p, rfl, hn, hf, o, hp, hx⟩⟩
theorem NewOk.move {ob H F1 H1 F2 H2 β v s} (h : NewOk K H F1 H1 v s) (hb : ∀ b, ob = some b → H b ≠ none) (p : Post ob F1 H1 F2 H2 β) : NewOk K H F2 H2 v s := by
  cases s with
  | fr d => exact Rp.mono p.gr.fs h
  | ow d =>
    obtain ⟨a, e, hn, hf, w⟩ := h
    obtain ⟨u, hu⟩ := w.there
    have ne : ob ≠ some a := fun z => hb a z hn
    exact ⟨a, e, hn, p.gr.nw a u hf hu, w.move p.gr.fs fun u' q => p.gr.kp a u' q ne⟩
  | no => exact h.elim
  | bg => exact h.elim
  | sc ns => exact h.elim
/-- what may be put into a slot -/
def PutOk (K : Frag) (Z : Act) (F : Hp) (δ : Env) (σ : St) (H : Hp) (v : V) : Sl → Prop
  | .fr d => Rp K F v d
  | .ow d => ∃ p, v = .ref p ∧ Z.H p = none ∧ F p = none ∧ Z.ob ≠ some p ∧ OwnAt K F H p d ∧ ∀ (j : Nat) (e : D), δ[j]? = some (.ow e) → σ[j]? ≠ some (some (.ref p))
  | _ => False
theorem rel_put {Z F β δ σ H} (r : Rel K Z F β δ σ H) {i : Nat} {v : V} {s : Sl} (h : PutOk K Z F δ σ H v s) : Rel K Z F β (δ.set i s) (σ.set i (some v)) H := by
  cases s with
  | fr d => exact rel_set r h
  | ow d =>
    obtain ⟨p, e, hz, hf, hb, ho, hs⟩ := h
    subst e
    exact rel_own r hz hf hb ho hs
  | no => exact h.elim
  | bg => exact h.elim
  | sc ns => exact h.elim
theorem bag_there {Z F β δ σ H} (rl : Rel K Z F β δ σ H) : ∀ b, Z.ob = some b → H b ≠ none := fun b e h => by
  obtain ⟨_, q⟩ := rl.bg b e
  rw [q] at h; cases h
/-- a new thing: what was not in H -/
theorem put_of {Z F β δ σ H F' H' v s} (rl : Rel K Z F β δ σ H) (h : NewOk K H F' H' v s) : PutOk K Z F' δ σ H' v s := by
  cases s with
  | fr d => exact h
  | ow d =>
    obtain ⟨p, e, hn, hf, w⟩ := h
    refine ⟨p, e, ?_, hf, fun z => bag_there rl p z hn, w, fun j e hj hs => ?_⟩
    · cases hq : Z.H p with
      | none => rfl
      | some o => obtain ⟨o', e'⟩ := rl.gr.dm p o hq; rw [e'] at hn; cases hn
    · obtain ⟨o, e1, _, _, _, w⟩ := rl.sl j _ hj
      rw [hs] at e1; cases e1
      obtain ⟨u, hu⟩ := w.there
      rw [hu] at hn; cases hn
  | no => exact h.elim
  | bg => exact h.elim
  | sc ns => exact h.elim
/-- .. behind another one that was put -/
theorem put_next {Z F δ σ H i v s w t} (h : PutOk K Z F δ σ H v s) (ne : ∀ p d, s = .ow d → v = .ref p → w ≠ .ref p) (hw : PutOk K Z F δ σ H w t) : PutOk K Z F (δ.set i s) (σ.set i (some v)) H w t := by
  cases t with
  | fr d => exact hw
  | ow d =>
    obtain ⟨p, e, hz, hf, hb, ho, hs⟩ := hw
    refine ⟨p, e, hz, hf, hb, ho, fun j e' hj q => ?_⟩
    by_cases hij : i = j
    · subst hij
      by_cases hl : i < δ.length
      · rw [List.getElem?_set_self hl] at hj
        have hj := Option.some.inj hj
        by_cases hl2 : i < σ.length
        · rw [List.getElem?_set_self hl2] at q
          have q := Option.some.inj (Option.some.inj q)
          exact ne p e' hj q e
        · rw [List.getElem?_eq_none (by simpa using hl2)] at q; cases q
      · rw [List.getElem?_eq_none (by simpa using hl)] at hj; cases hj
    · rw [List.getElem?_set_ne hij] at hj q
      exact hs j e' hj q
  | no => exact hw.elim
  | bg => exact hw.elim
  | sc ns => exact hw.elim
def sSetV (i : Nat) (f : FV) : SF := fun δ β => (f δ β).map fun x => (δ.set i x.1, x.2, .nx)
theorem ds_setV {i : Nat} {x : Str} {e : Expr} {p : Pos} {f : FV} (hN : Γ.N[i]? = some x) (hl : locK Γ x = true) (he : DV Γ e f) (hc : noComp e = true) : DS Γ (.Assign [.Name x p] e pos) (sSetV i f) := fun X G => by
  obtain ⟨h1, h2⟩ := loc_of G hl
  refine PS.weaken (ps_set G.nd (by rw [G.hN]; exact hN) h1 (he X G) (swaps_no hc _ _ _) h2) fun Dn σ H ⟨Z, F, β, δ, δ', β', o, rl, e, q⟩ => ?_
  obtain ⟨⟨s, β1⟩, e1, e⟩ := Option.map_eq_some_iff.mp e
  cases e
  exact ⟨Z, F, β, δ, s, _, rl, e1, fun v F1 H1 p1 hn => q F1 _ H1 p1.gr.fs (rel_put (rl.post p1) (put_of rl hn))⟩
/-- a, b = e, f -/
def sPar2 (i j : Nat) (f g : FV) : SF := fun δ β => (f δ β).bind fun x => (g δ x.2).map fun y => ((δ.set i x.1).set j y.1, y.2, .nx)
theorem new_ne {Z F β δ σ H F1 H1 F2 H2 v s w t} (rl : Rel K Z F β δ σ H) (h1 : NewOk K H F1 H1 v s) (h2 : NewOk K H1 F2 H2 w t) (d : D) (ht : t = .ow d) : ∀ p d', s = .ow d' → v = .ref p → w ≠ .ref p := fun p d' hs hv hw => by
  subst hs ht
  obtain ⟨a, e, hn, hf, wa⟩ := h1
  obtain ⟨b, e2, hn2, hf2, wb⟩ := h2
  rw [hv] at e; cases e
  rw [hw] at e2; cases e2
  obtain ⟨u, hu⟩ := wa.there
  rw [hu] at hn2; cases hn2
theorem NewOk.back {ob H F1 H1 F2 H2 β w t} {F : Hp} (p : Post ob F H F1 H1 β) (h : NewOk K H1 F2 H2 w t) : NewOk K H F2 H2 w t := by
  cases t with
  | fr d => exact h
  | ow d =>
    obtain ⟨a, e, hn, hf, wa⟩ := h
    refine ⟨a, e, ?_, hf, wa⟩
    cases hq : H a with
    | none => rfl
    | some o => obtain ⟨o', e'⟩ := p.gr.dm a o hq; rw [e'] at hn; cases hn
  | no => exact h.elim
  | bg => exact h.elim
  | sc ns => exact h.elim
theorem ds_par2 {i j : Nat} {x y : Str} {a b : Expr} {px py pt : Pos} {kt k2 pt2} {f g : FV} (hi : Γ.N[i]? = some x) (hj : Γ.N[j]? = some y) (hij : i ≠ j) (hsw : swp Γ.names [.Name x px, .Name y py] [a, b] = some (some [x, y]))
    (hx : (Γ.names.lookup x == some NameKind.local) = true) (hy : (Γ.names.lookup y == some NameKind.local) = true) (ha : DV Γ a f) (hb : DV Γ b g) (pa : plainE a = true) (pb : plainE b = true) :
    DS Γ (.Assign [.Tuple [.Name x px, .Name y py] kt pt] (.Tuple [a, b] k2 pt2) pos) (sPar2 i j f g) := fun X G => by
  have hx' : X.env.scope.names.lookup x = some .local := by rw [G.sc]; simpa using hx
  have hy' : X.env.scope.names.lookup y = some .local := by rw [G.sc]; simpa using hy
  refine PS.weaken (ps_par G.calm G.nd (by rw [G.hN]; exact hi) (by rw [G.hN]; exact hj) hij hx' hy' (pa_cons (ha X G) (pa_cons (hb X G) pa_nil (star_plain pb _ _)) (star_plain pa _ _)) (swp_eq G.kind G.sc hsw) rfl) fun Dn σ H ⟨Z, F, β, δ, δ', β', o, rl, e, q⟩ => ?_
  obtain ⟨⟨s1, β1⟩, e1, e⟩ := Option.bind_eq_some_iff.mp e
  obtain ⟨⟨s2, β2⟩, e2, e⟩ := Option.map_eq_some_iff.mp e
  cases e
  refine ⟨Z, F, β, δ, s1, β1, rl, e1, fun v F1 H1 p1 hn1 => ?_⟩
  have rl1 := rl.post p1
  refine ⟨Z, F1, β1, δ, s2, _, rl1, e2, fun w F2 H2 p2 hn2 => ?_⟩
  have P := p1.trans p2
  have m1 : NewOk (un X) H F2 H2 v s1 := hn1.move (bag_there rl) p2
  refine ⟨v, w, rfl, q F2 _ H2 P.gr.fs ?_⟩
  refine rel_put (rel_put (rl.post P) (put_of rl m1)) ?_
  have k1 := put_of rl m1
  have k2 := put_of rl (NewOk.back p1 hn2)
  cases s2 with
  | fr d => exact k2
  | ow d => exact put_next k1 (new_ne rl hn1 hn2 d rfl) k2
  | no => exact hn2.elim
  | bg => exact hn2.elim
  | sc ns => exact hn2.elim
end

/-! ### three at once -/
open PyProof.Rows in
theorem ps_par3 {X : Cx} {pos : Pos} {i j k : Nat} {x y z : Str} {a b c : Expr} {ta : TA} {px py pz pt : Pos} {kt k2 pt2} (hc : X.calm = true) (hN : X.N.Nodup) (hi : X.N[i]? = some x) (hj : X.N[j]? = some y) (hk : X.N[k]? = some z) (hij : i ≠ j) (hik : i ≠ k) (hjk : j ≠ k)
    (hx : X.env.scope.names.lookup x = some .local) (hy : X.env.scope.names.lookup y = some .local) (hz : X.env.scope.names.lookup z = some .local) (ha : PA X [a, b, c] ta)
    (hw : swappedStores [.Tuple [.Name x px, .Name y py, .Name z pz] kt pt] (.Tuple [a, b, c] k2 pt2) X.env = pure (some [x, y, z]))
    (hs : swapsWithSole [.Tuple [.Name x px, .Name y py, .Name z pz] kt pt] (.Tuple [a, b, c] k2 pt2) pos.line X.env = pure false := by rfl) :
    PS X (.Assign [.Tuple [.Name x px, .Name y py, .Name z pz] kt pt] (.Tuple [a, b, c] k2 pt2) pos) (fun D σ H => ta σ H fun vs H1 => ∃ v w u, vs = [v, w, u] ∧ D.nx (((σ.set i (some v)).set j (some w)).set k (some u)) H1) := by
  refine ⟨fun pins s σ H D I h => ?_⟩
  rw [exec_Assign_arm]
  refine wpAny_bind (wpAny_standAt ?_)
  rw [hs]
  refine wpAny_bind (wpAny_pure ?_)
  rw [if_neg (by decide)]
  refine wpAny_bind (Tuple_ (thn (ha.run _ pins s σ H _ I h) fun us s1 ⟨vs, H1, I1, r1, q1⟩ => ?_))
  obtain ⟨v, w, u, e1, q1⟩ := q1
  subst e1
  obtain ⟨u1, u2, u3, rfl, rv, rw', ru⟩ : ∃ u1 u2 u3, us = [u1, u2, u3] ∧ RelV v u1 ∧ RelV w u2 ∧ RelV u u3 := by
    cases r1 with
    | cons p q =>
      cases q with
      | cons p' q' =>
        cases q' with
        | cons p'' q'' =>
          cases q''
          exact ⟨_, _, _, rfl, p, p', p''⟩
  refine wpAny_newObj_type ?_ (by show 3 ≤ sizeLine; decide)
  have I2 : Inv X pins σ H1 { s1 with heap := s1.heap.push { cls := .type "tuple", data := .seq [u1, u2, u3].toArray } } := I1.kept (t' := s1.toks) fun b o e => Heap.get?_push_of_some _ e
  rw [hw]
  refine wpAny_bind (wpAny_pure ?_)
  show wpAny (model X.prog X.w) X.A (do rule "assign.swapped-stores"; let items ← unpackItems (.ref s1.heap.objs.size) 3 none; assignInOrder [fun v => bindName X.env z v, fun v => bindName X.env y v, fun v => bindName X.env x v] items.reverse; pure Flow.next) _ _ _
  refine wpAny_bind (wpAny_rule (wpAny_bind (unpackItems_tuple (items := #[u1, u2, u3]) (I.ok.hd hc) (IsTup.new s1.heap _) fun h' hx' => ?_)))
  have I3 := I2.kept (h' := h') (t' := s1.toks) fun b o e => hx' b o (Nat.ne_of_lt (Heap.lt_size e)) e
  show wpAny _ _ (assignInOrder [fun v => bindName X.env z v, fun v => bindName X.env y v, fun v => bindName X.env x v] [u3, u2, u1] >>= fun _ => pure Flow.next) _ _ _
  refine wpAny_bind (assignInOrder_cons (wpAny_bindName (store_ok I3 hN hk (.inl hz) ru (fun s2 I4 => ?_) (.inr hz))))
  refine assignInOrder_cons (wpAny_bindName (store_ok I4 hN hj (.inl hy) rw' (fun s3 I5 => ?_) (.inr hy)))
  refine assignInOrder_cons (wpAny_bindName (store_ok I5 hN hi (.inl hx) rv (fun s4 I6 => assignInOrder_nil (wpAny_pure ?_)) (.inr hx)))
  have e : ((σ.set k (some u)).set j (some w)).set i (some v) = ((σ.set i (some v)).set j (some w)).set k (some u) := by
    rw [List.set_comm _ _ (Ne.symm hjk), List.set_comm _ _ (Ne.symm hik), List.set_comm _ _ (Ne.symm hij)]
  rw [e] at I6
  exact ⟨_, H1, I6, q1⟩
section
variable {K : Frag} {Γ : Ctx} {pos : Pos} {br : Bool}
def sPar3 (i j k : Nat) (f g h : FV) : SF := fun δ β => (f δ β).bind fun x => (g δ x.2).bind fun y => (h δ y.2).map fun z => (((δ.set i x.1).set j y.1).set k z.1, z.2, .nx)
theorem put_next' {Z F δ σ H i v s w t H0} (h : PutOk K Z F δ σ H v s) (ne : ∀ d, t = .ow d → ∀ p d, s = .ow d → v = .ref p → w ≠ .ref p) (hn : NewOk K H0 F H w t) (hw : PutOk K Z F δ σ H w t) : PutOk K Z F (δ.set i s) (σ.set i (some v)) H w t := by
  cases t with
  | fr d => exact hw
  | ow d => exact put_next h (ne d rfl) hw
  | no => exact hw.elim
  | bg => exact hw.elim
  | sc ns => exact hw.elim
theorem ds_par3 {i j k : Nat} {x y z : Str} {a b c : Expr} {px py pz pt : Pos} {kt k2 pt2} {f g h : FV} (hi : Γ.N[i]? = some x) (hj : Γ.N[j]? = some y) (hk : Γ.N[k]? = some z) (hij : i ≠ j) (hik : i ≠ k) (hjk : j ≠ k) (hsw : swp Γ.names [.Name x px, .Name y py, .Name z pz] [a, b, c] = some (some [x, y, z]))
    (hx : (Γ.names.lookup x == some NameKind.local) = true) (hy : (Γ.names.lookup y == some NameKind.local) = true) (hz : (Γ.names.lookup z == some NameKind.local) = true) (ha : DV Γ a f) (hb : DV Γ b g) (hc : DV Γ c h) (pa : plainE a = true) (pb : plainE b = true) (pc : plainE c = true) :
    DS Γ (.Assign [.Tuple [.Name x px, .Name y py, .Name z pz] kt pt] (.Tuple [a, b, c] k2 pt2) pos) (sPar3 i j k f g h) := fun X G => by
  have hx' : X.env.scope.names.lookup x = some .local := by rw [G.sc]; simpa using hx
  have hy' : X.env.scope.names.lookup y = some .local := by rw [G.sc]; simpa using hy
  have hz' : X.env.scope.names.lookup z = some .local := by rw [G.sc]; simpa using hz
  refine PS.weaken (ps_par3 G.calm G.nd (by rw [G.hN]; exact hi) (by rw [G.hN]; exact hj) (by rw [G.hN]; exact hk) hij hik hjk hx' hy' hz' (pa_cons (ha X G) (pa_cons (hb X G) (pa_cons (hc X G) pa_nil (star_plain pc _ _)) (star_plain pb _ _)) (star_plain pa _ _)) (swp_eq G.kind G.sc hsw) rfl) fun Dn σ H ⟨Z, F, β, δ, δ', β', o, rl, e, q⟩ => ?_
  obtain ⟨⟨s1, β1⟩, e1, e⟩ := Option.bind_eq_some_iff.mp e
  obtain ⟨⟨s2, β2⟩, e2, e⟩ := Option.bind_eq_some_iff.mp e
  obtain ⟨⟨s3, β3⟩, e3, e⟩ := Option.map_eq_some_iff.mp e
  cases e
  refine ⟨Z, F, β, δ, s1, β1, rl, e1, fun v F1 H1 p1 hn1 => ?_⟩
  have rl1 := rl.post p1
  refine ⟨Z, F1, β1, δ, s2, β2, rl1, e2, fun w F2 H2 p2 hn2 => ?_⟩
  have rl2 := rl1.post p2
  refine ⟨Z, F2, β2, δ, s3, _, rl2, e3, fun u F3 H3 p3 hn3 => ?_⟩
  have P12 := p1.trans p2
  have P := P12.trans p3
  have m1 : NewOk (un X) H F2 H2 v s1 := hn1.move (bag_there rl) p2
  have m1' : NewOk (un X) H F3 H3 v s1 := m1.move (bag_there rl) p3
  have m2 : NewOk (un X) H1 F3 H3 w s2 := hn2.move (bag_there rl1) p3
  have k1 := put_of rl m1'
  have k2 := put_of rl (NewOk.back p1 m2)
  have k3 := put_of rl (NewOk.back P12 hn3)
  refine ⟨v, w, u, rfl, q F3 _ H3 P.gr.fs ?_⟩
  have b2 := put_next' (i := i) k1 (fun d hd => new_ne rl hn1 m2 d hd) m2 k2
  have b3 := put_next' (i := i) k1 (fun d hd => new_ne rl m1 hn3 d hd) hn3 k3
  exact rel_put (rel_put (rel_put (rl.post P) k1) b2) (put_next' b2 (fun d hd => new_ne rl1 (NewOk.back p1 hn2 |> fun _ => hn2) hn3 d hd) hn3 b3)
end
end PD
namespace PD
open PySem PySem.Spec L2
section
variable {K : Frag} {Γ : Ctx} {pos : Pos} {br : Bool}
/-! ### an expression alone -/
def sExpr (f : FE) : SF := fun δ β => (f δ β).map fun x => (δ, x.2, .nx)
theorem ds_expr {e : Expr} {f : FE} (h : DE Γ e f) (hc : noComp e = true) : DS Γ (.Expr e pos) (sExpr f) := fun X G => PS.weaken (ps_expr (h X G) (swaps_no hc _ _ _)) fun Dn σ H ⟨Z, F, β, δ, δ', β', o, rl, e, q⟩ => by
  obtain ⟨⟨d, β1⟩, e1, e⟩ := Option.map_eq_some_iff.mp e
  cases e
  exact ⟨Z, F, β, δ, d, _, rl, e1, fun v F1 H1 p1 rv => q F1 σ H1 p1.gr.fs (rl.post p1)⟩
/-! ### x.append(e) -/
theorem few_one {e : Expr} (hp : plainE e = true) (cpos : Pos) (env : PySem.Env) : ((backTo cpos (starEach [e] env)).all (fun x => !x.1) && (backToKw cpos (keywordEach [] env)).all (fun x => x.1.isSome)
      && decide (([e] : List Expr).length + ([] : List Keyword).length + (if ([] : List Keyword).isEmpty then 0 else 1) < 30)) = true := by
  rw [star_plain hp]; rfl
def sApp (i : Nat) (f : FE) : SF := fun δ β => match δ[i]? with
  | some (.ow (.list ds)) => (f δ β).bind fun y => if plainD y.1 = true ∧ ds.length < 16777216 then some (δ.set i (.ow (.list (ds ++ [y.1]))), y.2, .nx) else none
  | _ => none
theorem ds_app {x : Str} {e : Expr} {p apos cpos : Pos} {i : Nat} {f : FE} (hN : Γ.N[i]? = some x) (hv : visK Γ.names x = true) (ho : okName x = true) (he : DE Γ e f) (hp : plainE e = true) (hl : (apos.endLine == cpos.line) = true) : DS Γ (.Expr (.Call (.Attribute (.Name x p) "append" apos) [e] [] cpos) pos) (sApp i f) := fun X G => by
  refine PS.weaken (ps_expr (pe_bm PySem.F.plainAttrs_list PySem.F.slot_list_append PySem.F.type_list_append mt_append (pe_slot G hN hv ho) (pa_cons (he X G) pa_nil (star_plain hp _ _)) rfl (few_one hp _ _) hl (star_plain hp _ _) rfl) (swaps_no rfl _ _ _)) fun Dn σ H ⟨Z, F, β, δ, δ', β', o, rl, e, q⟩ => ?_
  unfold sApp at e
  split at e
  · rename_i ds hs
    obtain ⟨⟨y, β1⟩, e1, e⟩ := Option.bind_eq_some_iff.mp e
    dsimp only at e
    split at e
    · rename_i hk
      cases e
      obtain ⟨a, e2, hf, hz, hb, w⟩ := rl.sl i _ hs
      obtain ⟨xs, hx, hd⟩ := w
      refine ⟨.ref a, e2, .inl ⟨rfl, xs, .inl (.inl hx)⟩, Z, F, β, δ, y, _, rl, e1, fun v F1 H1 p1 rv => ?_⟩
      have hx1 : H1 a = some (.lst xs) := p1.gr.kp a _ hx hb
      have hd1 := dpAll_mono p1.gr.fs _ _ hd
      refine ⟨a, xs, v, rfl, rfl, hx1, nd_fits (by rw [hd.len]; exact hk.2), ?_⟩
      exact q F1 σ _ p1.gr.fs (rel_mut (rl.post p1) hs e2 ⟨xs ++ [v], upd_same, hd1.append (.cons (rv.plain hk.1) .nil)⟩)
    · cases e
  · cases e
/-! ### x[k] = e -/
theorem set_dictK {X : Cx} (hu : X.A.units + 1 < cLine) : PSet X (fun o i v H Q => ∃ a H', o = .ref a ∧ DPut H a i v H' ∧ Q H') := by
  intro pins s σ H o i v ov iv u Q I ro ri rv h
  obtain ⟨a, H', rfl, g, q⟩ := h
  cases ro
  exact d_setItem hu I g ri rv fun s' I' => ⟨H', I', q⟩
theorem PSet.or {X : Cx} {t t' : TSet} (h : PSet X t) (h' : PSet X t') : PSet X (fun o i v H Q => t o i v H Q ∨ t' o i v H Q) := by
  intro pins s σ H o i v ov iv u Q I ro ri rv q
  rcases q with q | q
  · exact h pins s σ H o i v ov iv u Q I ro ri rv q
  · exact h' pins s σ H o i v ov iv u Q I ro ri rv q
def stoD (d k v : D) : Option D := match d, k with
  | .list ds, .int j => (ixN ds.length j).map fun n => .list (ds.set n v)
  | .dict kvs, k => if (keyOfD k).isSome = true ∧ kvs.length < 16777216 then some (.dict (putD kvs k v)) else none
  | _, _ => none
def sSto (i : Nat) (f g : FE) : SF := fun δ β => (f δ β).bind fun y => match δ[i]? with
  | some (.ow d) => (g δ y.2).bind fun k => if plainD y.1 = true then (stoD d k.1 y.1).map fun d' => (δ.set i (.ow d'), k.2, .nx) else none
  | _ => none
theorem sto_ok {Z F β δ σ H i a d k v kv vv d'} (rl : Rel K Z F β δ σ H) (hs : δ[i]? = some (.ow d)) (e2 : σ[i]? = some (some (.ref a))) (hk : Rp K F kv k) (hv : Dq K F vv v) (e : stoD d k v = some d') :
    (∃ u, (rSetL (.ref a) kv vv H fun H' => H' = upd H a u) ∧ Rel K Z F β (δ.set i (.ow d')) σ (upd H a u)) ∨ (∃ u, DPut H a kv vv (upd H a u) ∧ Rel K Z F β (δ.set i (.ow d')) σ (upd H a u)) := by
  obtain ⟨a', e3, hf, hz, hb, w⟩ := rl.sl i _ hs
  rw [e2] at e3; cases e3
  unfold stoD at e
  split at e
  · rename_i ds j
    obtain ⟨n, e4, e⟩ := Option.map_eq_some_iff.mp e
    cases e
    obtain ⟨xs, hx, hd⟩ := w
    have hkv := dp_int (hk.plain rfl)
    subst hkv
    refine .inl ⟨.lst (xs.set n vv), ⟨a, xs, j, n, rfl, rfl, hx, by rw [hd.len]; exact e4, rfl⟩, rel_mut rl hs e2 ⟨_, upd_same, hd.set hv n⟩⟩
  · rename_i kvs k
    split at e
    · rename_i hc
      cases e
      obtain ⟨kk, hkk⟩ := Option.isSome_iff_exists.mp hc.1
      have hyk := keyD_of hkk
      subst hyk
      obtain ⟨ob, hx, hd⟩ := w
      cases hd with
      | @k ks _ hq hn =>
        have hkv : kv = kV kk := kV_of (hk.plain (by cases kk <;> rfl))
        subst hkv
        refine .inr ⟨.dK (putK ks kk vv), .k hx (nd_fits (by rw [kvp_len hq]; exact hc.2)), rel_mut rl hs e2 ⟨_, upd_same, .k (putD_kvp hv hq hn) (putK_nodup hn)⟩⟩
    · cases e
  · cases e
theorem ha_sub {o k : Expr} {spos : Pos} (hp : plainE k = true) (env : PySem.Env) : ∀ v, assign (.Subscript o k spos) env v = (do
      let ov ← holding [v] (eval o env)
      let iv ← holding [v, ov] (eval k env)
      standAt spos
      holding [v, ov, iv] (setItem ov iv v)
      release [v, ov, iv] []) := by
  intro v
  cases k <;> first | rfl | cases hp
theorem ds_sto {x : Str} {e k : Expr} {p spos : Pos} {i : Nat} {f g : FE} (hN : Γ.N[i]? = some x) (hv : visK Γ.names x = true) (ho : okName x = true) (he : DE Γ e f) (hk : DE Γ k g) (hp : plainE k = true) (hc : noComp e = true) : DS Γ (.Assign [.Subscript (.Name x p) k spos] e pos) (sSto i f g) := fun X G => by
  refine PS.weaken (ps_asg (he X G) (pg_sub (pe_slot G hN hv ho) (hk X G) (PSet.or set_list (set_dictK G.u1)) (ha_sub hp _)) (by show swapsWith e (some (.Subscript (.Name x p) k spos)) pos.line X.env = pure false; exact swaps_no hc _ _ _) rfl) fun Dn σ H ⟨Z, F, β, δ, δ', β', o, rl, e, q⟩ => ?_
  obtain ⟨⟨y, β1⟩, e1, e⟩ := Option.bind_eq_some_iff.mp e
  refine ⟨Z, F, β, δ, y, β1, rl, e1, fun v F1 H1 p1 rv => ?_⟩
  dsimp only at e
  split at e
  · rename_i d hs
    obtain ⟨⟨kk, β2⟩, e2, e⟩ := Option.bind_eq_some_iff.mp e
    dsimp only at e
    split at e
    · rename_i hp
      obtain ⟨d', e3, e⟩ := Option.map_eq_some_iff.mp e
      cases e
      obtain ⟨a, e4, hf, hz, hb, w⟩ := rl.sl i _ hs
      refine ⟨.ref a, e4, Z, F1, β1, δ, kk, _, rl.post p1, e2, fun kv F2 H2 p2 rk => ?_⟩
      have rl2 := (rl.post p1).post p2
      have sm := p1.gr.fs.trans p2.gr.fs
      rcases sto_ok rl2 hs e4 rk (dp_mono p2.gr.fs _ _ (rv.plain hp)) e3 with ⟨u, h1, h2⟩ | ⟨u, h1, h2⟩
      · obtain ⟨pp, xs, kq, j, q1, q2, q3, q4, q5⟩ := h1
        refine .inl ⟨pp, xs, kq, j, q1, q2, q3, q4, ?_⟩
        rw [q5]
        exact q F2 σ _ sm h2
      · exact .inr ⟨a, _, rfl, h1, q F2 σ _ sm h2⟩
    · cases e
  · cases e

end
end PD
namespace PD
open PySem PySem.Spec L2
section
variable {X : Cx}
/-! ### min, max of data (lists and tuples) -/
def allAlike (ds : List D) : Bool := (ds.all fun x => ds.all fun y => PySem.W.alike x y) && ds.all fun d => !isN d
def okBest (ds : List D) : Bool := allAlike ds && decide (PyData.depthAll ds ≤ 64)
theorem allAlike_of {ds : List D} (h : allAlike ds = true) : PySem.W.AlikeAll ds := by
  unfold allAlike at h
  rw [Bool.and_eq_true] at h
  refine ⟨fun d hd d' hd' => List.all_eq_true.mp (List.all_eq_true.mp h.1 d hd) d' hd', fun d hd e => ?_⟩
  have := List.all_eq_true.mp h.2 d hd
  subst e; cases this
theorem dpAll_get {F : Hp} : ∀ {xs : List V} {ds : List D} {i : Nat} {x : V}, DpAll X.K F xs ds → xs[i]? = some x → ∃ d, ds[i]? = some d ∧ Dp X.K F x d
  | _, _, _, _, .nil, e => by cases e
  | _, _, 0, _, .cons h _, e => by cases e; exact ⟨_, rfl, h⟩
  | _ :: xs, _ :: ds, i + 1, _, .cons _ r, e => dpAll_get (xs := xs) (ds := ds) (i := i) r (by simpa using e)
def rBest (K : PySem.W.Frag) (g : D → List D → D) : List V → Hp → VK → Prop := fun vs H Q => ∃ (a : Addr) (xs : List V) (d : D) (ds : List D), vs = [.ref a] ∧ (SqL K H a xs ∨ SqT K H a xs) ∧ DpAll K H xs (d :: ds) ∧ okBest (d :: ds) = true ∧
  ∀ (i : Nat) (x : V), xs[i]? = some x → (d :: ds)[i]? = some (g d ds) → Q x H
theorem best_end {pins σ H s Q xs d ds its} {g : D → List D → D} (I : L2.Inv X pins σ H s) (r' : Vals xs its) (hd : DpAll X.K H xs (d :: ds))
    (q : ∀ (i : Nat) (x : V), xs[i]? = some x → (d :: ds)[i]? = some (g d ds) → Q x H) (i : Nat) (v : Value) (h' : Heap) (tk : _) (bs : List Addr) (e : its.toArray[i]? = some v) (hr : Reads h' v (g d ds) bs)
    (hk : ∀ b o, s.heap.get? b = some o → h'.get? b = some o) : EP X pins σ Q v { s with heap := h', toks := tk } := by
  have e' : its[i]? = some v := by simpa using e
  obtain ⟨x, hx, rx⟩ : ∃ x, xs[i]? = some x ∧ RelV x v := by
    have hl := r'.length
    have hi : i < its.length := (List.getElem?_eq_some_iff.mp e').1
    refine ⟨xs[i]'(hl ▸ hi), List.getElem?_eq_getElem _, ?_⟩
    obtain ⟨u, h1, h2⟩ := r'.get (List.getElem?_eq_getElem (hl ▸ hi))
    rw [e'] at h1; cases h1
    exact h2
  obtain ⟨d', hd', hx'⟩ := dpAll_get hd hx
  obtain ⟨as, r1⟩ := Dp.reads I d' x v hx' rx
  have r2 := PyProof.Rows.reads_det (fun b o h _ => hk b o h) r1 hr
  exact ⟨x, H, I.kept hk, rx, q i x hx (by rw [hd', r2.1])⟩
theorem cr_maxD (hc : X.calm = true) (hu : X.A.units + 66 < cLine) : CallR X (.builtin "max") (rBest X.K PySem.W.maxD) := by
  intro pins s σ H vs us Q I r h
  obtain ⟨a, xs, d, ds, rfl, hs, hd, ok, q⟩ := h
  unfold okBest at ok
  rw [Bool.and_eq_true] at ok
  have h64 := of_decide_eq_true ok.2
  rw [Vals.ref1 r]
  rcases hs with hs | hs
  · obtain ⟨its, rv, hl, _⟩ := I.list hs
    obtain ⟨as, ra⟩ := Dp.readsAll I _ _ _ hd rv
    refine PySem.W.max_list_data (I.ok.hd hc) hl.isList ra (allAlike_of ok.1) (by omega) fun i v h' tk bs e hr hk => ?_
    exact best_end I rv hd q i v h' tk bs e hr hk
  · obtain ⟨its, rv, hl, _⟩ := I.tuple hs
    obtain ⟨as, ra⟩ := Dp.readsAll I _ _ _ hd rv
    refine PySem.W.max_tuple_data (I.ok.hd hc) hl ra (allAlike_of ok.1) (by omega) fun i v h' tk bs e hr hk => ?_
    exact best_end I rv hd q i v h' tk bs e hr hk
theorem cr_minD (hc : X.calm = true) (hu : X.A.units + 66 < cLine) : CallR X (.builtin "min") (rBest X.K PySem.W.minD) := by
  intro pins s σ H vs us Q I r h
  obtain ⟨a, xs, d, ds, rfl, hs, hd, ok, q⟩ := h
  unfold okBest at ok
  rw [Bool.and_eq_true] at ok
  have h64 := of_decide_eq_true ok.2
  rw [Vals.ref1 r]
  rcases hs with hs | hs
  · obtain ⟨its, rv, hl, _⟩ := I.list hs
    obtain ⟨as, ra⟩ := Dp.readsAll I _ _ _ hd rv
    refine PySem.W.min_list_data (I.ok.hd hc) hl.isList ra (allAlike_of ok.1) (by omega) fun i v h' tk bs e hr hk => ?_
    exact best_end I rv hd q i v h' tk bs e hr hk
  · obtain ⟨its, rv, hl, _⟩ := I.tuple hs
    obtain ⟨as, ra⟩ := Dp.readsAll I _ _ _ hd rv
    refine PySem.W.min_tuple_data (I.ok.hd hc) hl ra (allAlike_of ok.1) (by omega) fun i v h' tk bs e hr hk => ?_
    exact best_end I rv hd q i v h' tk bs e hr hk
end
section
variable {K : Frag} {Γ : Ctx} {pos : Pos}
def seqIn : D → Option (List D)
  | .list ds => some ds
  | .tuple ds => some ds
  | _ => none
theorem bv_seqIn {ob F H v d ds} (h : Bv K ob F H v d) (fh : Same F H) (e : seqIn d = some ds) : ∃ a xs, v = .ref a ∧ (SqL K.K H a xs ∨ SqT K.K H a xs) ∧ DqAll K F xs ds := by
  unfold seqIn at e
  split at e
  · cases e
    obtain ⟨a, xs, h1, h2, h3⟩ := bv_lst h fh
    exact ⟨a, xs, h1, .inl (.of h2), h3⟩
  · cases e
    obtain ⟨a, xs, h1, h0, h2, h3⟩ := bv_tup h fh
    exact ⟨a, xs, h1, .inr h2, h3⟩
  · cases e
def fBest (g : D → List D → D) : List D → Option D
  | [x] => (seqIn x).bind fun ds => match ds with
    | [] => none
    | d :: ds => if okBest (d :: ds) = true then some (g d ds) else none
  | _ => none
theorem cv_best {g : D → List D → D} (hg : ∀ d ds, g d ds ∈ d :: ds) : CV K (rBest K.K g) (fBest g) := ⟨fun ob F H β vs ds d Q fh bg hv e q => by
  unfold fBest at e
  split at e
  · obtain ⟨es, e1, e⟩ := Option.bind_eq_some_iff.mp e
    obtain ⟨v, rfl, h⟩ := bva1 hv
    obtain ⟨a, xs, rfl, h1, h2⟩ := bv_seqIn h fh e1
    split at e
    · cases e
    · split at e
      · rename_i hk
        cases e
        refine ⟨a, xs, _, _, rfl, h1, dqAll_dp _ _ (dpAll_mono fh _ _ h2), hk, fun i x hx he => ?_⟩
        obtain ⟨v, h3, h4⟩ := h2.get he
        rw [hx] at h3; cases h3
        exact q _ F H (post0 fh bg) (.dp h4)
      · cases e
  · cases e⟩
theorem foldl_pick {f : D → D → Bool} : ∀ (ds : List D) (d : D), ds.foldl (fun a y => if f a y then y else a) d ∈ d :: ds
  | [], d => List.mem_cons_self
  | x :: r, d => by
    rw [List.foldl_cons]
    have := foldl_pick (f := f) r (if f d x then x else d)
    rcases List.mem_cons.mp this with h | h
    · rw [h]
      split
      · exact List.mem_cons_of_mem _ List.mem_cons_self
      · exact List.mem_cons_self
    · exact List.mem_cons_of_mem _ (List.mem_cons_of_mem _ h)
theorem maxD_mem (d : D) (ds : List D) : PySem.W.maxD d ds ∈ d :: ds := foldl_pick (f := fun a y => PySem.W.dataLt a y) ds d
theorem minD_mem (d : D) (ds : List D) : PySem.W.minD d ds ∈ d :: ds := foldl_pick (f := fun a y => PySem.W.dataLt y a) ds d
/-! ### the calls of built-ins, by name -/
structure CB (Γ : Ctx) (x : Str) (f : List D → Option D) : Prop where
  run : ∀ {p pos : Pos} {e : Expr} {es : List Expr} {g : FA}, glK Γ.names x = true → DBA Γ (e :: es) g → (e :: es).all plainE = true → DE Γ (.Call (.Name x p) (e :: es) [] pos) (dCall f g)
def fMax : List D → Option D := orC (fBest PySem.W.maxD) fMax2
def fMin : List D → Option D := orC (fBest PySem.W.minD) fMin2
theorem Good.u66 {X : Cx} (G : Good Γ X) : X.A.units + 66 < cLine := by have := G.u; omega
theorem cb_all : CB Γ "all" fAll := ⟨fun hg ha hp => de_callB (fun X G => cr_all G.calm) (fun X => cv_all) hg rfl rfl ha hp⟩
theorem cb_any : CB Γ "any" fAny := ⟨fun hg ha hp => de_callB (fun X G => cr_any G.calm) (fun X => cv_any) hg rfl rfl ha hp⟩
theorem cb_len : CB Γ "len" fLen := ⟨fun hg ha hp => de_callB (r := fun X xs H Q => (∃ p ys, xs = [.ref p] ∧ (SqL X.K H p ys ∨ SqT X.K H p ys) ∧ Q (.int ys.length) H) ∨ (∃ z, xs = [.str z] ∧ z.length ≤ sizeLine ∧ Q (.int z.length) H) ∨ (∃ a kvs, xs = [.ref a] ∧ H a = some (.dK kvs) ∧ Q (.int kvs.length) H))
    (fun X _ => .or call_len_seq (.or call_len_str call_lenD')) (fun X => cv_len) hg rfl rfl ha hp⟩
theorem cb_max : CB Γ "max" fMax := ⟨fun hg ha hp => de_callB (fun X G => .or (cr_maxD G.calm G.u66) (call_max2 G.calm)) (fun X => (cv_best maxD_mem).or cv_max2) hg rfl rfl ha hp⟩
theorem cb_min : CB Γ "min" fMin := ⟨fun hg ha hp => de_callB (fun X G => .or (cr_minD G.calm G.u66) (call_min2 G.calm)) (fun X => (cv_best minD_mem).or cv_min2) hg rfl rfl ha hp⟩
theorem cb_abs : CB Γ "abs" fAbs := ⟨fun hg ha hp => de_callB (fun X G => call_abs) (fun X => cv_abs) hg rfl rfl ha hp⟩
theorem cb_sum : CB Γ "sum" fSum := ⟨fun hg ha hp => de_callB (fun X G => cr_sum G.calm) (fun X => cv_sum) hg rfl rfl ha hp⟩
theorem cb_int : CB Γ "int" fInt := ⟨fun hg ha hp => de_callTy (fun X G => call_int1) (fun X => cv_int) hg rfl rfl ha hp⟩
theorem cb_list : CB Γ "list" fList := ⟨fun hg ha hp => de_callTy (fun X G => call_list_of) (fun X => cv_list) hg rfl rfl ha hp⟩
theorem cb_tuple : CB Γ "tuple" fTuple := ⟨fun hg ha hp => de_callTy (fun X G => call_tuple_of) (fun X => cv_tuple) hg rfl rfl ha hp⟩
end
end PD
namespace PD
open PySem PySem.Spec L2
/-! ### a def of the text, by plain functions -/
/-- the slots at the entry -/
def startD (n : Nat) (bagged : Bool) (ds : List D) : Env :=
  (if bagged = true then [.bg] else []) ++ ds.map .fr ++ List.replicate (n - ((if bagged = true then 1 else 0) + ds.length)) .no
def outD (r : Env × Bag × Out) : Option (D × Bag) := match r.2.2 with
  | .rt d => some (d, r.2.1)
  | .nx => some (.none, r.2.1)
  | _ => none
def runD (S : SF) (n : Nat) (bagged : Bool) (ds : List D) (β : Bag) : Option (D × Bag) := (S (startD n bagged ds) β).bind outD
section
variable {P : Program} {w : World} {K : PySem.W.Frag} {mg : Str → Option Value} {base : Heap}
/-- a def of the module as it stands behind the top -/
structure Df (K : PySem.W.Frag) (mg : Str → Option Value) (x : Str) (st : Stmt) (ps : List Str) : Prop where
  ex : ∃ f fd, Fun K x x st f fd ∧ mg x = some (.ref f) ∧ Binds K fd ps []
/-- a def keeps a promise, called with k levels of room -/
def UOk (P : Program) (w : World) (K : PySem.W.Frag) (mg : Str → Option Value) (base : Heap) (k : Nat) (u : UFn) : Prop := ∃ (f : Addr) (fd : FuncData) (ps : List Str), FnOk P w K mg base CX0 k f fd ps (spU ⟨P, w, K⟩ u) ∧ mg u.name = some (.ref f) ∧
  PySem.W.keepIn K (.ref f) = true ∧ Binds K fd ps []
theorem UOk.mono {j k : Nat} {u : UFn} (h : UOk P w K mg base j u) (l : j ≤ k) : UOk P w K mg base k u := by
  obtain ⟨f, fd, ps, F, m, p, b⟩ := h
  exact ⟨f, fd, ps, F.mono l, m, p, b⟩
/-- another promise of the same def -/
theorem UOk.imp {k : Nat} {u u' : UFn} (h : UOk P w K mg base k u) (hn : u'.name = u.name) (hb : u'.bagged = u.bagged) (ha : u'.arity = u.arity) (hg : ∀ ds β r, ds.length + (if u.bagged = true then 1 else 0) = u.arity → u'.g ds β = some r → u.g ds β = some r) : UOk P w K mg base k u' := by
  obtain ⟨f, fd, ps, F, m, p, b⟩ := h
  refine ⟨f, fd, ps, F.imp fun vs H Q E hs => ?_, by rw [hn]; exact m, p, b⟩
  obtain ⟨F0, ob, ds, β, β', d, h1, h2, h3, h4, h5, h6⟩ := hs
  rw [hb] at h3
  rw [ha] at h4
  refine ⟨F0, ob, ds, β, β', d, h1, h2, h3, h4, hg ds β _ ?_ h5, h6⟩
  split at h3
  · obtain ⟨b, vs', _, hv, hr⟩ := h3
    subst hv
    rw [List.length_cons, hr.len] at h4
    simpa [*] using h4
  · rw [h3.2.len] at h4
    simpa [*] using h4
def CsOk (P : Program) (w : World) (K : PySem.W.Frag) (mg : Str → Option Value) (x : Str) (d : D) : Prop := ∃ (u : Value) (v : V), mg x = some u ∧ RelV v u ∧ ∀ F, Dq ⟨P, w, K⟩ F v d
def BOk (P : Program) (w : World) (K : PySem.W.Frag) (mg : Str → Option Value) (base : Heap) (k : Nat) : Prop := ∃ (f : Addr) (fd : FuncData) (ps : List Str), FnOk P w K mg base CX0 k f fd ps (spBags K) ∧ mg "_law_bags" = some (.ref f) ∧
  PySem.W.keepIn K (.ref f) = true ∧ Binds K fd ps []
/-- what a body may lean on -/
structure Arnd (P : Program) (w : World) (K : PySem.W.Frag) (mg : Str → Option Value) (base : Heap) (k : Nat) (Γ : Ctx) : Prop where
  bl : ∀ x, x ∈ bltNames → mg x = none
  us : ∀ u, u ∈ Γ.fns → UOk P w K mg base k u
  cs : ∀ c, c ∈ Γ.cs → CsOk P w K mg c.1 c.2
  bgs : Γ.bags = true → BOk P w K mg base k := by exact fun h => nomatch h
theorem start_rel {n : Nat} {ob : Option Addr} {ds : List D} {vs : List V} {F H : Hp} {β : Bag} {b : Bool} {N : List Str} (hn : N.length = n) (fh : Same F H) (bg : BagAt ob F H β)
    (h : if b = true then ∃ b vs', ob = some b ∧ vs = .ref b :: vs' ∧ RpAll ⟨P, w, K⟩ F vs' ds else ob = none ∧ RpAll ⟨P, w, K⟩ F vs ds) : Rel ⟨P, w, K⟩ ⟨F, H, ob⟩ F β (startD n b ds) (start N vs) H := by
  have noow : ∀ (i : Nat) (d : D), (startD n b ds)[i]? ≠ some (.ow d) := by
    intro i d e
    have hm := List.mem_of_getElem? e
    unfold startD at hm
    rw [List.mem_append, List.mem_append] at hm
    rcases hm with (hm | hm) | hm
    · split at hm
      · simp at hm
      · simp at hm
    · obtain ⟨_, _, e⟩ := List.mem_map.mp hm; cases e
    · have := List.eq_of_mem_replicate hm; cases this
  have frz : ∀ (vs : List V) (ds : List D) (i : Nat) (s : Sl), RpAll ⟨P, w, K⟩ F vs ds → (ds.map Sl.fr)[i]? = some s → ∃ d v, s = .fr d ∧ vs[i]? = some v ∧ Rp ⟨P, w, K⟩ F v d := by
    intro vs ds
    induction ds generalizing vs with
    | nil => intro i s _ e; simp at e
    | cons d r ih =>
      intro i s h e
      cases h with
      | cons h1 h2 =>
        cases i with
        | zero => simp at e; subst e; exact ⟨_, _, rfl, rfl, h1⟩
        | succ i => simpa using ih _ i s h2 (by simpa using e)
  have rest : ∀ (m : Nat) (i : Nat) (s : Sl), (List.replicate m Sl.no)[i]? = some s → s = .no := fun m i s e => List.eq_of_mem_replicate (List.mem_of_getElem? e)
  refine ⟨.refl, fh, bg, ?_, fun i s e => ?_, fun i j d e _ h1 _ => absurd h1 (noow i d)⟩
  · subst hn
    cases b with
    | true =>
      rw [if_pos rfl] at h
      obtain ⟨b, vs', _, hv, hr⟩ := h
      subst hv
      have := hr.len
      simp [startD, L2.start, this]; omega
    | false =>
      rw [if_neg Bool.false_ne_true] at h
      have := h.2.len
      simp [startD, L2.start, this]
  · cases b with
    | true =>
      rw [if_pos rfl] at h
      obtain ⟨b, vs', hb, hv, hr⟩ := h
      subst hv
      unfold startD at e
      rw [if_pos rfl, if_pos rfl] at e
      cases i with
      | zero =>
        simp at e; subst e
        exact ⟨b, rfl, hb⟩
      | succ i =>
        have e' : (ds.map Sl.fr ++ List.replicate (n - (1 + ds.length)) Sl.no)[i]? = some s := by simpa using e
        rw [List.getElem?_append] at e'
        split at e'
        · obtain ⟨d, v, rfl, e3, hr'⟩ := frz _ _ _ _ hr e'
          refine ⟨v, ?_, hr'⟩
          show ((V.ref b :: vs').map some ++ _)[i + 1]? = _
          rw [List.getElem?_append_left (by simp; exact (List.getElem?_eq_some_iff.mp e3).1)]
          simp [e3]
        · rw [rest _ _ _ e']; trivial
    | false =>
      rw [if_neg Bool.false_ne_true] at h
      unfold startD at e
      rw [if_neg Bool.false_ne_true] at e
      have e' : (ds.map Sl.fr ++ List.replicate (n - (0 + ds.length)) Sl.no)[i]? = some s := by simpa using e
      rw [List.getElem?_append] at e'
      split at e'
      · obtain ⟨d, v, rfl, e3, hr'⟩ := frz _ _ _ _ h.2 e'
        refine ⟨v, ?_, hr'⟩
        show (vs.map some ++ _)[i]? = _
        rw [List.getElem?_append_left (by simp; exact (List.getElem?_eq_some_iff.mp e3).1)]
        simp [e3]
      · rw [rest _ _ _ e']; trivial
/-- THE RULE of a def -/
theorem uok_of {x : Str} {st : Stmt} {ps : List Str} {Γ : Ctx} {u : UFn} {S : SF} {k : Nat} (D0 : Df K mg x st ps) (ar : Arnd P w K mg base k Γ) (hx : u.name = x) (sc : FnScope Γ.N ps (defScope st)) (hn : Γ.names = (defScope st).names) (hf : Γ.fn = fun _ => true)
    (hS : DSs Γ (defBody st) S) (hl : ps.length = u.arity) {n : Nat} {b0 : Bool} (hN0 : Γ.N.length = n) (hb0 : u.bagged = b0) (hg : ∀ ds β r, ds.length + (if u.bagged = true then 1 else 0) = u.arity → u.g ds β = some r → runD S n b0 ds β = some r) : UOk P w K mg base (k + 1) u := by
  subst hx hN0 hb0
  obtain ⟨f, fd, F, m, b⟩ := D0.ex
  refine ⟨f, fd, ps, ?_, m, F.kp, b⟩
  refine F.ok sc (fun vs H Q E h => ?_) (fun cdv A outer s H vs Q E hr h => ?_)
  · obtain ⟨F0, ob, ds, β, β', d, h1, h2, h3, h4, h5, h6⟩ := h
    rw [h4, hl]
  · obtain ⟨F0, ob, ds, β, β', d, h1, h2, h3, h4, h5, h6⟩ := h
    have hlen : ds.length + (if u.bagged = true then 1 else 0) = u.arity := by
      split at h3
      · obtain ⟨b, vs', _, hv, hr⟩ := h3
        subst hv
        rw [List.length_cons, hr.len] at h4
        simpa [*] using h4
      · rw [h3.2.len] at h4
        simpa [*] using h4
    have e := hg ds β _ hlen h5
    obtain ⟨⟨δ1, β1, o⟩, e1, e2⟩ := Option.bind_eq_some_iff.mp e
    refine ⟨_, hS _ ⟨rfl, sc.nd, hn.symm, sc.kind, rfl, rfl, fun x hx => ?_, hr.mono (Nat.zero_le _), ar.bl, fun u hu => ?_, fun c hc => ar.cs c hc, fun hb => ?_⟩, ?_⟩
    · rfl
    · obtain ⟨f1, fd1, ps1, F1, m1, p1, b1⟩ := ar.us u hu
      exact ⟨k, f1, fd1, ps1, F1, hr, m1, p1, b1⟩
    · obtain ⟨f1, fd1, ps1, F1, m1, p1, b1⟩ := ar.bgs hb
      exact ⟨k, f1, fd1, ps1, F1, hr, m1, p1, b1⟩
    · refine ⟨⟨F0, H, ob⟩, F0, β, _, δ1, β1, o, start_rel rfl h1 h2 h3, e1, fun F' σ' H' s1 r1 => ?_⟩
      unfold outD at e2
      cases o with
      | nx => cases e2; exact h6 .non F' H' ⟨r1.gr, r1.fh, r1.bg⟩ (.dp .non)
      | rt d' => cases e2; exact fun v rv => h6 v F' H' ⟨r1.gr, r1.fh, r1.bg⟩ rv
      | bk => cases e2
      | ct => cases e2
theorem uok_mk {x : Str} {st : Stmt} {ps : List Str} {Γ : Ctx} {b : Bool} {a n : Nat} {S : SF} {k : Nat} (D0 : Df K mg x st ps) (ar : Arnd P w K mg base k Γ) (sc : FnScope Γ.N ps (defScope st)) (hn : Γ.names = (defScope st).names) (hf : Γ.fn = fun _ => true)
    (hS : DSs Γ (defBody st) S) (hl : ps.length = a) (hN0 : Γ.N.length = n) : UOk P w K mg base (k + 1) ⟨x, b, a, runD S n b⟩ :=
  uok_of (u := ⟨x, b, a, runD S n b⟩) D0 ar rfl sc hn hf hS hl hN0 rfl fun _ _ _ _ h => h
def AllU (P : Program) (w : World) (K : PySem.W.Frag) (mg : Str → Option Value) (base : Heap) (k : Nat) : List UFn → Prop
  | [] => True
  | u :: us => UOk P w K mg base k u ∧ AllU P w K mg base k us
def AllC (P : Program) (w : World) (K : PySem.W.Frag) (mg : Str → Option Value) : List (Str × D) → Prop
  | [] => True
  | c :: cs => CsOk P w K mg c.1 c.2 ∧ AllC P w K mg cs
theorem all_us {k : Nat} : ∀ {us : List UFn}, AllU P w K mg base k us → ∀ u, u ∈ us → UOk P w K mg base k u
  | [], _, _, hu => by cases hu
  | u :: us, h, v, hv => by
    rcases List.mem_cons.mp hv with e | e
    · rw [e]; exact h.1
    · exact all_us h.2 v e
theorem all_cs : ∀ {cs : List (Str × D)}, AllC P w K mg cs → ∀ c, c ∈ cs → CsOk P w K mg c.1 c.2
  | [], _, _, hu => by cases hu
  | u :: us, h, v, hv => by
    rcases List.mem_cons.mp hv with e | e
    · rw [e]; exact h.1
    · exact all_cs h.2 v e
theorem uok_zero {x : Str} {st : Stmt} {ps : List Str} {u : UFn} {k : Nat} (D0 : Df K mg x st ps) (hx : u.name = x) (hg : ∀ ds β, u.g ds β = none) : UOk P w K mg base k u := by
  subst hx
  obtain ⟨f, fd, F, m, b⟩ := D0.ex
  refine ⟨f, fd, ps, ⟨fun vs H Q E h => ?_, fun A outer s H args us vs Q E hr he hb hv h => ?_⟩, m, F.kp, b⟩
  · obtain ⟨F0, ob, ds, β, β', d, h1, h2, h3, h4, h5, h6⟩ := h
    rw [hg] at h5; cases h5
  · obtain ⟨F0, ob, ds, β, β', d, h1, h2, h3, h4, h5, h6⟩ := h
    rw [hg] at h5; cases h5
end
end PD
namespace PD
open PySem PySem.Spec L2
theorem mem_at {α : Type} {l : List α} {x : α} (i : Nat) (h : l[i]? = some x) : x ∈ l := List.mem_of_getElem? h
section
variable {K : Frag} {Γ : Ctx} {pos : Pos} {br : Bool}
/-! ### a comprehension under a name that is no local of its frame -/
def noSw (Γ : Ctx) (y : Str) (py : Pos) : Expr → Bool
  | .ListComp _ _ s p => !((Γ.names.lookup y == some NameKind.local) && (py.line == p.line) && !(s.names.any fun (n, k) => n == y && (k == NameKind.local || k == NameKind.cell)))
  | .DictComp _ _ _ s p => !((Γ.names.lookup y == some NameKind.local) && (py.line == p.line) && !(s.names.any fun (n, k) => n == y && (k == NameKind.local || k == NameKind.cell)))
  | .SetComp .. => false
  | _ => true
theorem noSw_of {X : Cx} (G : Good Γ X) {y : Str} {py : Pos} {e : Expr} (h : noSw Γ y py e = true) (l : Nat) : swapsWith e (some (.Name y py)) l X.env = pure false := by
  have hb : X.env.blockKind = .function := by unfold PySem.Env.blockKind; rw [G.kind]; rfl
  have hk : X.env.kindOf y = Γ.names.lookup y := by rw [← G.sc]; rfl
  cases e with
  | ListComp a b s p =>
    unfold noSw at h
    unfold swapsWith
    simp only [hb, hk, Expr.pos]
    simp only [Bool.not_eq_true'] at h
    show pure ((ScopeKind.function == ScopeKind.function) && _ && _ && _) = _
    rw [show ((ScopeKind.function == ScopeKind.function) : Bool) = true from rfl, Bool.true_and, h]
  | DictComp a b c s p =>
    unfold noSw at h
    unfold swapsWith
    simp only [hb, hk, Expr.pos]
    simp only [Bool.not_eq_true'] at h
    show pure ((ScopeKind.function == ScopeKind.function) && _ && _ && _) = _
    rw [show ((ScopeKind.function == ScopeKind.function) : Bool) = true from rfl, Bool.true_and, h]
  | SetComp a b s p => cases h
  | _ => rfl
theorem ds_setO' {i : Nat} {x : Str} {e : Expr} {p : Pos} {f : FA} (hN : Γ.N[i]? = some x) (hl : locK Γ x = true) (he : DF Γ e f) (hc : noSw Γ x p e = true) : DS Γ (.Assign [.Name x p] e pos) (sSetO i f) := fun X G => by
  obtain ⟨h1, h2⟩ := loc_of G hl
  refine PS.weaken (ps_set G.nd (by rw [G.hN]; exact hN) h1 (he X G) (noSw_of G hc _) h2) fun Dn σ H ⟨Z, F, β, δ, δ', β', o, rl, e, q⟩ => ?_
  obtain ⟨⟨d, β1⟩, e1, e⟩ := Option.map_eq_some_iff.mp e
  cases e
  exact ⟨Z, F, β, δ, d, _, rl, e1, fun pa xs F1 H1 p1 hn hf hp hx => q F1 _ H1 p1.gr.fs (own_new (d := .list _) rl p1 hn hf ⟨xs, hp, hx⟩ i)⟩
theorem ds_setK' {i : Nat} {x : Str} {e : Expr} {p : Pos} {f : FK} (hN : Γ.N[i]? = some x) (hl : locK Γ x = true) (he : DK Γ e f) (hc : noSw Γ x p e = true) : DS Γ (.Assign [.Name x p] e pos) (sSetK i f) := fun X G => by
  obtain ⟨h1, h2⟩ := loc_of G hl
  refine PS.weaken (ps_set G.nd (by rw [G.hN]; exact hN) h1 (he X G) (noSw_of G hc _) h2) fun Dn σ H ⟨Z, F, β, δ, δ', β', o, rl, e, q⟩ => ?_
  obtain ⟨⟨d, β1⟩, e1, e⟩ := Option.map_eq_some_iff.mp e
  cases e
  exact ⟨Z, F, β, δ, d, _, rl, e1, fun pa ho F1 H1 p1 hn hf hp hx => q F1 _ H1 p1.gr.fs (own_new (d := .dict _) rl p1 hn hf ⟨ho, hp, hx⟩ i)⟩
/-! ### the bag's own numbers -/
def bagGet (β : Bag) (k : Int) : Option Int := if k = 0 then some β.1 else if k = 1 then some β.2.1 else if k = 2 then some β.2.2 else none
def bagSet (β : Bag) (k v : Int) : Option Bag := if k = 0 then some (v, β.2.1, β.2.2) else if k = 1 then some (β.1, v, β.2.2) else if k = 2 then some (β.1, β.2.1, v) else none
def dBag (i : Nat) (k : Int) : FE := fun δ β => match δ[i]? with
  | some .bg => (bagGet β k).map fun n => (.int n, β)
  | _ => none
theorem de_bag {i : Nat} {x : Str} {k : Int} {p p2 : Pos} {j} (hN : Γ.N[i]? = some x) (hv : visK Γ.names x = true) (ho : okName x = true) : DE Γ (.Subscript (.Name x p) (.Constant (.int k) j p2) pos) (dBag i k) := fun X G => by
  refine PE.weaken (pe_ix ix_list (pe_slot G hN hv ho) pe_int (ix_plain rfl)) fun σ H Q ⟨Z, F, β, δ, d, β', rl, e, q⟩ => ?_
  unfold dBag at e
  split at e
  · rename_i hs
    obtain ⟨n, e1, e⟩ := Option.map_eq_some_iff.mp e
    cases e
    obtain ⟨b, eb, hb⟩ := rl.sl i _ hs
    obtain ⟨_, h2⟩ := rl.bg b hb
    refine ⟨.ref b, eb, ?_⟩
    refine ⟨b, _, k, .int n, rfl, rfl, .inl (.inl h2), ?_, q _ F H rl.postR (.dp (.int _))⟩
    unfold bagGet at e1
    split at e1
    · rename_i hk; cases e1; subst hk; rfl
    · split at e1
      · rename_i hk; cases e1; subst hk; rfl
      · split at e1
        · rename_i hk; cases e1; subst hk; rfl
        · cases e1
  · cases e
theorem rel_bag {Z : Act} {F H : Hp} {β β2 : Bag} {δ : Env} {σ : St} {b : Addr} (r : Rel K Z F β δ σ H) (hb : Z.ob = some b) : Rel K Z F β2 δ σ (upd H b (bagO β2)) := by
  obtain ⟨h1, h2⟩ := r.bg b hb
  refine ⟨⟨r.gr.fs, r.gr.nw, fun a o hh hz => ?_, fun a o hh => ?_⟩, fun a o q => ?_, fun a q => ?_, r.len, fun j s q => ?_, r.dj⟩
  · have : a ≠ b := fun x => hz (by rw [hb, x])
    rw [upd_ne this]; exact r.gr.kp a o hh hz
  · by_cases e : a = b
    · subst e; exact ⟨_, upd_same⟩
    · rw [upd_ne e]; exact r.gr.dm a o hh
  · rw [upd_ne (ne_of_none q h1)]; exact r.fh _ _ q
  · rw [hb] at q; cases q
    exact ⟨h1, upd_same⟩
  · have h0 := r.sl j s q
    cases s with
    | no => trivial
    | fr d => exact h0
    | ow d =>
      obtain ⟨o', a1, a2, a3, a4, a5⟩ := h0
      have ne : o' ≠ b := fun x => a4 (by rw [hb, x])
      exact ⟨o', a1, a2, a3, a4, a5.move (Same.refl _) fun x hx => by rw [upd_ne ne]; exact hx⟩
    | bg => exact h0
    | sc ns => exact h0
def sBagSet (i : Nat) (k : Int) (f : FE) : SF := fun δ β => (f δ β).bind fun x => match δ[i]?, x.1 with
  | some .bg, .int n => (bagSet x.2 k n).map fun β' => (δ, β', .nx)
  | _, _ => none
theorem ds_bagSet {i : Nat} {x : Str} {e : Expr} {k : Int} {p p2 spos : Pos} {j} {f : FE} (hN : Γ.N[i]? = some x) (hv : visK Γ.names x = true) (ho : okName x = true) (he : DE Γ e f) (hc : noComp e = true) : DS Γ (.Assign [.Subscript (.Name x p) (.Constant (.int k) j p2) spos] e pos) (sBagSet i k f) := fun X G => by
  refine PS.weaken (ps_asg (he X G) (pg_sub (pe_slot G hN hv ho) pe_int set_list (ha_sub rfl _)) (by show swapsWith e (some (.Subscript (.Name x p) (.Constant (.int k) j p2) spos)) pos.line X.env = pure false; exact swaps_no hc _ _ _) rfl) fun Dn σ H ⟨Z, F, β, δ, δ', β', o, rl, e, q⟩ => ?_
  obtain ⟨⟨y, β1⟩, e1, e⟩ := Option.bind_eq_some_iff.mp e
  refine ⟨Z, F, β, δ, y, β1, rl, e1, fun v F1 H1 p1 rv => ?_⟩
  dsimp only at e
  split at e
  · rename_i n hs
    obtain ⟨β2, e2, e⟩ := Option.map_eq_some_iff.mp e
    cases e
    have hv : v = .int n := dp_int (rv.plain rfl)
    subst hv
    obtain ⟨b, eb, hb⟩ := rl.sl i _ hs
    have rl1 := rl.post p1
    obtain ⟨_, h2⟩ := rl1.bg b hb
    have key : ∃ j, ixN 3 k = some j ∧ ([.int β1.1, .int β1.2.1, .int β1.2.2] : List V).set j (.int n) = [.int β'.1, .int β'.2.1, .int β'.2.2] := by
      unfold bagSet at e2
      split at e2
      · rename_i hk; cases e2; subst hk; exact ⟨0, rfl, rfl⟩
      · split at e2
        · rename_i hk; cases e2; subst hk; exact ⟨1, rfl, rfl⟩
        · split at e2
          · rename_i hk; cases e2; subst hk; exact ⟨2, rfl, rfl⟩
          · cases e2
    obtain ⟨jj, k1, k2⟩ := key
    refine ⟨.ref b, eb, ?_⟩
    refine ⟨b, _, k, jj, rfl, rfl, h2, k1, ?_⟩
    rw [k2]
    exact q F1 σ _ p1.gr.fs (rel_bag rl1 hb)
  · cases e
end
end PD
namespace PD
open PySem PySem.Spec L2
section
variable {K : Frag} {Γ : Ctx} {pos : Pos} {br : Bool}
def sFrz (is : List Nat) (S : SF) : SF := fun δ β => S (frz is δ) β
theorem ds_frz' {st : Stmt} {S : SF} (is : List Nat) (h : DS Γ st S) : DS Γ st (sFrz is S) := ds_frz is h
/-! ### the law's loop over its drawing lists -/
def calm1 : Sl → Sl
  | .fr d => .fr d
  | _ => .no
def calmD (δ : Env) : Env := δ.map calm1
def bagsGo (i : Nat) (B : SF) : List Bag → Env → Option (Env × Out)
  | [], δ => some (δ, .nx)
  | γ :: r, δ => (B (δ.set i .bg) γ).bind fun x => match x.2.2 with
    | .nx => bagsGo i B r (calmD x.1)
    | .ct => bagsGo i B r (calmD x.1)
    | .bk => some (calmD x.1, .nx)
    | .rt d => some (calmD x.1, .rt d)
def okScript (ns : List Int) : Bool := (ns.all fun c => decide (c.natAbs.log2 < 2097152)) && decide (ns.length ≤ 63)
def sBags (si n i : Nat) (B : SF) : SF := fun δ β => match δ[si]? with
  | some (.sc ns) => if okScript ns = true then (bagsGo i B (wells n ns) (calmD δ)).map fun r => (r.1, β, r.2) else none
  | _ => none
/-- between two turns -/
structure BInv (K : Frag) (Z : Act) (F : Hp) (β : Bag) (p : Addr) (bs : List Addr) (γs : List Bag) (j : Nat) (F1 : Hp) (δ1 : Env) (σ1 : St) (H1 : Hp) : Prop where
  rl : Rel K Z F1 β δ1 σ1 H1
  cm : calmD δ1 = δ1
  sm : Same F F1
  lp : H1 p = some (.lst (bs.map V.ref))
  rest : ∀ (k : Nat) (b : Addr) (γ : Bag), j ≤ k → bs[k]? = some b → γs[k]? = some γ → F1 b = none ∧ H1 b = some (bagO γ)
  nz : ∀ b ∈ bs, Z.H b = none ∧ Z.ob ≠ some b
  np : p ∉ bs
theorem calm_idem (δ : Env) : calmD (calmD δ) = calmD δ := by
  unfold calmD
  rw [List.map_map]
  refine List.map_congr_left fun x _ => ?_
  cases x <;> rfl
theorem calm_get {δ : Env} (h : calmD δ = δ) {i : Nat} {s : Sl} (e : δ[i]? = some s) : s = .no ∨ ∃ d, s = .fr d := by
  rw [← h] at e
  unfold calmD at e
  rw [List.getElem?_map] at e
  cases q : δ[i]? with
  | none => rw [q] at e; cases e
  | some x =>
    rw [q] at e; cases e
    cases x with
    | fr d => exact .inr ⟨d, rfl⟩
    | _ => exact .inl rfl
theorem rel_calm {Z : Act} {F : Hp} {β : Bag} {δ : Env} {σ : St} {H : Hp} (r : Rel K Z F β δ σ H) : Rel K Z F β (calmD δ) σ H := by
  refine ⟨r.gr, r.fh, r.bg, by unfold calmD; rw [List.length_map]; exact r.len, fun i s e => ?_, fun i j d d' _ e _ => ?_⟩
  · unfold calmD at e
    rw [List.getElem?_map] at e
    cases q : δ[i]? with
    | none => rw [q] at e; cases e
    | some x =>
      rw [q] at e; cases e
      cases x with
      | fr d => exact r.sl i _ q
      | _ => trivial
  · rcases calm_get (calm_idem δ) e with h | ⟨_, h⟩ <;> cases h
theorem bags_get {H H' : Hp} {p : Addr} : ∀ {bs : List Addr} {γs : List Bag}, BagsAt H H' p bs γs → bs.length = γs.length ∧ p ∉ bs ∧ bs.Nodup ∧ (∀ b ∈ bs, H b = none) ∧ ∀ (k : Nat) (b : Addr) (γ : Bag), bs[k]? = some b → γs[k]? = some γ → H' b = some (bagO γ)
  | _, _, .nil => ⟨rfl, by simp, List.nodup_nil, by simp, fun k b γ e => by simp at e⟩
  | _, _, .cons h1 h2 h3 h4 t => by
    obtain ⟨a1, a2, a3, a4, a5⟩ := bags_get t
    refine ⟨by simp [a1], ?_, List.nodup_cons.mpr ⟨h4, a3⟩, ?_, fun k b γ e1 e2 => ?_⟩
    · intro hm
      rcases List.mem_cons.mp hm with e | e
      · exact h3 e.symm
      · exact a2 e
    · intro b hb
      rcases List.mem_cons.mp hb with e | e
      · rw [e]; exact h1
      · exact a4 b e
    · cases k with
      | zero => simp at e1 e2; rw [← e1, ← e2]; exact h2
      | succ k => exact a5 k b γ (by simpa using e1) (by simpa using e2)
/-- a turn's own activation -/
theorem turn_rel {Z : Act} {F F1 H1 : Hp} {β : Bag} {p : Addr} {bs : List Addr} {γs : List Bag} {j : Nat} {δ1 : Env} {σ1 : St} {b : Addr} {γ : Bag} {i : Nat} (v : BInv K Z F β p bs γs j F1 δ1 σ1 H1) (hb : bs[j]? = some b) (hγ : γs[j]? = some γ) :
    Rel K ⟨F1, H1, some b⟩ F1 γ (δ1.set i .bg) (σ1.set i (some (.ref b))) H1 := by
  obtain ⟨f, h⟩ := v.rest j b γ (Nat.le_refl _) hb hγ
  refine ⟨.refl, v.rl.fh, fun a e => ?_, by simp [v.rl.len], fun k s e => ?_, fun k l d d' _ e _ => ?_⟩
  · have : b = a := Option.some.inj e
    subst this; exact ⟨f, h⟩
  · by_cases hk : i = k
    · subst hk
      have hi : i < δ1.length := by have := (List.getElem?_eq_some_iff.mp e).1; simpa using this
      rw [List.getElem?_set_self hi] at e
      cases e
      exact ⟨b, by rw [List.getElem?_set_self (by rw [← v.rl.len]; exact hi)], rfl⟩
    · rw [List.getElem?_set_ne hk] at e
      rw [List.getElem?_set_ne hk]
      rcases calm_get v.cm e with rfl | ⟨d, rfl⟩
      · trivial
      · exact v.rl.sl k _ e
  · by_cases hk : i = k
    · subst hk
      have hi : i < δ1.length := by have := (List.getElem?_eq_some_iff.mp e).1; simpa using this
      rw [List.getElem?_set_self hi] at e; cases e
    · rw [List.getElem?_set_ne hk] at e
      rcases calm_get v.cm e with h | ⟨_, h⟩ <;> cases h
theorem turn_back {Z : Act} {F F1 H1 F3 H3 : Hp} {β γ3 : Bag} {p : Addr} {bs : List Addr} {γs : List Bag} {j : Nat} {δ1 δ3 : Env} {σ1 σ3 : St} {b : Addr} {γ : Bag} (nd : bs.Nodup) (v : BInv K Z F β p bs γs j F1 δ1 σ1 H1) (hb : bs[j]? = some b) (hγ : γs[j]? = some γ)
    (s3 : Same F1 F3) (r3 : Rel K ⟨F1, H1, some b⟩ F3 γ3 δ3 σ3 H3) : BInv K Z F β p bs γs (j + 1) F3 (calmD δ3) σ3 H3 := by
  have hz := v.nz b (List.mem_of_getElem? hb)
  have g : Gr Z.ob Z.F Z.H F3 H3 := by
    refine ⟨v.rl.gr.fs.trans r3.gr.fs, fun a o h1 h2 => ?_, fun a o h1 h2 => ?_, fun a o h1 => ?_⟩
    · obtain ⟨o', h3⟩ := v.rl.gr.dm a o h2
      exact r3.gr.nw a o' (v.rl.gr.nw a o h1 h2) h3
    · refine r3.gr.kp a o (v.rl.gr.kp a o h1 h2) fun e => ?_
      have : b = a := Option.some.inj e
      subst this
      rw [hz.1] at h1; cases h1
    · obtain ⟨o', h3⟩ := v.rl.gr.dm a o h1
      exact r3.gr.dm a o' h3
  have rc := rel_calm r3
  refine ⟨⟨g, r3.fh, fun a e => ?_, rc.len, fun k s e => ?_, rc.dj⟩, calm_idem _, v.sm.trans s3, ?_, fun k b' γ' hk e1 e2 => ?_, v.nz, v.np⟩
  · obtain ⟨h1, h2⟩ := v.rl.bg a e
    have hab : some b ≠ some a := fun x => by
      have : b = a := Option.some.inj x
      subst this; exact hz.2 e
    exact ⟨r3.gr.nw a _ h1 h2, r3.gr.kp a _ h2 hab⟩
  · rcases calm_get (calm_idem δ3) e with rfl | ⟨d, rfl⟩
    · trivial
    · exact rc.sl k _ e
  · exact r3.gr.kp p _ v.lp fun e => by
      have : b = p := Option.some.inj e
      exact v.np (this ▸ List.mem_of_getElem? hb)
  · obtain ⟨h1, h2⟩ := v.rest k b' γ' (by omega) e1 e2
    refine ⟨r3.gr.nw b' _ h1 h2, r3.gr.kp b' _ h2 fun e => ?_⟩
    have e3 : b = b' := Option.some.inj e
    subst e3
    have hj : j < bs.length := (List.getElem?_eq_some_iff.mp hb).1
    have hk' : k < bs.length := (List.getElem?_eq_some_iff.mp e1).1
    have q1 : bs[j] = b := by rw [List.getElem?_eq_getElem hj] at hb; exact Option.some.inj hb
    have q2 : bs[k] = b := by rw [List.getElem?_eq_getElem hk'] at e1; exact Option.some.inj e1
    exact (List.pairwise_iff_getElem.mp nd j k hj hk' (by omega)) (q1.trans q2.symm)
theorem ds_bags {si i n : Nat} {x y : Str} {p0 p1 p2 p3 p4 : Pos} {j0} {body : List Stmt} {B : SF} (hbg : Γ.bags = true) (hg : glK Γ.names "_law_bags" = true) (hNs : Γ.N[si]? = some x) (hv : visK Γ.names x = true) (ho : okName x = true) (hn : n ≤ 63)
    (hN : Γ.N[i]? = some y) (hl : locK Γ y = true) (hb : DSs Γ body B) : DS Γ (.For (.Name y p0) (.Call (.Name "_law_bags" p1) [.Name x p2, .Constant (.int n) j0 p3] [] p4) body [] pos) (sBags si n i B) := fun X G => by
  obtain ⟨k, f, fd, ps, F0, hr, hmg, hkp, hbd⟩ := G.bgs hbg
  obtain ⟨l1, l2⟩ := loc_of G hl
  refine PS.weaken (ps_for (by rw [G.xe]; exact PassesOwn.never) G.calm
    (pi_list (pe_call F0 hr (gl_of G hg) hmg hkp hbd .nil pass0 (pa_cons (pe_slot G hNs hv ho) (pa_cons pe_int pa_nil)) (by decide +kernel)))
    (pg_name (i := i) G.nd (by rw [G.hN]; exact hN) l1 l2) (hb X G) (folded_plain rfl X.env)) fun Dn σ H ⟨Z, F, β, δ, δ', β', o, rl, e, q⟩ => ?_
  unfold sBags at e
  split at e
  · rename_i ns hs
    split at e
    · rename_i hok
      obtain ⟨⟨δ2, o2⟩, e2, e⟩ := Option.map_eq_some_iff.mp e
      cases e
      unfold okScript at hok
      rw [Bool.and_eq_true] at hok
      obtain ⟨a, ev, h1, hob⟩ := rl.sl si _ hs
      have h1' : SqL X.K H a (ns.map V.int) := by
        rcases h1 with (h1 | ⟨o, h1⟩) | h1
        · exact .inl (.inl (rl.gr.kp _ _ h1 (by rw [hob]; exact fun z => nomatch z)))
        · exact .inl (.inr ⟨o, rl.gr.kp _ _ h1 (by rw [hob]; exact fun z => nomatch z)⟩)
        · exact .inr h1
      refine ⟨.ref a, ev, ?_⟩
      refine ⟨a, ns, n, rfl, h1', fun c hc => of_decide_eq_true (List.all_eq_true.mp hok.1 c hc), of_decide_eq_true hok.2, hn, fun H1 p bs sm hp hl hbs => ?_⟩
      obtain ⟨b1, b2, b3, b4, b5⟩ := bags_get hbs
      have nF : ∀ c, H c = none → F c = none := fun c hc => rl.fh.free hc
      have nZ : ∀ c, H c = none → Z.H c = none := fun c hc => by
        cases hq : Z.H c with
        | none => rfl
        | some o => obtain ⟨o', e'⟩ := rl.gr.dm c o hq; rw [e'] at hc; cases hc
      have inv0 : BInv (un X) Z F β p bs (wells n ns) 0 F (calmD δ) σ H1 := by
        have rc := rel_calm rl
        refine ⟨⟨⟨rc.gr.fs, rc.gr.nw, fun c o h1 h2 => sm _ _ (rc.gr.kp c o h1 h2), fun c o h1 => ?_⟩, rc.fh.trans sm, fun c ec => ⟨(rc.bg c ec).1, sm _ _ (rc.bg c ec).2⟩, rc.len, fun k s e => ?_, rc.dj⟩, calm_idem _, Same.refl _, hl, fun k b γ _ e1 e2 => ?_, fun b hb => ⟨nZ b (b4 b hb), fun ec => ?_⟩, b2⟩
        · obtain ⟨o', e'⟩ := rc.gr.dm c o h1; exact ⟨o', sm _ _ e'⟩
        · rcases calm_get (calm_idem δ) e with rfl | ⟨d, rfl⟩
          · trivial
          · exact rc.sl k _ e
        · exact ⟨nF b (b4 b (List.mem_of_getElem? e1)), b5 k b γ e1 e2⟩
        · have := (rl.bg b ec).2
          rw [b4 b hb] at this; cases this
      refine ⟨p, rfl, ⟨_, .of hl⟩, fun t m σ1 H2 => ∃ F2 δ3, BInv (un X) Z F β p bs (wells n ns) t F2 δ3 σ1 H2 ∧ t + m = bs.length ∧ bagsGo i B ((wells n ns).drop t) δ3 = some (δ2, o2), ⟨bs.length, F, calmD δ, inv0, by omega, by rw [List.drop_zero]; exact e2⟩, fun t m σ1 H2 hW => ?_⟩
      obtain ⟨F2, δ3, iv, em, hgo⟩ := hW
      by_cases ht : t < bs.length
      · have hb : bs[t]? = some bs[t] := List.getElem?_eq_getElem ht
        have htw : t < (wells n ns).length := by rw [← b1]; exact ht
        have hγ : (wells n ns)[t]? = some (wells n ns)[t] := List.getElem?_eq_getElem htw
        rw [List.drop_eq_getElem_cons htw] at hgo
        obtain ⟨⟨δ4, γ4, o4⟩, g1, hgo⟩ := Option.bind_eq_some_iff.mp hgo
        have hq : SqL X.K H2 p (bs.map V.ref) := .of iv.lp
        have hel : (bs.map V.ref)[t]? = some (.ref bs[t]) := by rw [List.getElem?_map, hb]; rfl
        refine .inr ⟨⟨_, _, hq, hel⟩, fun σ' H' => ∃ F' δ', BInv (un X) Z F β p bs (wells n ns) (t + 1) F' δ' σ' H' ∧ bagsGo i B ((wells n ns).drop (t + 1)) δ' = some (δ2, o2), fun σ' H' ⟨F', δ', iv', hg'⟩ => ⟨m - 1, by omega, F', δ', iv', by omega, hg'⟩, fun v H' hy => ?_⟩
        obtain ⟨rfl, fv⟩ := hy
        have ev : v = .ref bs[t] := Option.some.inj ((fv _ hq).symm.trans hel)
        subst ev
        refine ⟨⟨F2, H', some bs[t]⟩, F2, (wells n ns)[t], δ3.set i .bg, δ4, γ4, o4, turn_rel iv hb hγ, g1, fun F5 σ5 H5 s5 r5 => ?_⟩
        have iv5 := turn_back b3 iv hb hγ s5 r5
        cases o4 with
        | nx => exact ⟨F5, calmD δ4, iv5, hgo⟩
        | ct => exact ⟨F5, calmD δ4, iv5, hgo⟩
        | bk => cases hgo; exact q F5 σ5 H5 iv5.sm iv5.rl
        | rt d => cases hgo; exact q F5 σ5 H5 iv5.sm iv5.rl
      · have et : t = bs.length := by omega
        subst et
        refine .inl ⟨⟨_, .of iv.lp, by simp⟩, ?_⟩
        rw [List.drop_of_length_le (by omega)] at hgo
        cases hgo
        exact q F2 σ1 H2 iv.sm iv.rl
    · cases e
  · cases e
/-! ### the law itself -/
def runLaw (S : SF) (n : Nat) (ns : List Int) : Option (D × Bag) := (S (.sc ns :: List.replicate (n - 1) .no) (0, 0, 0)).bind outD
def LawTrue (S : SF) (n : Nat) : Prop := ∀ ns, okScript ns = true → ∃ β, runLaw S n ns = some (.bool true, β)
def spL (K : PySem.W.Frag) (S : SF) (n : Nat) : Sp := fun vs H Q _ => ∃ (a : Addr) (ns : List Int), vs = [.ref a] ∧ SqL K H a (ns.map V.int) ∧ okScript ns = true ∧ ∀ H', Q (.bl true) H'
theorem okScript_of {ns : List Int} (h : ns.length ≤ 63) (hb : ∀ z ∈ ns, Builtin.Int.intBits z ≤ 1048576) : okScript ns = true := by
  unfold okScript
  rw [Bool.and_eq_true]
  refine ⟨List.all_eq_true.mpr fun z hz => decide_eq_true ?_, decide_eq_true h⟩
  have := hb z hz
  unfold Builtin.Int.intBits at this
  split at this
  · rename_i h0
    have : z = 0 := by simpa using h0
    subst this; decide
  · omega
end
section
variable {P : Program} {w : World} {K : PySem.W.Frag} {mg : Str → Option Value} {base : Heap}
theorem law_fn {x : Str} {st : Stmt} {ps : List Str} {Γ : Ctx} {n : Nat} {S : SF} {k : Nat} {f : Addr} {fd : FuncData} (F : Fun K x x st f fd) (ar : Arnd P w K mg base k Γ) (sc : FnScope Γ.N ps (defScope st)) (hn : Γ.names = (defScope st).names) (hf : Γ.fn = fun _ => true)
    (hS : DSs Γ (defBody st) S) (hl : ps.length = 1) (hN0 : Γ.N.length = n) (ht : LawTrue S n) : FnOk P w K mg base CX0 (k + 1) f fd ps (spL K S n) := by
  subst hN0
  refine F.ok sc (fun vs H Q E h => ?_) (fun cdv A outer s H vs Q E hr h => ?_)
  · obtain ⟨a, ns, rfl, _⟩ := h
    rw [hl]; rfl
  · obtain ⟨a, ns, rfl, h1, h2, q⟩ := h
    obtain ⟨β1, e⟩ := ht ns h2
    obtain ⟨⟨δ1, β2, o⟩, e1, e2⟩ := Option.bind_eq_some_iff.mp e
    have hpos : 0 < Γ.N.length := by
      have := congrArg List.length sc.pre
      rw [List.length_take, hl] at this; omega
    refine ⟨_, hS _ ⟨rfl, sc.nd, hn.symm, sc.kind, rfl, rfl, fun x hx => ?_, hr.mono (Nat.zero_le _), ar.bl, fun u hu => ?_, fun c hc => ar.cs c hc, fun hb => ?_⟩, ?_⟩
    · rfl
    · obtain ⟨f1, fd1, ps1, F1, m1, p1, b1⟩ := ar.us u hu
      exact ⟨k, f1, fd1, ps1, F1, hr, m1, p1, b1⟩
    · obtain ⟨f1, fd1, ps1, F1, m1, p1, b1⟩ := ar.bgs hb
      exact ⟨k, f1, fd1, ps1, F1, hr, m1, p1, b1⟩
    · refine ⟨⟨fun _ => none, H, none⟩, fun _ => none, (0, 0, 0), _, δ1, β2, o, ?_, e1, fun F' σ' H' s1 r1 => ?_⟩
      · refine ⟨.refl, fun b u e => (nomatch e), fun b e => (nomatch e), ?_, fun i s e => ?_, fun i j d e' _ h1 _ => ?_⟩
        · simp [L2.start]
        · cases i with
          | zero => simp at e; subst e; exact ⟨a, rfl, h1, rfl⟩
          | succ i =>
            have : s = .no := List.eq_of_mem_replicate (List.mem_of_getElem? (by simpa using e))
            subst this; trivial
        · cases i with
          | zero => simp at h1
          | succ i =>
            have : Sl.ow d = .no := List.eq_of_mem_replicate (List.mem_of_getElem? (by simpa using h1))
            cases this
      · unfold outD at e2
        cases o with
        | nx => cases e2
        | rt d' =>
          cases e2
          exact fun v rv => by
            have hv : v = .bl true := dp_bl (rv.plain rfl)
            rw [hv]; exact q H'
        | bk => cases e2
        | ct => cases e2
end
end PD
namespace PD
open PySem PySem.Spec L2
/-! ### how the drawing lists are made -/
def spWell : Sp := fun vs H Q _ => ∃ (c t : Int), vs = [.int c, .int t] ∧ ∀ p, H p = none → Q (.ref p) (upd H p (bagO (wellOf c t)))
theorem cut_take (xs : List V) (n : Nat) : cutV xs none (some (n : Int)) = xs.take n := by
  unfold cutV
  rw [show HT.sIx xs.length xs.length (some ((n : Nat) : Int)) = min n xs.length from HT.sIx_nat xs.length xs.length n, HT.sIx_none]
  show List.take (min n xs.length - 0) (xs.drop 0) = _
  rw [List.drop_zero, Nat.sub_zero]
  rcases Nat.le_total n xs.length with h | h
  · rw [Nat.min_eq_left h]
  · rw [Nat.min_eq_right h, List.take_length, List.take_of_length_le h]
theorem BagsAt.mono {H H1 H2 : Hp} {p : Addr} (k : ∀ b o, b ≠ p → H1 b = some o → H2 b = some o) : ∀ {bs : List Addr} {γs : List Bag}, BagsAt H H1 p bs γs → BagsAt H H2 p bs γs
  | _, _, .nil => .nil
  | _, _, .cons h1 h2 h3 h4 t => .cons h1 (k _ _ h3 h2) h3 h4 (BagsAt.mono k t)
theorem BagsAt.snoc {H H1 : Hp} {p b : Addr} {γ : Bag} (hb : H b = none) (hv : H1 b = some (bagO γ)) (hp : b ≠ p) : ∀ {bs : List Addr} {γs : List Bag}, b ∉ bs → BagsAt H H1 p bs γs → BagsAt H H1 p (bs ++ [b]) (γs ++ [γ])
  | _, _, _, .nil => .cons hb hv hp (by simp) .nil
  | _, _, hn, .cons h1 h2 h3 h4 t => by
    refine .cons h1 h2 h3 ?_ (BagsAt.snoc hb hv hp (fun z => hn (List.mem_cons_of_mem _ z)) t)
    intro hm
    rcases List.mem_append.mp hm with z | z
    · exact h4 z
    · exact hn (List.mem_singleton.mp z ▸ List.mem_cons_self)
theorem wellsFrom_take (cs : List Int) : ∀ (k i : Nat) (c : Int), cs[i]? = some c → wellsFrom k (cs.take (i + 1)) = wellsFrom k (cs.take i) ++ [wellOf c (977 * ((k + i : Nat) : Int))] := by
  induction cs with
  | nil => intro k i c h; simp at h
  | cons x r ih =>
    intro k i c h
    cases i with
    | zero => simp at h; subst h; rfl
    | succ i =>
      have := ih (k + 1) i c (by simpa using h)
      rw [List.take_succ_cons, List.take_succ_cons]
      show wellOf x _ :: wellsFrom (k + 1) (r.take (i + 1)) = (wellOf x _ :: wellsFrom (k + 1) (r.take i)) ++ _
      rw [this, List.cons_append, show k + 1 + i = k + (i + 1) by omega]
theorem walk_ite {K : PySem.W.Frag} {e : Addr} {xs : List V} : Walk (Ite K e) xs.length (fun H => SqL K H e xs) (fun i H x H' => ∃ T z, x = .ref T ∧ H T = none ∧ H' = upd H T (.tup [.int (i : Nat), z]) ∧ xs[i]? = some z) :=
  ⟨fun i H hi hq => ⟨xs, xs[i], hq, List.getElem?_eq_getElem hi⟩, fun H hq => ⟨xs, hq, Nat.le_refl _⟩, fun i H x H' hi hq ⟨T, z, h1, h2, h3, h4⟩ => ⟨T, z, h1, h2, h3, h4 xs hq⟩⟩
/-- the reading of «[well(cell, 977 * k) for k, cell in enumerate(…)]» -/
theorem bags_walk {K : PySem.W.Frag} {H H1 : Hp} {e : Addr} {cs : List Int} {σ : St} {Q : VK} (hlen : cs.length ≤ 64) (hσ : σ.length = 4) (sm : Same H H1) (he : H1 e = some (.lst (cs.map V.int))) (q : ∀ H' p bs, Same H H' → H p = none → H' p = some (.lst (bs.map V.ref)) → BagsAt H H' p bs (wellsFrom 0 cs) → Q (.ref p) H')
    {g : TG} {te : TE} (hg : ∀ T i z (H2 : Hp) (R : St → Hp → Prop), H2 T = some (.tup [.int (i : Nat), .int z]) → R (((wipe σ [2, 3]).set 2 (some (.int (i : Nat)))).set 3 (some (.int z))) H2 → g (.ref T) (wipe σ [2, 3]) H2 R)
    (ht : ∀ (τ : St) (i : Nat) (z : Int) (H2 : Hp) (R : VK), τ[2]? = some (some (.int i)) → τ[3]? = some (some (.int z)) → (∀ p, H2 p = none → R (.ref p) (upd H2 p (bagO (wellOf z (977 * (i : Int)))))) → te τ H2 R) :
    ∀ D, H1 D = none → ∃ W : Nat → Nat → Hp → Prop, (∃ m, W 0 m (upd H1 D (.lst []))) ∧ ∀ i m H, W i m H →
      ((Ite K e).stop i H ∧ Q (.ref D) H) ∨ ((Ite K e).go i H ∧ ∃ Nx : Hp → Prop, (∀ H', Nx H' → ∃ m', m' < m ∧ W (i + 1) m' H') ∧ ∀ x H', (Ite K e).yld i H x H' → g x (wipe σ [2, 3]) H' fun σ2 H2 => wipe σ2 [2, 3] = wipe σ [2, 3] ∧ (fun _ (H : Hp) (Q : Bool → Hp → Prop) => Q true H) σ2 H2 fun b H3 =>
        if b = true then te σ2 H3 fun y H4 => ∃ acc, H4 D = some (.lst acc) ∧ acc.length < sizeLine ∧ Nx (upd H4 D (.lst (acc ++ [y]))) else Nx H3) := by
  intro D hD
  have hHD : H D = none := sm.free hD
  have hDe : e ≠ D := ne_of_none he hD
  have hn : (cs.map V.int).length = cs.length := List.length_map ..
  refine lc_it (g := g) (tt := fun _ (H : Hp) (Q : Bool → Hp → Prop) => Q true H) (te := te) (vs := [2, 3]) (σ := σ) (H1 := H1) (D := D) (Qd := fun H => Q (.ref D) H) (hn ▸ walk_ite (K := K) (e := e) (xs := cs.map V.int)) (fun i H2 => ∃ bs, H2 D = some (.lst (bs.map V.ref)) ∧ H2 e = some (.lst (cs.map V.int)) ∧ (∀ b o, H b = some o → H2 b = some o) ∧ BagsAt H H2 D bs (wellsFrom 0 (cs.take i)) ∧ bs.length ≤ i) ?_ ?_ ?_ ?_
  · refine ⟨[], upd_same, by rw [upd_ne hDe]; exact he, fun b o hb => ?_, .nil, Nat.le_refl _⟩
    rw [upd_ne (ne_of_none hb hHD)]; exact sm _ _ hb
  · rintro i H2 _ ⟨bs, h1, h2, h3, h4⟩
    exact .of h2
  · rintro i x H2 H3 hi ⟨bs, h1, h2, h3, h4, h5⟩ ⟨T, z, rfl, nT, rfl, hz⟩
    rw [List.getElem?_map] at hz
    obtain ⟨c, hc, rfl⟩ := Option.map_eq_some_iff.mp hz
    have nTD : D ≠ T := ne_of_none h1 nT
    refine hg T i c _ _ upd_same ⟨?_, ?_⟩
    · refine wipe_eq (σ := wipe σ [2, 3]) (vs := [2, 3]) (by simp) (fun j hj => ?_) |>.trans (wipe_wipe σ [2, 3])
      have h2' : 2 ≠ j := fun z => hj (by simp [← z])
      have h3' : 3 ≠ j := fun z => hj (by simp [← z])
      rw [List.getElem?_set_ne h3', List.getElem?_set_ne h2']
    · show (if true = true then _ else _)
      rw [if_pos rfl]
      have lw : (wipe σ [2, 3]).length = 4 := by rw [wipe_length]; exact hσ
      refine ht _ i c _ _ ?_ ?_ fun p hp => ?_
      · rw [List.getElem?_set_ne (by decide), List.getElem?_set_self (by omega)]
      · rw [List.getElem?_set_self (by simp; omega)]
      have h1T : (upd H2 T (.tup [.int (i : Nat), .int c])) D = some (.lst (bs.map V.ref)) := by rw [upd_ne nTD]; exact h1
      have nDp : D ≠ p := ne_of_none h1T hp
      have npT : T ≠ p := fun e => by rw [← e, upd_same] at hp; cases hp
      have hp2 : H2 p = none := by rw [upd_ne npT.symm] at hp; exact hp
      have kp : ∀ b o, b ≠ D → H2 b = some o → (upd (upd (upd H2 T (.tup [.int (i : Nat), .int c])) p (bagO (wellOf c (977 * (i : Int))))) D (.lst (bs.map V.ref ++ [.ref p]))) b = some o := fun b o hb e => by
        rw [upd_ne hb, upd_ne (ne_of_none e hp2), upd_ne (ne_of_none e nT)]; exact e
      refine ⟨bs.map V.ref, by rw [upd_ne nDp]; exact h1T, by rw [List.length_map]; exact small1000 (by omega), bs ++ [p], by rw [upd_same, List.map_append]; rfl, kp e _ hDe h2, fun b o hb => ?_, ?_, by simp; omega⟩
      · exact kp b o (ne_of_none hb hHD) (h3 b o hb)
      · rw [wellsFrom_take cs 0 i c hc, Nat.zero_add]
        have hpn : H p = none := by
          cases q : H p with
          | none => rfl
          | some o => rw [h3 p o q] at hp2; cases hp2
        refine BagsAt.snoc hpn (by rw [upd_ne nDp.symm, upd_same]) nDp.symm (fun hm => ?_) (h4.mono kp)
        obtain ⟨_, _, _, _, h9⟩ := bags_get h4
        obtain ⟨l, _⟩ := bags_get h4
        obtain ⟨kk, hk, e⟩ := List.mem_iff_getElem.mp hm
        have := h9 kk p ((wellsFrom 0 (cs.take i))[kk]'(by omega)) (by rw [List.getElem?_eq_getElem hk, e]) (List.getElem?_eq_getElem _)
        rw [this] at hp2; cases hp2
  · rintro H2 ⟨bs, h1, h2, h3, h4, h5⟩
    rw [List.take_length] at h4
    exact q H2 D bs (fun b o hb => h3 b o hb) hHD h1 h4
end PD
namespace PD
open PySem PySem.Spec L2
section
variable {P : Program} {w : World} {K : PySem.W.Frag} {mg : Str → Option Value} {base : Heap}
theorem bok_mono {j k : Nat} (h : BOk P w K mg base j) (l : j ≤ k) : BOk P w K mg base k := by
  obtain ⟨f, fd, ps, F, m, p, b⟩ := h
  exact ⟨f, fd, ps, F.mono l, m, p, b⟩
theorem df_mk {h : Heap} {x : Str} {st : Stmt} {ps : List Str} {f : Addr} {oc : Value} {od an : Option Addr} {osl : Array (Option Value)} {kV doc pm cdv ct : Value} (X : K.In h) (G : h.Ns mainGlobals mg) (a : PySem.W.nsIn K mainGlobals x = some (some (.ref f)))
    (l : K.lookup f = some ⟨oc, od, .func (PySem.W.fnOf x x (defArgs st) (defBody st) (defScope st) .none kV doc pm an cdv ct), osl⟩) (c : PySem.W.codeIn K cdv x = true) (k : PySem.W.keepIn K (.ref f) = true)
    (hb : ∀ (kV doc pm : Value) (an : Option Addr) (cdv ct : Value) (us : List Value), us.length = ps.length → bindArgs (PySem.W.fnOf x x (defArgs st) (defBody st) (defScope st) .none kV doc pm an cdv ct) ⟨us, []⟩ = pure (ps.zip us)) : Df K mg x st ps :=
  ⟨f, _, fun_mk l c k, PySem.W.mg_of X G a, (fun_mk l c k).binds hb⟩
end
end PD
namespace PD
open PySem PySem.Spec L2
/-! ### the plain laws of the readings -/
theorem lcGo_map {α : Type} {g : FG} {t : FT} {e : FE} {δw : Env} {β : Bag} (enc : α → D) (env : α → Env) (p : α → Bool) (out : α → D) : ∀ (l : List α), (∀ a ∈ l, g (enc a) δw = some (env a)) → (∀ a ∈ l, t (env a) β = some (p a, β)) →
    (∀ a ∈ l, p a = true → e (env a) β = some (out a, β) ∧ plainD (out a) = true) → lcGo g t e δw (l.map enc) β = some ((l.filter p).map out, β)
  | [], _, _, _ => rfl
  | a :: r, hg, ht, he => by
    have ih := lcGo_map enc env p out r (fun a h => hg a (List.mem_cons_of_mem _ h)) (fun a h => ht a (List.mem_cons_of_mem _ h)) (fun a h => he a (List.mem_cons_of_mem _ h))
    rw [List.map_cons]
    unfold lcGo
    rw [hg a List.mem_cons_self]
    show (t (env a) β).bind _ = _
    rw [ht a List.mem_cons_self]
    show (if p a = true then _ else _) = _
    by_cases hp : p a = true
    · rw [if_pos hp, List.filter_cons_of_pos hp, List.map_cons]
      obtain ⟨h1, h2⟩ := he a List.mem_cons_self hp
      rw [h1]
      show (if plainD (out a) = true then _ else _) = _
      rw [if_pos h2, ih]; rfl
    · rw [if_neg hp, List.filter_cons_of_neg hp]
      exact ih
theorem lcF_map {α : Type} {s : FA} {g : FG} {t : FT} {e : FE} {vs : List Nat} {δ : Env} {β : Bag} (enc : α → D) (env : α → Env) (p : α → Bool) (out : α → D) (l : List α) (hs : s δ β = some (l.map enc, β)) (hl : l.length ≤ 16777216) (hg : ∀ a ∈ l, g (enc a) (wipeD δ vs) = some (env a)) (ht : ∀ a ∈ l, t (env a) β = some (p a, β))
    (he : ∀ a ∈ l, p a = true → e (env a) β = some (out a, β) ∧ plainD (out a) = true) : lcF s g t e vs δ β = some ((l.filter p).map out, β) := by
  unfold lcF
  rw [hs]
  show (if (l.map enc).length ≤ 16777216 then _ else _) = _
  rw [List.length_map, if_pos hl]
  exact lcGo_map enc env p out l hg ht he
/-- a for loop, by what stands behind each beginning -/
theorem forGo_pre {α : Type} {g : FG} {B : SF} (enc : α → D) (R : List α → Env → Bag → Prop) : ∀ (l pre : List α) (δ : Env) (β : Bag), (∀ p a q δ β, pre ++ l = p ++ a :: q → R p δ β → ∃ δ1 δ2 β2, g (enc a) δ = some δ1 ∧ B δ1 β = some (δ2, β2, .nx) ∧ R (p ++ [a]) δ2 β2) →
    R pre δ β → ∃ δ' β', forGo g B (l.map enc) δ β = some (δ', β', .nx) ∧ R (pre ++ l) δ' β'
  | [], pre, δ, β, _, h0 => ⟨δ, β, rfl, by rw [List.append_nil]; exact h0⟩
  | a :: r, pre, δ, β, h, h0 => by
    obtain ⟨δ1, δ2, β2, e1, e2, h1⟩ := h pre a r δ β rfl h0
    obtain ⟨δ', β', e3, h3⟩ := forGo_pre enc R r (pre ++ [a]) δ2 β2 (fun p a' q δ β e => h p a' q δ β (by rw [← e, List.append_assoc]; rfl)) h1
    refine ⟨δ', β', ?_, by rw [List.append_assoc] at h3; exact h3⟩
    rw [List.map_cons]
    show (g (enc a) δ).bind _ = _
    rw [e1]
    show (B δ1 β).bind _ = _
    rw [e2]
    exact e3
theorem sFor_pre {α : Type} {s : FA} {g : FG} {B : SF} (enc : α → D) (R : List α → Env → Bag → Prop) (l : List α) {δ : Env} {β β1 : Bag} (hs : s δ β = some (l.map enc, β1)) (h : ∀ p a q δ β, l = p ++ a :: q → R p δ β → ∃ δ1 δ2 β2, g (enc a) δ = some δ1 ∧ B δ1 β = some (δ2, β2, .nx) ∧ R (p ++ [a]) δ2 β2)
    (h0 : R [] δ β1) : ∃ δ' β', sFor s g B δ β = some (δ', β', .nx) ∧ R l δ' β' := by
  obtain ⟨δ', β', e, h'⟩ := forGo_pre enc R l [] δ β1 (fun p a q δ β e => h p a q δ β (by simpa using e)) h0
  exact ⟨δ', β', by unfold sFor; rw [hs]; exact e, by simpa using h'⟩
/-! ### the least number from 1 on that is not there -/
def IsMex (h : List Int) (r : Int) : Prop := 1 ≤ r ∧ r ∉ h ∧ ∀ q, 1 ≤ q → q < r → q ∈ h
theorem IsMex.uniq {h : List Int} {r s : Int} (a : IsMex h r) (b : IsMex h s) : r = s := by
  rcases Int.lt_trichotomy r s with c | c | c
  · exact absurd (b.2.2 r a.1 c) a.2.1
  · exact c
  · exact absurd (a.2.2 s b.1 c) b.2.1
def mexGo : Nat → Int → List Int → Int
  | 0, p, _ => p
  | n + 1, p, h => if p ∈ h then mexGo n (p + 1) h else p
def mex (h : List Int) : Int := mexGo h.length 1 h
theorem mexGo_ge : ∀ (n : Nat) (p : Int) (h : List Int), p ≤ mexGo n p h ∧ mexGo n p h ≤ p + n
  | 0, p, h => by unfold mexGo; omega
  | n + 1, p, h => by
    unfold mexGo
    split
    · have := mexGo_ge n (p + 1) h; omega
    · omega
theorem mexGo_in : ∀ (n : Nat) (p : Int) (h : List Int) (q : Int), p ≤ q → q < mexGo n p h → q ∈ h
  | 0, p, h, q, h1, h2 => by unfold mexGo at h2; omega
  | n + 1, p, h, q, h1, h2 => by
    unfold mexGo at h2
    split at h2
    · rename_i hp
      by_cases e : q = p
      · rw [e]; exact hp
      · exact mexGo_in n (p + 1) h q (by omega) h2
    · omega
theorem filter_lt {h : List Int} {p : Int} (hp : p ∈ h) : (h.filter fun x => decide (p + 1 ≤ x)).length < (h.filter fun x => decide (p ≤ x)).length := by
  induction h with
  | nil => cases hp
  | cons a r ih =>
    have mono : ∀ l : List Int, (l.filter fun x => decide (p + 1 ≤ x)).length ≤ (l.filter fun x => decide (p ≤ x)).length := by
      intro l
      induction l with
      | nil => exact Nat.le_refl _
      | cons a r ih =>
        simp only [List.filter_cons]
        by_cases h1 : p + 1 ≤ a
        · have h2 : p ≤ a := by omega
          simp [h1, h2, ih]
        · by_cases h2 : p ≤ a
          · simp [h1, h2]; omega
          · simp [h1, h2, ih]
    rcases List.mem_cons.mp hp with e | e
    · subst e
      simp only [List.filter_cons]
      have h1 : ¬ p + 1 ≤ p := by omega
      simp [h1]
      have := mono r
      omega
    · have := ih e
      simp only [List.filter_cons]
      by_cases h1 : p + 1 ≤ a
      · have h2 : p ≤ a := by omega
        simp [h1, h2, this]
      · by_cases h2 : p ≤ a
        · simp [h1, h2]; omega
        · simp [h1, h2, this]
theorem mexGo_out : ∀ (n : Nat) (p : Int) (h : List Int), (h.filter fun x => decide (p ≤ x)).length ≤ n → mexGo n p h ∉ h
  | 0, p, h, hl => by
    unfold mexGo
    intro hp
    have : p ∈ h.filter fun x => decide (p ≤ x) := List.mem_filter.mpr ⟨hp, by simp⟩
    have e0 := List.length_eq_zero_iff.mp (Nat.le_zero.mp hl)
    rw [e0] at this
    cases this
  | n + 1, p, h, hl => by
    unfold mexGo
    split
    · rename_i hp
      have := filter_lt hp
      exact mexGo_out n (p + 1) h (by omega)
    · assumption
theorem mex_is (h : List Int) : IsMex h (mex h) :=
  ⟨(mexGo_ge _ _ _).1, mexGo_out _ _ _ (List.length_filter_le _ _), fun q h1 h2 => mexGo_in _ _ _ q h1 h2⟩
theorem mex_le (h : List Int) : mex h ≤ 1 + h.length := (mexGo_ge _ _ _).2
/-! ### steps -/
section
variable {S T : SF} {t u : FT} {f g : FE} {δ δ1 : Env} {β β1 β2 : Bag} {d : D} {b : Bool}
theorem sq_nx (h : S δ β = some (δ1, β1, .nx)) : sqS S T δ β = T δ1 β1 := by unfold sqS; rw [h]; rfl
theorem sq_rt (h : S δ β = some (δ1, β1, .rt d)) : sqS S T δ β = some (δ1, β1, .rt d) := by unfold sqS; rw [h]; rfl
theorem if_t (h : t δ β = some (true, β1)) : sIf t S T δ β = S δ β1 := by unfold sIf; rw [h]; rfl
theorem if_f (h : t δ β = some (false, β1)) : sIf t S T δ β = T δ β1 := by unfold sIf; rw [h]; rfl
theorem ret_of (h : f δ β = some (d, β1)) : sRet f δ β = some (δ, β1, .rt d) := by unfold sRet; rw [h]; rfl
theorem set_of {i : Nat} (h : f δ β = some (d, β1)) : sSet i f δ β = some (δ.set i (.fr d), β1, .nx) := by unfold sSet; rw [h]; rfl
theorem setO_of {i : Nat} {f : FA} {ds : List D} (h : f δ β = some (ds, β1)) : sSetO i f δ β = some (δ.set i (.ow (.list ds)), β1, .nx) := by unfold sSetO; rw [h]; rfl
theorem setK_of {i : Nat} {f : FK} {ds : List (D × D)} (h : f δ β = some (ds, β1)) : sSetK i f δ β = some (δ.set i (.ow (.dict ds)), β1, .nx) := by unfold sSetK; rw [h]; rfl
theorem tob_of (h : f δ β = some (.bool b, β1)) : tob f δ β = some (b, β1) := by unfold tob; rw [h]
theorem tNot_of (h : t δ β = some (b, β1)) : tNotF t δ β = some (!b, β1) := by unfold tNotF; rw [h]; rfl
theorem tOr_f (h : t δ β = some (false, β1)) : tOrF t u δ β = u δ β1 := by unfold tOrF; rw [h]; rfl
theorem tOr_t (h : t δ β = some (true, β1)) : tOrF t u δ β = some (true, β1) := by unfold tOrF; rw [h]; rfl
theorem tAnd_f (h : t δ β = some (false, β1)) : tAndF t u δ β = some (false, β1) := by unfold tAndF; rw [h]; rfl
theorem tAnd_t (h : t δ β = some (true, β1)) : tAndF t u δ β = u δ β1 := by unfold tAndF; rw [h]; rfl
theorem op_of {k : D → D → Option D} {d e r : D} (h1 : f δ β = some (d, β1)) (h2 : g δ β1 = some (e, β2)) (h3 : k d e = some r) : dOp k f g δ β = some (r, β2) := by unfold dOp; rw [h1]; show (g δ β1).bind _ = _; rw [h2]; show (k d e).map _ = _; rw [h3]; rfl
theorem call_of {k : List D → Option D} {a : FA} {ds : List D} (h1 : a δ β = some (ds, β1)) (h3 : k ds = some d) : dCall k a δ β = some (d, β1) := by unfold dCall; rw [h1]; show (k ds).map _ = _; rw [h3]; rfl
theorem fn_of {x : UFn} {a : FA} {ds : List D} {r : D × Bag} (h1 : a δ β = some (ds, β1)) (hl : ds.length = x.arity) (h3 : x.g ds (0, 0, 0) = some r) : dFn x a δ β = some (r.1, β1) := by unfold dFn; rw [h1]; show (if ds.length = x.arity then _ else _) = _; rw [if_pos hl, h3]; rfl
theorem fnB_of {x : UFn} {i : Nat} {a : FA} {ds : List D} {r : D × Bag} (hb : δ[i]? = some .bg) (h1 : a δ β = some (ds, β1)) (hl : ds.length + 1 = x.arity) (h3 : x.g ds β1 = some r) : dFnB x i a δ β = some r := by unfold dFnB; rw [hb]; show (a δ β).bind _ = _; rw [h1]; show (if ds.length + 1 = x.arity then _ else _) = _; rw [if_pos hl, h3]
theorem acons_of {a : FA} {ds : List D} (h1 : f δ β = some (d, β1)) (h2 : a δ β1 = some (ds, β2)) : aCons f a δ β = some (d :: ds, β2) := by unfold aCons; rw [h1]; show (a δ β1).map _ = _; rw [h2]; rfl
theorem aone_of (h1 : f δ β = some (d, β1)) : aCons f aNil δ β = some ([d], β1) := acons_of h1 rfl
theorem frz_of {a : FA} {ds : List D} (h1 : a δ β = some (ds, β1)) : dFrz a δ β = some (.list ds, β1) := by unfold dFrz; rw [h1]; rfl
theorem tup_of {a : FA} {ds : List D} (h1 : a δ β = some (ds, β1)) (h : okLen ds = true) : dTup a δ β = some (.tuple ds, β1) := by unfold dTup; rw [h1]; show (if okLen ds = true then _ else _) = _; rw [if_pos h]
theorem aok_of {a : FA} {ds : List D} (h1 : a δ β = some (ds, β1)) (h : okLen ds = true) : aOk a δ β = some (ds, β1) := by unfold aOk; rw [h1]; show (if okLen ds = true then _ else _) = _; rw [if_pos h]
theorem and_f (h : f δ β = some (.bool false, β1)) : dAnd f g δ β = some (.bool false, β1) := by unfold dAnd; rw [h]
theorem and_t (h : f δ β = some (.bool true, β1)) : dAnd f g δ β = g δ β1 := by unfold dAnd; rw [h]
theorem run_rt {n : Nat} {bg : Bool} {ds : List D} (h : S (startD n bg ds) β = some (δ1, β1, .rt d)) : runD S n bg ds β = some (d, β1) := by unfold runD; rw [h]; rfl
end
end PD
namespace PD
open PySem PySem.Spec L2
/-! ### dicts as sets of ints; least and greatest of ints -/
abbrev iD (n : Int) : D := .int n
def setD (ks : List Int) : List (D × D) := ks.map fun k => (.int k, .bool true)
def insK (ks : List Int) (k : Int) : List Int := if k ∈ ks then ks else ks ++ [k]
theorem eqv_int (a b : Int) : PyData.eqv (.int a) (.int b) = decide (a = b) := by
  have := eqv_key (.inl a) (.inl b)
  simpa [keyD] using this
theorem putD_set (k : Int) : ∀ ks : List Int, putD (setD ks) (.int k) (.bool true) = setD (insK ks k)
  | [] => rfl
  | a :: r => by
    show (if PyData.eqv (.int a) (.int k) = true then _ else _) = _
    rw [eqv_int]
    unfold insK
    by_cases h : a = k
    · subst h; simp [setD]
    · have ih := putD_set k r
      unfold insK at ih
      have h' : ¬ k = a := fun e => h e.symm
      simp only [h, decide_false, Bool.false_eq_true, if_false, List.mem_cons, h', false_or]
      show (PyData.int a, PyData.bool true) :: putD (setD r) (.int k) (.bool true) = _
      rw [ih]
      by_cases h2 : k ∈ r
      · simp [h2, setD]
      · simp [h2, setD]
theorem lookD_set (k : Int) : ∀ ks : List Int, (lookD (setD ks) (.int k)).isSome = decide (k ∈ ks)
  | [] => rfl
  | a :: r => by
    show Option.isSome (if PyData.eqv (.int a) (.int k) = true then some (.bool true) else lookD (setD r) (.int k)) = _
    rw [eqv_int]
    by_cases h : a = k
    · subst h; simp
    · have ih := lookD_set k r
      have h' : ¬ k = a := fun e => h e.symm
      simp only [h, decide_false, Bool.false_eq_true, if_false, List.mem_cons, h', false_or]
      exact ih
theorem mem_insK {ks : List Int} {k x : Int} : x ∈ insK ks k ↔ x ∈ ks ∨ x = k := by
  unfold insK
  split
  · rename_i h
    constructor
    · exact .inl
    · rintro (h2 | rfl)
      · exact h2
      · exact h
  · simp
def keysOf (ps : List Int) : List Int := ps.foldl insK []
theorem mem_foldl_insK : ∀ (ps acc : List Int) (x : Int), x ∈ ps.foldl insK acc ↔ x ∈ acc ∨ x ∈ ps
  | [], acc, x => by simp
  | p :: r, acc, x => by
    rw [List.foldl_cons, mem_foldl_insK r, mem_insK, List.mem_cons]
    constructor
    · rintro ((h | h) | h)
      · exact .inl h
      · exact .inr (.inl h)
      · exact .inr (.inr h)
    · rintro (h | h | h)
      · exact .inl (.inl h)
      · exact .inl (.inr h)
      · exact .inr h
theorem mem_keysOf (ps : List Int) (x : Int) : x ∈ keysOf ps ↔ x ∈ ps := by
  unfold keysOf; rw [mem_foldl_insK]; simp
/-- {k: True for … if …} -/
theorem dcGo_set {α : Type} {g : FG} {t : FT} {ek ev : FE} {δw : Env} {β : Bag} (enc : α → D) (env : α → Env) (p : α → Bool) (kf : α → Int) : ∀ (l : List α) (acc : List Int), (∀ a ∈ l, g (enc a) δw = some (env a)) → (∀ a ∈ l, t (env a) β = some (p a, β)) →
    (∀ a ∈ l, p a = true → ek (env a) β = some (.int (kf a), β)) → (∀ a ∈ l, p a = true → ev (env a) β = some (.bool true, β)) → dcGo g t ek ev δw (l.map enc) (setD acc) β = some (setD (((l.filter p).map kf).foldl insK acc), β)
  | [], acc, _, _, _, _ => rfl
  | a :: r, acc, hg, ht, hk, hv => by
    have ih := fun acc => dcGo_set enc env p kf r acc (fun a h => hg a (List.mem_cons_of_mem _ h)) (fun a h => ht a (List.mem_cons_of_mem _ h)) (fun a h => hk a (List.mem_cons_of_mem _ h)) (fun a h => hv a (List.mem_cons_of_mem _ h))
    rw [List.map_cons]
    unfold dcGo
    rw [hg a List.mem_cons_self]
    show (t (env a) β).bind _ = _
    rw [ht a List.mem_cons_self]
    show (if p a = true then _ else _) = _
    by_cases hp : p a = true
    · rw [if_pos hp, List.filter_cons_of_pos hp, List.map_cons, List.foldl_cons]
      rw [hk a List.mem_cons_self hp]
      show (ev (env a) β).bind _ = _
      rw [hv a List.mem_cons_self hp]
      show (if (keyOfD (PyData.int (kf a))).isSome = true ∧ plainD (.bool true) = true then dcGo g t ek ev δw _ (putD (setD acc) (.int (kf a)) (.bool true)) β else none) = _
      rw [if_pos ⟨rfl, rfl⟩, putD_set]
      exact ih _
    · rw [if_neg hp, List.filter_cons_of_neg hp]
      exact ih _
theorem alike_ints (ns : List Int) : allAlike (ns.map iD) = true := by
  unfold allAlike
  rw [Bool.and_eq_true]
  refine ⟨List.all_eq_true.mpr fun x hx => List.all_eq_true.mpr fun y hy => ?_, List.all_eq_true.mpr fun x hx => ?_⟩
  · obtain ⟨a, _, rfl⟩ := List.mem_map.mp hx
    obtain ⟨b, _, rfl⟩ := List.mem_map.mp hy
    rfl
  · obtain ⟨a, _, rfl⟩ := List.mem_map.mp hx; rfl
theorem depth_ints : ∀ ns : List Int, PyData.depthAll (ns.map iD) = 0
  | [] => rfl
  | a :: r => by
    show max (PyData.depth (.int a)) (PyData.depthAll (r.map iD)) = 0
    rw [depth_ints r]; rfl
theorem okBest_ints (ns : List Int) : okBest (ns.map iD) = true := by
  unfold okBest
  rw [alike_ints, depth_ints]; rfl
theorem fMin_ints (n : Int) (ns : List Int) : fMin [.list ((n :: ns).map iD)] = some (.int (ns.foldl min n)) := by
  have h := okBest_ints (n :: ns)
  rw [List.map_cons] at h
  unfold fMin orC fBest
  simp only [seqIn, List.map_cons, Option.bind_some]
  rw [if_pos h, PySem.W.minD_ints]
theorem fMax_ints (n : Int) (ns : List Int) : fMax [.list ((n :: ns).map iD)] = some (.int (ns.foldl max n)) := by
  have h := okBest_ints (n :: ns)
  rw [List.map_cons] at h
  unfold fMax orC fBest
  simp only [seqIn, List.map_cons, Option.bind_some]
  rw [if_pos h, PySem.W.maxD_ints]
theorem fMax_intsT (n : Int) (ns : List Int) : fMax [.tuple ((n :: ns).map iD)] = some (.int (ns.foldl max n)) := by
  have h := okBest_ints (n :: ns)
  rw [List.map_cons] at h
  unfold fMax orC fBest
  simp only [seqIn, List.map_cons, Option.bind_some]
  rw [if_pos h, PySem.W.maxD_ints]
theorem fMax_two (a b : Int) : fMax [.int a, .int b] = some (.int (if b > a then b else a)) := rfl
theorem foldl_min_of {n : Int} : ∀ {ns : List Int}, (∀ x ∈ ns, n ≤ x) → ns.foldl min n = n
  | [], _ => rfl
  | x :: r, h => by
    rw [List.foldl_cons, show min n x = n from Int.min_eq_left (h x List.mem_cons_self)]
    exact foldl_min_of fun y hy => h y (List.mem_cons_of_mem _ hy)
theorem foldl_max_ge : ∀ (ns : List Int) (n : Int), n ≤ ns.foldl max n ∧ ∀ x ∈ ns, x ≤ ns.foldl max n
  | [], n => ⟨Int.le_refl _, fun x h => by cases h⟩
  | y :: r, n => by
    rw [List.foldl_cons]
    obtain ⟨h1, h2⟩ := foldl_max_ge r (max n y)
    refine ⟨by omega, fun x hx => ?_⟩
    rcases List.mem_cons.mp hx with e | e
    · subst e; omega
    · exact h2 x e
theorem foldl_max_mem : ∀ (ns : List Int) (n : Int), ns.foldl max n = n ∨ ns.foldl max n ∈ ns
  | [], n => .inl rfl
  | y :: r, n => by
    rw [List.foldl_cons]
    rcases foldl_max_mem r (max n y) with h | h
    · rw [h]
      by_cases hc : n ≤ y
      · rw [Int.max_eq_right hc]; exact .inr List.mem_cons_self
      · rw [Int.max_eq_left (by omega)]; exact .inl rfl
    · exact .inr (List.mem_cons_of_mem _ h)
def rangeI (lo : Int) (n : Nat) : List Int := (List.range n).map fun i => lo + (i : Nat)
theorem rangeD_eq (lo : Int) (n : Nat) : rangeD lo n = (rangeI lo n).map iD := by
  unfold rangeD rangeI; rw [List.map_map]; rfl
theorem mem_rangeI {lo : Int} {n : Nat} {x : Int} : x ∈ rangeI lo n ↔ lo ≤ x ∧ x < lo + n := by
  unfold rangeI
  rw [List.mem_map]
  constructor
  · rintro ⟨i, hi, rfl⟩
    have := List.mem_range.mp hi
    omega
  · rintro ⟨h1, h2⟩
    exact ⟨(x - lo).toNat, List.mem_range.mpr (by omega), by omega⟩
/-- the first of an ascending range that is not in ks -/
theorem range_first (ks : List Int) (m lo : Int) : ∀ (n : Nat), lo ≤ m → m < lo + n → m ∉ ks → (∀ q, lo ≤ q → q < m → q ∈ ks) → ∃ rest, (rangeI lo n).filter (fun x => decide (x ∉ ks)) = m :: rest ∧ ∀ x ∈ rest, m ≤ x := by
  intro n h1 h2 h3 h4
  have e : rangeI lo n = rangeI lo (m - lo).toNat ++ m :: rangeI (m + 1) (n - (m - lo).toNat - 1) := by
    obtain ⟨k, rfl⟩ : ∃ k : Nat, n = (m - lo).toNat + (k + 1) := ⟨n - (m - lo).toNat - 1, by omega⟩
    have em : lo + ((m - lo).toNat : Int) = m := by omega
    generalize hj : (m - lo).toNat = j at *
    unfold rangeI
    rw [List.range_add, List.map_append, show j + (k + 1) - j - 1 = k by omega, List.range_succ_eq_map]
    simp only [List.map_map, List.map_cons]
    congr 2
    · refine List.map_congr_left fun i _ => ?_
      show lo + ((j + (i + 1) : Nat) : Int) = m + 1 + (i : Int)
      omega
  rw [e, List.filter_append, List.filter_cons_of_pos (by simpa using h3)]
  have e0 : (rangeI lo (m - lo).toNat).filter (fun x => decide (x ∉ ks)) = [] := by
    rw [List.filter_eq_nil_iff]
    intro x hx
    have := mem_rangeI.mp hx
    have := h4 x this.1 (by omega)
    simpa using this
  rw [e0]
  refine ⟨_, rfl, fun x hx => ?_⟩
  have := mem_rangeI.mp (List.mem_filter.mp hx).1
  omega
theorem okR_sm {i : Int} (h1 : -1000000 ≤ i) (h2 : i ≤ 1000000) : okR i = true := by
  unfold okR
  rw [Bool.and_eq_true, decide_eq_true_eq, decide_eq_true_eq]
  have : (2 : Int) ^ 62 = 4611686018427387904 := by decide
  rw [this]
  omega
theorem range2_of {a : FA} {δ : Env} {β β1 : Bag} {i j : Int} (h : a δ β = some ([.int i, .int j], β1)) (hi : okR i = true) (hj : okR j = true) : sRange2 a δ β = some ((rangeI i (j - i).toNat).map iD, β1) := by
  unfold sRange2
  rw [h]
  show (if okR i = true ∧ okR j = true then some (rangeD i (j - i).toNat, β1) else none) = _
  rw [if_pos ⟨hi, hj⟩, rangeD_eq]
theorem range1_of {a : FA} {δ : Env} {β β1 : Bag} {j : Int} (h : a δ β = some ([.int j], β1)) (hj : okR j = true) : sRange1 a δ β = some ((rangeI 0 j.toNat).map iD, β1) := by
  unfold sRange1
  rw [h]
  show (if okR j = true then some (rangeD 0 j.toNat, β1) else none) = _
  rw [if_pos hj, rangeD_eq]
theorem while_step {t : FT} {B : SF} {n : Nat} {δ δ1 : Env} {β β1 β2 : Bag} (h : t δ β = some (true, β1)) (hB : B δ β1 = some (δ1, β2, .nx)) : whileGo t B (n + 1) δ β = whileGo t B n δ1 β2 := by
  rw [whileGo, h]
  show (B δ β1).bind _ = _
  rw [hB]
  rfl
theorem while_stop {t : FT} {B : SF} {n : Nat} {δ : Env} {β β1 : Bag} (h : t δ β = some (false, β1)) : whileGo t B (n + 1) δ β = some (δ, β1, .nx) := by
  rw [whileGo, h]
  rfl
theorem canLay_ints : ∀ ns : List Int, PyData.canLayAll0 (ns.map iD) = true
  | [] => rfl
  | a :: r => by
    show (PyData.canLay0 (.int a) && PyData.canLayAll0 (r.map iD)) = true
    rw [canLay_ints r]; rfl
theorem shaped_ints (ns : List Int) : SeqAt.shaped (.list (ns.map iD)) = true := by
  show (PyData.canLayAll0 (ns.map iD) && decide (PyData.depthAll (ns.map iD) + 1 ≤ 64)) = true
  rw [canLay_ints, depth_ints]; rfl
theorem shaped_intsT (ns : List Int) : SeqAt.shaped (.tuple (ns.map iD)) = true := by
  show (PyData.canLayAll0 (ns.map iD) && decide (PyData.depthAll (ns.map iD) + 1 ≤ 64)) = true
  rw [canLay_ints, depth_ints]; rfl
end PD
namespace PD
open PySem PySem.Spec L2
noncomputable section
abbrev RDEPTH : Nat := 12
def topS (i : Nat) : Stmt := PySem.Challenge.pw_leastpeg_k02_whole_pegs_that_are_got.main.body.getD i (.Pass ⟨0, 0, 0, 0⟩)
/-! ### is_whole -/
abbrev st_is_whole : Stmt := topS 10
def nm_is_whole : List (Str × NameKind) := [("thing", .local), ("isinstance", .globalImplicit), ("int", .globalImplicit), ("bool", .globalImplicit)]
def cx_is_whole : Ctx := ⟨["thing"], nm_is_whole, fun _ => true, [], [], false⟩
def core_is_whole : SF :=
  (sqS (sRet (dAnd (dIsi .int (dBor 0)) (dNot (dIsi .bool (dBor 0)))))
  sNx)
theorem cert_is_whole : DSs cx_is_whole (defBody st_is_whole) core_is_whole :=
  (dss_cons (ds_ret (de_and (de_isi (t := .int) (by decide +kernel) (by rfl) (by decide +kernel) (by decide +kernel) (db_var (i := 0) (by decide +kernel) (by decide +kernel) (by decide +kernel)) rfl) (de_one (de_not (de_isi (t := .bool) (by decide +kernel) (by rfl) (by decide +kernel) (by decide +kernel) (db_var (i := 0) (by decide +kernel) (by decide +kernel) (by decide +kernel)) rfl)))))
  dss_nil)
def g_is_whole : List D → Bag → Option (D × Bag) := runD core_is_whole 1 false
def u_is_whole : UFn := ⟨"is_whole", false, 1, g_is_whole⟩
theorem sc_is_whole : FnScope ["thing"] ["thing"] (defScope st_is_whole) := ⟨rfl, rfl, rfl, by decide +kernel, rfl, by decide +kernel, by decide +kernel⟩
theorem ok_is_whole {P : Program} {w : World} {K : PySem.W.Frag} {mg : Str → Option Value} {base : Heap} {k : Nat} (D0 : Df K mg "is_whole" st_is_whole ["thing"]) (bl : ∀ x, x ∈ bltNames → mg x = none)   : UOk P w K mg base (k + 1) u_is_whole :=
  uok_mk (Γ := cx_is_whole) D0 ⟨bl, all_us (by exact trivial), all_cs (by exact trivial), fun h => nomatch h⟩ sc_is_whole (by decide +kernel) rfl cert_is_whole rfl rfl
/-! ### is_within -/
abbrev st_is_within : Stmt := topS 11
def nm_is_within : List (Str × NameKind) := [("thing", .local), ("low", .local), ("high", .local), ("is_whole", .globalImplicit)]
def cx_is_within : Ctx := ⟨["thing", "low", "high"], nm_is_within, fun _ => true, [u_is_whole], [], false⟩
def core_is_within : SF :=
  (sqS (sRet (dAnd (dFn u_is_whole (aCons (dVar 0) aNil)) (dChain fLe fLe (dBor 1) (dBor 0) (dBor 2))))
  sNx)
theorem cert_is_within : DSs cx_is_within (defBody st_is_within) core_is_within :=
  (dss_cons (ds_ret (de_and (de_fn (u := u_is_whole) (mem_at 0 rfl) rfl rfl (by decide +kernel) (by decide +kernel) (da_cons (de_var (i := 0) (by decide +kernel) (by decide +kernel) (by decide +kernel)) da_nil rfl) rfl) (de_one (de_chainR cr_le cr_le (db_var (i := 1) (by decide +kernel) (by decide +kernel) (by decide +kernel)) (db_var (i := 0) (by decide +kernel) (by decide +kernel) (by decide +kernel)) (db_var (i := 2) (by decide +kernel) (by decide +kernel) (by decide +kernel)) rfl))))
  dss_nil)
def g_is_within : List D → Bag → Option (D × Bag) := runD core_is_within 3 false
def u_is_within : UFn := ⟨"is_within", false, 3, g_is_within⟩
theorem sc_is_within : FnScope ["thing", "low", "high"] ["thing", "low", "high"] (defScope st_is_within) := ⟨rfl, rfl, rfl, by decide +kernel, rfl, by decide +kernel, by decide +kernel⟩
theorem ok_is_within {P : Program} {w : World} {K : PySem.W.Frag} {mg : Str → Option Value} {base : Heap} {k : Nat} (D0 : Df K mg "is_within" st_is_within ["thing", "low", "high"]) (bl : ∀ x, x ∈ bltNames → mg x = none) (h0 : UOk P w K mg base k u_is_whole)  : UOk P w K mg base (k + 1) u_is_within :=
  uok_mk (Γ := cx_is_within) D0 ⟨bl, all_us (by exact ⟨h0, trivial⟩), all_cs (by exact trivial), fun h => nomatch h⟩ sc_is_within (by decide +kernel) rfl cert_is_within rfl rfl
/-! ### is_pair -/
abbrev st_is_pair : Stmt := topS 12
def nm_is_pair : List (Str × NameKind) := [("thing", .local), ("isinstance", .globalImplicit), ("tuple", .globalImplicit), ("len", .globalImplicit)]
def cx_is_pair : Ctx := ⟨["thing"], nm_is_pair, fun _ => true, [], [], false⟩
def core_is_pair : SF :=
  (sqS (sRet (dAnd (dIsi .tuple (dBor 0)) (dOp fEq (dCall fLen (aCons (dBor 0) aNil)) (dC (.int 2)))))
  sNx)
theorem cert_is_pair : DSs cx_is_pair (defBody st_is_pair) core_is_pair :=
  (dss_cons (ds_ret (de_and (de_isi (t := .tuple) (by decide +kernel) (by rfl) (by decide +kernel) (by decide +kernel) (db_var (i := 0) (by decide +kernel) (by decide +kernel) (by decide +kernel)) rfl) (de_one (de_cmpR cr_eq (DE.b (cb_len.run (by decide +kernel) (dba_cons (db_var (i := 0) (by decide +kernel) (by decide +kernel) (by decide +kernel)) dba_nil rfl) rfl)) (DE.b de_int) rfl))))
  dss_nil)
def g_is_pair : List D → Bag → Option (D × Bag) := runD core_is_pair 1 false
def u_is_pair : UFn := ⟨"is_pair", false, 1, g_is_pair⟩
theorem sc_is_pair : FnScope ["thing"] ["thing"] (defScope st_is_pair) := ⟨rfl, rfl, rfl, by decide +kernel, rfl, by decide +kernel, by decide +kernel⟩
theorem ok_is_pair {P : Program} {w : World} {K : PySem.W.Frag} {mg : Str → Option Value} {base : Heap} {k : Nat} (D0 : Df K mg "is_pair" st_is_pair ["thing"]) (bl : ∀ x, x ∈ bltNames → mg x = none)   : UOk P w K mg base (k + 1) u_is_pair :=
  uok_mk (Γ := cx_is_pair) D0 ⟨bl, all_us (by exact trivial), all_cs (by exact trivial), fun h => nomatch h⟩ sc_is_pair (by decide +kernel) rfl cert_is_pair rfl rfl
/-! ### rises -/
abbrev st_rises : Stmt := topS 13
def nm_rises : List (Str × NameKind) := [("things", .local), ("all", .globalImplicit), ("zip", .globalImplicit)]
def cx_rises : Ctx := ⟨["things", "one", "other"], nm_rises, fun _ => true, [], [], false⟩
def core_rises : SF :=
  (sqS (sRet (dCall fAll (aCons (dFrz (lcF (sZip (aCons (dBor 0) (aCons (dSl (dBor 0) (oSome (dC (.int 1))) oNo) aNil))) (gTp (gsCons (gNm 1) (gsCons (gNm 2) gsNil)) 2) tTrue (dOp fLt (dBor 1) (dBor 2)) [1, 2])) aNil)))
  sNx)
theorem cert_rises : DSs cx_rises (defBody st_rises) core_rises :=
  (dss_cons (ds_ret (cb_all.run (by decide +kernel) (dba_cons (DE.b (DF.e (df_lc (own := [("one", 1), ("other", 2)]) (di_zip (by decide +kernel) (dxa_cons (DB.x (db_var (i := 0) (by decide +kernel) (by decide +kernel) (by decide +kernel))) (dxa_cons (DE.x (de_slice (db_var (i := 0) (by decide +kernel) (by decide +kernel) (by decide +kernel)) (do_some de_int) do_none)) dxa_nil rfl) rfl) rfl rfl) (by decide +kernel) (dg_tup (dgs_cons (dg_name (i := 1) (by decide +kernel) (by decide +kernel)) (dgs_cons (dg_name (i := 2) (by decide +kernel) (by decide +kernel)) dgs_nil rfl) rfl) rfl) dts_nil (de_cmpR cr_lt (db_var (i := 1) (by decide +kernel) (by decide +kernel) (by decide +kernel)) (db_var (i := 2) (by decide +kernel) (by decide +kernel) (by decide +kernel)) rfl) (by decide) rfl))) dba_nil rfl) rfl))
  dss_nil)
def g_rises : List D → Bag → Option (D × Bag) := runD core_rises 3 false
def u_rises : UFn := ⟨"rises", false, 1, g_rises⟩
theorem sc_rises : FnScope ["things", "one", "other"] ["things"] (defScope st_rises) := ⟨rfl, rfl, rfl, by decide +kernel, rfl, by decide +kernel, by decide +kernel⟩
theorem ok_rises {P : Program} {w : World} {K : PySem.W.Frag} {mg : Str → Option Value} {base : Heap} {k : Nat} (D0 : Df K mg "rises" st_rises ["things"]) (bl : ∀ x, x ∈ bltNames → mg x = none)   : UOk P w K mg base (k + 1) u_rises :=
  uok_mk (Γ := cx_rises) D0 ⟨bl, all_us (by exact trivial), all_cs (by exact trivial), fun h => nomatch h⟩ sc_rises (by decide +kernel) rfl cert_rises rfl rfl
/-! ### is_book_with -/
abbrev st_is_book_with : Stmt := topS 14
def nm_is_book_with : List (Str × NameKind) := [("thing", .local), ("unread", .local), ("close", .cell), ("rows", .local), ("pegs", .local), ("is_pair", .globalImplicit), ("is_within", .globalImplicit), ("MOST_HOUR", .globalImplicit), ("isinstance", .globalImplicit), ("tuple", .globalImplicit), ("len", .globalImplicit), ("MOST_ROWS", .globalImplicit), ("all", .globalImplicit), ("rises", .globalImplicit)]
def cx_is_book_with : Ctx := ⟨["thing", "unread", "close", "rows", "pegs", "row", "peg"], nm_is_book_with, fun _ => true, [u_is_pair, u_is_within, u_rises], [("MOST_HOUR", (.int 1000000)), ("MOST_ROWS", (.int 24)), ("MOST_PEG", (.int 24))], false⟩
def core_is_book_with : SF :=
  (sqS (sIf (tOrF (tNotF (tob (dFn u_is_pair (aCons (dVar 0) aNil)))) (tOrF (tNotF (tob (dFn u_is_within (aCons (dOp fIx (dBor 0) (dC (.int 0))) (aCons (dC (.int 1)) (aCons (dC (.int 1000000)) aNil)))))) (tNotF (tob (dIsi .tuple (dOp fIx (dBor 0) (dC (.int 1))))))))
  (sqS (sRet (dC (.bool false)))
  sNx)
  sNx)
  (sqS (sAsg (gTp (gsCons (gNm 2) (gsCons (gNm 3) gsNil)) 2) (dVar 0))
  (sqS (sIf (tOrF (tNotF (tob (dChain fLe fLe (dC (.int 1)) (dCall fLen (aCons (dBor 3) aNil)) (dC (.int 24))))) (tNotF (tob (dCall fAll (aCons (dFrz (lcF (sSeq (dBor 3)) (gNm 5) tTrue (dFn u_is_pair (aCons (dVar 5) aNil)) [5])) aNil)))))
  (sqS (sRet (dC (.bool false)))
  sNx)
  sNx)
  (sqS (sIf (tOrF (tNotF (tob (dCall fAll (aCons (dFrz (lcF (sSeq (dBor 3)) (gNm 5) tTrue (dFn u_is_within (aCons (dOp fIx (dBor 5) (dC (.int 0))) (aCons (dC (.int 0)) (aCons (dOp fSub (dBor 2) (dC (.int 1))) aNil)))) [5])) aNil)))) (tNotF (tob (dFn u_rises (aCons (dFrz (lcF (sSeq (dBor 3)) (gNm 5) tTrue (dOp fIx (dBor 5) (dC (.int 0))) [5])) aNil)))))
  (sqS (sRet (dC (.bool false)))
  sNx)
  sNx)
  (sqS (sSetO 4 (lcF (sSeq (dBor 3)) (gNm 5) (tob (dOp fIsN (dOp fIx (dBor 5) (dC (.int 1))) (dC .none))) (dOp fIx (dBor 5) (dC (.int 1))) [5]))
  (sqS (sRet (dAnd (dOp fLe (dOp fSub (dCall fLen (aCons (dBor 3) aNil)) (dCall fLen (aCons (dBor 4) aNil))) (dBor 1)) (dCall fAll (aCons (dFrz (lcF (sSeq (dBor 4)) (gNm 6) tTrue (dFn u_is_within (aCons (dVar 6) (aCons (dC (.int 1)) (aCons (dC (.int 24)) aNil)))) [6])) aNil))))
  sNx))))))
theorem cert_is_book_with : DSs cx_is_book_with (defBody st_is_book_with) core_is_book_with :=
  (dss_cons (ds_if (DW.t (dw_or (dt_not (dt_val (de_fn (u := u_is_pair) (mem_at 0 rfl) rfl rfl (by decide +kernel) (by decide +kernel) (da_cons (de_var (i := 0) (by decide +kernel) (by decide +kernel) (by decide +kernel)) da_nil rfl) rfl) rfl)) (dw_or (dt_not (dt_val (de_fn (u := u_is_within) (mem_at 1 rfl) rfl rfl (by decide +kernel) (by decide +kernel) (da_cons (de_ix (db_var (i := 0) (by decide +kernel) (by decide +kernel) (by decide +kernel)) (DE.b de_int) rfl) (da_cons de_int (da_cons (de_glob (d := (.int 1000000)) (by decide +kernel) (mem_at 0 rfl) (by decide +kernel)) da_nil rfl) rfl) rfl) rfl) rfl)) (dw_or1 (dt_not (dt_val (de_isi (t := .tuple) (by decide +kernel) (by rfl) (by decide +kernel) (by decide +kernel) (DE.b (de_ix (db_var (i := 0) (by decide +kernel) (by decide +kernel) (by decide +kernel)) (DE.b de_int) rfl)) rfl) rfl))))))
  (dss_cons (ds_ret de_bl)
  dss_nil)
  dss_nil)
  (dss_cons (ds_asgT (dg_tup (dgs_cons (dg_name (i := 2) (by decide +kernel) (by decide +kernel)) (dgs_cons (dg_name (i := 3) (by decide +kernel) (by decide +kernel)) dgs_nil rfl) rfl) rfl) (de_var (i := 0) (by decide +kernel) (by decide +kernel) (by decide +kernel)) rfl rfl)
  (dss_cons (ds_if (DW.t (dw_or (dt_not (dt_chainR cr_le cr_le (DE.b de_int) (DE.b (cb_len.run (by decide +kernel) (dba_cons (db_var (i := 3) (by decide +kernel) (by decide +kernel) (by decide +kernel)) dba_nil rfl) rfl)) (DE.b (de_glob (d := (.int 24)) (by decide +kernel) (mem_at 1 rfl) (by decide +kernel))) rfl)) (dw_or1 (dt_not (dt_val (cb_all.run (by decide +kernel) (dba_cons (DE.b (DF.e (df_lc (own := [("row", 5)]) (di_seq (DB.x (db_var (i := 3) (by decide +kernel) (by decide +kernel) (by decide +kernel)))) (by decide +kernel) (dg_name (i := 5) (by decide +kernel) (by decide +kernel)) dts_nil (de_fn (u := u_is_pair) (mem_at 0 rfl) rfl rfl (by decide +kernel) (by decide +kernel) (da_cons (de_var (i := 5) (by decide +kernel) (by decide +kernel) (by decide +kernel)) da_nil rfl) rfl) (by decide) rfl))) dba_nil rfl) rfl) rfl)))))
  (dss_cons (ds_ret de_bl)
  dss_nil)
  dss_nil)
  (dss_cons (ds_if (DW.t (dw_or (dt_not (dt_val (cb_all.run (by decide +kernel) (dba_cons (DE.b (DF.e (df_lc (own := [("row", 5)]) (di_seq (DB.x (db_var (i := 3) (by decide +kernel) (by decide +kernel) (by decide +kernel)))) (by decide +kernel) (dg_name (i := 5) (by decide +kernel) (by decide +kernel)) dts_nil (de_fn (u := u_is_within) (mem_at 1 rfl) rfl rfl (by decide +kernel) (by decide +kernel) (da_cons (de_ix (db_var (i := 5) (by decide +kernel) (by decide +kernel) (by decide +kernel)) (DE.b de_int) rfl) (da_cons de_int (da_cons (de_sub (db_var (i := 2) (by decide +kernel) (by decide +kernel) (by decide +kernel)) (DE.b de_int)) da_nil rfl) rfl) rfl) rfl) (by decide) rfl))) dba_nil rfl) rfl) rfl)) (dw_or1 (dt_not (dt_val (de_fn (u := u_rises) (mem_at 2 rfl) rfl rfl (by decide +kernel) (by decide +kernel) (da_cons (DF.e (df_lc (own := [("row", 5)]) (di_seq (DB.x (db_var (i := 3) (by decide +kernel) (by decide +kernel) (by decide +kernel)))) (by decide +kernel) (dg_name (i := 5) (by decide +kernel) (by decide +kernel)) dts_nil (de_ix (db_var (i := 5) (by decide +kernel) (by decide +kernel) (by decide +kernel)) (DE.b de_int) rfl) (by decide) rfl)) da_nil rfl) rfl) rfl)))))
  (dss_cons (ds_ret de_bl)
  dss_nil)
  dss_nil)
  (dss_cons (ds_setLc (i := 4) (own := [("row", 5)]) (by decide +kernel) (by decide +kernel) (di_seq (DB.x (db_var (i := 3) (by decide +kernel) (by decide +kernel) (by decide +kernel)))) (by decide +kernel) (dg_name (i := 5) (by decide +kernel) (by decide +kernel)) (dts_one (dt_cmpR cr_isN (DE.b (de_ix (db_var (i := 5) (by decide +kernel) (by decide +kernel) (by decide +kernel)) (DE.b de_int) rfl)) (DE.b de_non) rfl)) (de_ix (db_var (i := 5) (by decide +kernel) (by decide +kernel) (by decide +kernel)) (DE.b de_int) rfl) (by decide) rfl)
  (dss_cons (ds_ret (de_and (de_cmpR cr_le (DE.b (de_sub (DE.b (cb_len.run (by decide +kernel) (dba_cons (db_var (i := 3) (by decide +kernel) (by decide +kernel) (by decide +kernel)) dba_nil rfl) rfl)) (DE.b (cb_len.run (by decide +kernel) (dba_cons (db_var (i := 4) (by decide +kernel) (by decide +kernel) (by decide +kernel)) dba_nil rfl) rfl)))) (db_var (i := 1) (by decide +kernel) (by decide +kernel) (by decide +kernel)) rfl) (de_one (cb_all.run (by decide +kernel) (dba_cons (DE.b (DF.e (df_lc (own := [("peg", 6)]) (di_seq (DB.x (db_var (i := 4) (by decide +kernel) (by decide +kernel) (by decide +kernel)))) (by decide +kernel) (dg_name (i := 6) (by decide +kernel) (by decide +kernel)) dts_nil (de_fn (u := u_is_within) (mem_at 1 rfl) rfl rfl (by decide +kernel) (by decide +kernel) (da_cons (de_var (i := 6) (by decide +kernel) (by decide +kernel) (by decide +kernel)) (da_cons de_int (da_cons (de_glob (d := (.int 24)) (by decide +kernel) (mem_at 2 rfl) (by decide +kernel)) da_nil rfl) rfl) rfl) rfl) (by decide) rfl))) dba_nil rfl) rfl))))
  dss_nil))))))
def g_is_book_with : List D → Bag → Option (D × Bag) := runD core_is_book_with 7 false
def u_is_book_with : UFn := ⟨"is_book_with", false, 2, g_is_book_with⟩
theorem sc_is_book_with : FnScope ["thing", "unread", "close", "rows", "pegs", "row", "peg"] ["thing", "unread"] (defScope st_is_book_with) := ⟨rfl, rfl, rfl, by decide +kernel, rfl, by decide +kernel, by decide +kernel⟩
theorem ok_is_book_with {P : Program} {w : World} {K : PySem.W.Frag} {mg : Str → Option Value} {base : Heap} {k : Nat} (D0 : Df K mg "is_book_with" st_is_book_with ["thing", "unread"]) (bl : ∀ x, x ∈ bltNames → mg x = none) (h0 : UOk P w K mg base k u_is_pair) (h1 : UOk P w K mg base k u_is_within) (h2 : UOk P w K mg base k u_rises) (c0 : CsOk P w K mg "MOST_HOUR" (.int 1000000)) (c1 : CsOk P w K mg "MOST_ROWS" (.int 24)) (c2 : CsOk P w K mg "MOST_PEG" (.int 24)) : UOk P w K mg base (k + 1) u_is_book_with :=
  uok_mk (Γ := cx_is_book_with) D0 ⟨bl, all_us (by exact ⟨h0, ⟨h1, ⟨h2, trivial⟩⟩⟩), all_cs (by exact ⟨c0, ⟨c1, ⟨c2, trivial⟩⟩⟩), fun h => nomatch h⟩ sc_is_book_with (by decide +kernel) rfl cert_is_book_with rfl rfl
/-! ### is_book -/
abbrev st_is_book : Stmt := topS 15
def nm_is_book : List (Str × NameKind) := [("thing", .local), ("is_book_with", .globalImplicit)]
def cx_is_book : Ctx := ⟨["thing"], nm_is_book, fun _ => true, [u_is_book_with], [], false⟩
def core_is_book : SF :=
  (sqS (sRet (dFn u_is_book_with (aCons (dVar 0) (aCons (dC (.int 0)) aNil))))
  sNx)
theorem cert_is_book : DSs cx_is_book (defBody st_is_book) core_is_book :=
  (dss_cons (ds_ret (de_fn (u := u_is_book_with) (mem_at 0 rfl) rfl rfl (by decide +kernel) (by decide +kernel) (da_cons (de_var (i := 0) (by decide +kernel) (by decide +kernel) (by decide +kernel)) (da_cons de_int da_nil rfl) rfl) rfl))
  dss_nil)
def g_is_book : List D → Bag → Option (D × Bag) := runD core_is_book 1 false
def u_is_book : UFn := ⟨"is_book", false, 1, g_is_book⟩
theorem sc_is_book : FnScope ["thing"] ["thing"] (defScope st_is_book) := ⟨rfl, rfl, rfl, by decide +kernel, rfl, by decide +kernel, by decide +kernel⟩
theorem ok_is_book {P : Program} {w : World} {K : PySem.W.Frag} {mg : Str → Option Value} {base : Heap} {k : Nat} (D0 : Df K mg "is_book" st_is_book ["thing"]) (bl : ∀ x, x ∈ bltNames → mg x = none) (h0 : UOk P w K mg base k u_is_book_with)  : UOk P w K mg base (k + 1) u_is_book :=
  uok_mk (Γ := cx_is_book) D0 ⟨bl, all_us (by exact ⟨h0, trivial⟩), all_cs (by exact trivial), fun h => nomatch h⟩ sc_is_book (by decide +kernel) rfl cert_is_book rfl rfl
/-! ### is_sight -/
abbrev st_is_sight : Stmt := topS 16
def nm_is_sight : List (Str × NameKind) := [("close", .local), ("thing", .local), ("isinstance", .globalImplicit), ("tuple", .globalImplicit), ("len", .globalImplicit), ("is_within", .globalImplicit), ("MOST_PEG", .globalImplicit), ("bool", .globalImplicit)]
def cx_is_sight : Ctx := ⟨["close", "thing"], nm_is_sight, fun _ => true, [u_is_within], [("MOST_PEG", (.int 24))], false⟩
def core_is_sight : SF :=
  (sqS (sIf (tOrF (tNotF (tob (dIsi .tuple (dBor 1)))) (tOrF (tob (dOp fNe (dCall fLen (aCons (dBor 1) aNil)) (dC (.int 3)))) (tNotF (tob (dFn u_is_within (aCons (dOp fIx (dBor 1) (dC (.int 0))) (aCons (dC (.int 0)) (aCons (dVar 0) aNil))))))))
  (sqS (sRet (dC (.bool false)))
  sNx)
  sNx)
  (sqS (sRet (dAnd (dFn u_is_within (aCons (dOp fIx (dBor 1) (dC (.int 1))) (aCons (dC (.int 1)) (aCons (dC (.int 24)) aNil)))) (dIsi .bool (dOp fIx (dBor 1) (dC (.int 2))))))
  sNx))
theorem cert_is_sight : DSs cx_is_sight (defBody st_is_sight) core_is_sight :=
  (dss_cons (ds_if (DW.t (dw_or (dt_not (dt_val (de_isi (t := .tuple) (by decide +kernel) (by rfl) (by decide +kernel) (by decide +kernel) (db_var (i := 1) (by decide +kernel) (by decide +kernel) (by decide +kernel)) rfl) rfl)) (dw_or (dt_cmpR cr_ne (DE.b (cb_len.run (by decide +kernel) (dba_cons (db_var (i := 1) (by decide +kernel) (by decide +kernel) (by decide +kernel)) dba_nil rfl) rfl)) (DE.b de_int) rfl) (dw_or1 (dt_not (dt_val (de_fn (u := u_is_within) (mem_at 0 rfl) rfl rfl (by decide +kernel) (by decide +kernel) (da_cons (de_ix (db_var (i := 1) (by decide +kernel) (by decide +kernel) (by decide +kernel)) (DE.b de_int) rfl) (da_cons de_int (da_cons (de_var (i := 0) (by decide +kernel) (by decide +kernel) (by decide +kernel)) da_nil rfl) rfl) rfl) rfl) rfl))))))
  (dss_cons (ds_ret de_bl)
  dss_nil)
  dss_nil)
  (dss_cons (ds_ret (de_and (de_fn (u := u_is_within) (mem_at 0 rfl) rfl rfl (by decide +kernel) (by decide +kernel) (da_cons (de_ix (db_var (i := 1) (by decide +kernel) (by decide +kernel) (by decide +kernel)) (DE.b de_int) rfl) (da_cons de_int (da_cons (de_glob (d := (.int 24)) (by decide +kernel) (mem_at 0 rfl) (by decide +kernel)) da_nil rfl) rfl) rfl) rfl) (de_one (de_isi (t := .bool) (by decide +kernel) (by rfl) (by decide +kernel) (by decide +kernel) (DE.b (de_ix (db_var (i := 1) (by decide +kernel) (by decide +kernel) (by decide +kernel)) (DE.b de_int) rfl)) rfl))))
  dss_nil))
def g_is_sight : List D → Bag → Option (D × Bag) := runD core_is_sight 2 false
def u_is_sight : UFn := ⟨"is_sight", false, 2, g_is_sight⟩
theorem sc_is_sight : FnScope ["close", "thing"] ["close", "thing"] (defScope st_is_sight) := ⟨rfl, rfl, rfl, by decide +kernel, rfl, by decide +kernel, by decide +kernel⟩
theorem ok_is_sight {P : Program} {w : World} {K : PySem.W.Frag} {mg : Str → Option Value} {base : Heap} {k : Nat} (D0 : Df K mg "is_sight" st_is_sight ["close", "thing"]) (bl : ∀ x, x ∈ bltNames → mg x = none) (h0 : UOk P w K mg base k u_is_within) (c0 : CsOk P w K mg "MOST_PEG" (.int 24)) : UOk P w K mg base (k + 1) u_is_sight :=
  uok_mk (Γ := cx_is_sight) D0 ⟨bl, all_us (by exact ⟨h0, trivial⟩), all_cs (by exact ⟨c0, trivial⟩), fun h => nomatch h⟩ sc_is_sight (by decide +kernel) rfl cert_is_sight rfl rfl
/-! ### are_sights -/
abbrev st_are_sights : Stmt := topS 17
def nm_are_sights : List (Str × NameKind) := [("close", .cell), ("thing", .local), ("isinstance", .globalImplicit), ("tuple", .globalImplicit), ("len", .globalImplicit), ("MOST_SIGHTS", .globalImplicit), ("all", .globalImplicit), ("rises", .globalImplicit)]
def cx_are_sights : Ctx := ⟨["close", "thing", "one"], nm_are_sights, fun _ => true, [u_is_sight, u_rises], [("MOST_SIGHTS", (.int 8))], false⟩
def core_are_sights : SF :=
  (sqS (sIf (tOrF (tNotF (tob (dIsi .tuple (dBor 1)))) (tob (dOp fGt (dCall fLen (aCons (dBor 1) aNil)) (dC (.int 8)))))
  (sqS (sRet (dC (.bool false)))
  sNx)
  sNx)
  (sqS (sRet (dAnd (dCall fAll (aCons (dFrz (lcF (sSeq (dBor 1)) (gNm 2) tTrue (dFn u_is_sight (aCons (dVar 0) (aCons (dVar 2) aNil))) [2])) aNil)) (dFn u_rises (aCons (dVar 1) aNil))))
  sNx))
theorem cert_are_sights : DSs cx_are_sights (defBody st_are_sights) core_are_sights :=
  (dss_cons (ds_if (DW.t (dw_or (dt_not (dt_val (de_isi (t := .tuple) (by decide +kernel) (by rfl) (by decide +kernel) (by decide +kernel) (db_var (i := 1) (by decide +kernel) (by decide +kernel) (by decide +kernel)) rfl) rfl)) (dw_or1 (dt_cmpR cr_gt (DE.b (cb_len.run (by decide +kernel) (dba_cons (db_var (i := 1) (by decide +kernel) (by decide +kernel) (by decide +kernel)) dba_nil rfl) rfl)) (DE.b (de_glob (d := (.int 8)) (by decide +kernel) (mem_at 0 rfl) (by decide +kernel))) rfl))))
  (dss_cons (ds_ret de_bl)
  dss_nil)
  dss_nil)
  (dss_cons (ds_ret (de_and (cb_all.run (by decide +kernel) (dba_cons (DE.b (DF.e (df_lc (own := [("one", 2)]) (di_seq (DB.x (db_var (i := 1) (by decide +kernel) (by decide +kernel) (by decide +kernel)))) (by decide +kernel) (dg_name (i := 2) (by decide +kernel) (by decide +kernel)) dts_nil (de_fn (u := u_is_sight) (mem_at 0 rfl) rfl rfl (by decide +kernel) (by decide +kernel) (da_cons (de_var (i := 0) (by decide +kernel) (by decide +kernel) (by decide +kernel)) (da_cons (de_var (i := 2) (by decide +kernel) (by decide +kernel) (by decide +kernel)) da_nil rfl) rfl) rfl) (by decide) rfl))) dba_nil rfl) rfl) (de_one (de_fn (u := u_rises) (mem_at 1 rfl) rfl rfl (by decide +kernel) (by decide +kernel) (da_cons (de_var (i := 1) (by decide +kernel) (by decide +kernel) (by decide +kernel)) da_nil rfl) rfl))))
  dss_nil))
def g_are_sights : List D → Bag → Option (D × Bag) := runD core_are_sights 3 false
def u_are_sights : UFn := ⟨"are_sights", false, 2, g_are_sights⟩
theorem sc_are_sights : FnScope ["close", "thing", "one"] ["close", "thing"] (defScope st_are_sights) := ⟨rfl, rfl, rfl, by decide +kernel, rfl, by decide +kernel, by decide +kernel⟩
theorem ok_are_sights {P : Program} {w : World} {K : PySem.W.Frag} {mg : Str → Option Value} {base : Heap} {k : Nat} (D0 : Df K mg "are_sights" st_are_sights ["close", "thing"]) (bl : ∀ x, x ∈ bltNames → mg x = none) (h0 : UOk P w K mg base k u_is_sight) (h1 : UOk P w K mg base k u_rises) (c0 : CsOk P w K mg "MOST_SIGHTS" (.int 8)) : UOk P w K mg base (k + 1) u_are_sights :=
  uok_mk (Γ := cx_are_sights) D0 ⟨bl, all_us (by exact ⟨h0, ⟨h1, trivial⟩⟩), all_cs (by exact ⟨c0, trivial⟩), fun h => nomatch h⟩ sc_are_sights (by decide +kernel) rfl cert_are_sights rfl rfl
/-! ### look_at -/
abbrev st_look_at : Stmt := topS 18
def nm_look_at : List (Str × NameKind) := [("book", .local), ("sights", .local), ("is_book", .globalImplicit), ("NoBook", .globalImplicit), ("are_sights", .globalImplicit), ("NoSights", .globalImplicit)]
def cx_look_at : Ctx := ⟨["book", "sights"], nm_look_at, fun _ => true, [u_is_book, u_are_sights], [], false⟩
def core_look_at : SF :=
  (sqS (sIf (tNotF (tob (dFn u_is_book (aCons (dVar 0) aNil))))
  (sqS sNone
  sNx)
  sNx)
  (sqS (sIf (tNotF (tob (dFn u_are_sights (aCons (dOp fIx (dBor 0) (dC (.int 0))) (aCons (dVar 1) aNil)))))
  (sqS sNone
  sNx)
  sNx)
  sNx))
theorem cert_look_at : DSs cx_look_at (defBody st_look_at) core_look_at :=
  (dss_cons (ds_if (dt_not (dt_val (de_fn (u := u_is_book) (mem_at 0 rfl) rfl rfl (by decide +kernel) (by decide +kernel) (da_cons (de_var (i := 0) (by decide +kernel) (by decide +kernel) (by decide +kernel)) da_nil rfl) rfl) rfl))
  (dss_cons ds_never
  dss_nil)
  dss_nil)
  (dss_cons (ds_if (dt_not (dt_val (de_fn (u := u_are_sights) (mem_at 1 rfl) rfl rfl (by decide +kernel) (by decide +kernel) (da_cons (de_ix (db_var (i := 0) (by decide +kernel) (by decide +kernel) (by decide +kernel)) (DE.b de_int) rfl) (da_cons (de_var (i := 1) (by decide +kernel) (by decide +kernel) (by decide +kernel)) da_nil rfl) rfl) rfl) rfl))
  (dss_cons ds_never
  dss_nil)
  dss_nil)
  dss_nil))
def g_look_at : List D → Bag → Option (D × Bag) := runD core_look_at 2 false
def u_look_at : UFn := ⟨"look_at", false, 2, g_look_at⟩
theorem sc_look_at : FnScope ["book", "sights"] ["book", "sights"] (defScope st_look_at) := ⟨rfl, rfl, rfl, by decide +kernel, rfl, by decide +kernel, by decide +kernel⟩
theorem ok_look_at {P : Program} {w : World} {K : PySem.W.Frag} {mg : Str → Option Value} {base : Heap} {k : Nat} (D0 : Df K mg "look_at" st_look_at ["book", "sights"]) (bl : ∀ x, x ∈ bltNames → mg x = none) (h0 : UOk P w K mg base k u_is_book) (h1 : UOk P w K mg base k u_are_sights)  : UOk P w K mg base (k + 1) u_look_at :=
  uok_mk (Γ := cx_look_at) D0 ⟨bl, all_us (by exact ⟨h0, ⟨h1, trivial⟩⟩), all_cs (by exact trivial), fun h => nomatch h⟩ sc_look_at (by decide +kernel) rfl cert_look_at rfl rfl
/-! ### pegs_can_be -/
abbrev st_pegs_can_be : Stmt := topS 19
def nm_pegs_can_be : List (Str × NameKind) := [("pegs", .local), ("most", .local), ("peg", .local), ("max", .globalImplicit)]
def cx_pegs_can_be : Ctx := ⟨["pegs", "most", "peg"], nm_pegs_can_be, fun _ => true, [], [], false⟩
def core_pegs_can_be : SF :=
  (sqS (sSet 1 (dC (.int 0)))
  (sqS (sFor (sSeq (dVar 0)) (gNm 2)
  (sqS (sIf (tob (dOp fGt (dBor 2) (dOp fAdd (dBor 1) (dC (.int 1)))))
  (sqS (sRet (dC (.bool false)))
  sNx)
  sNx)
  (sqS (sSet 1 (dCall fMax (aCons (dBor 1) (aCons (dBor 2) aNil))))
  sNx)))
  (sqS (sRet (dC (.bool true)))
  sNx)))
theorem cert_pegs_can_be : DSs cx_pegs_can_be (defBody st_pegs_can_be) core_pegs_can_be :=
  (dss_cons (ds_set (i := 1) (by decide +kernel) (by decide +kernel) de_int rfl)
  (dss_cons (ds_for (di_seq (DE.x (de_var (i := 0) (by decide +kernel) (by decide +kernel) (by decide +kernel)))) (dg_name (i := 2) (by decide +kernel) (by decide +kernel))
  (dss_cons (ds_if (dt_cmpR cr_gt (db_var (i := 2) (by decide +kernel) (by decide +kernel) (by decide +kernel)) (DE.b (de_add (db_var (i := 1) (by decide +kernel) (by decide +kernel) (by decide +kernel)) (DE.b de_int))) rfl)
  (dss_cons (ds_ret de_bl)
  dss_nil)
  dss_nil)
  (dss_cons (ds_set (i := 1) (by decide +kernel) (by decide +kernel) (cb_max.run (by decide +kernel) (dba_cons (db_var (i := 1) (by decide +kernel) (by decide +kernel) (by decide +kernel)) (dba_cons (db_var (i := 2) (by decide +kernel) (by decide +kernel) (by decide +kernel)) dba_nil rfl) rfl) rfl) rfl)
  dss_nil)) rfl)
  (dss_cons (ds_ret de_bl)
  dss_nil)))
def g_pegs_can_be : List D → Bag → Option (D × Bag) := runD core_pegs_can_be 3 false
def u_pegs_can_be : UFn := ⟨"pegs_can_be", false, 1, g_pegs_can_be⟩
theorem sc_pegs_can_be : FnScope ["pegs", "most", "peg"] ["pegs"] (defScope st_pegs_can_be) := ⟨rfl, rfl, rfl, by decide +kernel, rfl, by decide +kernel, by decide +kernel⟩
theorem ok_pegs_can_be {P : Program} {w : World} {K : PySem.W.Frag} {mg : Str → Option Value} {base : Heap} {k : Nat} (D0 : Df K mg "pegs_can_be" st_pegs_can_be ["pegs"]) (bl : ∀ x, x ∈ bltNames → mg x = none)   : UOk P w K mg base (k + 1) u_pegs_can_be :=
  uok_mk (Γ := cx_pegs_can_be) D0 ⟨bl, all_us (by exact trivial), all_cs (by exact trivial), fun h => nomatch h⟩ sc_pegs_can_be (by decide +kernel) rfl cert_pegs_can_be rfl rfl
/-! ### can_be -/
abbrev st_can_be : Stmt := topS 20
def nm_can_be : List (Str × NameKind) := [("book", .local), ("is_book", .globalImplicit), ("NoBook", .globalImplicit), ("pegs_can_be", .globalImplicit)]
def cx_can_be : Ctx := ⟨["book", "row"], nm_can_be, fun _ => true, [u_is_book, u_pegs_can_be], [], false⟩
def core_can_be : SF :=
  (sqS (sIf (tNotF (tob (dFn u_is_book (aCons (dVar 0) aNil))))
  (sqS sNone
  sNx)
  sNx)
  (sqS (sRet (dFn u_pegs_can_be (aCons (dFrz (lcF (sSeq (dOp fIx (dBor 0) (dC (.int 1)))) (gNm 1) tTrue (dOp fIx (dBor 1) (dC (.int 1))) [1])) aNil)))
  sNx))
theorem cert_can_be : DSs cx_can_be (defBody st_can_be) core_can_be :=
  (dss_cons (ds_if (dt_not (dt_val (de_fn (u := u_is_book) (mem_at 0 rfl) rfl rfl (by decide +kernel) (by decide +kernel) (da_cons (de_var (i := 0) (by decide +kernel) (by decide +kernel) (by decide +kernel)) da_nil rfl) rfl) rfl))
  (dss_cons ds_never
  dss_nil)
  dss_nil)
  (dss_cons (ds_ret (de_fn (u := u_pegs_can_be) (mem_at 1 rfl) rfl rfl (by decide +kernel) (by decide +kernel) (da_cons (DF.e (df_lc (own := [("row", 1)]) (di_seq (DE.x (de_ix (db_var (i := 0) (by decide +kernel) (by decide +kernel) (by decide +kernel)) (DE.b de_int) rfl))) (by decide +kernel) (dg_name (i := 1) (by decide +kernel) (by decide +kernel)) dts_nil (de_ix (db_var (i := 1) (by decide +kernel) (by decide +kernel) (by decide +kernel)) (DE.b de_int) rfl) (by decide) rfl)) da_nil rfl) rfl))
  dss_nil))
def g_can_be : List D → Bag → Option (D × Bag) := runD core_can_be 2 false
def u_can_be : UFn := ⟨"can_be", false, 1, g_can_be⟩
theorem sc_can_be : FnScope ["book", "row"] ["book"] (defScope st_can_be) := ⟨rfl, rfl, rfl, by decide +kernel, rfl, by decide +kernel, by decide +kernel⟩
theorem ok_can_be {P : Program} {w : World} {K : PySem.W.Frag} {mg : Str → Option Value} {base : Heap} {k : Nat} (D0 : Df K mg "can_be" st_can_be ["book"]) (bl : ∀ x, x ∈ bltNames → mg x = none) (h0 : UOk P w K mg base k u_is_book) (h1 : UOk P w K mg base k u_pegs_can_be)  : UOk P w K mg base (k + 1) u_can_be :=
  uok_mk (Γ := cx_can_be) D0 ⟨bl, all_us (by exact ⟨h0, ⟨h1, trivial⟩⟩), all_cs (by exact trivial), fun h => nomatch h⟩ sc_can_be (by decide +kernel) rfl cert_can_be rfl rfl
/-! ### are_stays -/
abbrev st_are_stays : Stmt := topS 21
def nm_are_stays : List (Str × NameKind) := [("thing", .local), ("come", .local), ("gone", .local), ("isinstance", .globalImplicit), ("tuple", .globalImplicit), ("len", .globalImplicit), ("MOST_ROWS", .globalImplicit), ("all", .globalImplicit), ("is_within", .globalImplicit), ("MOST_HOUR", .globalImplicit), ("rises", .globalImplicit)]
def cx_are_stays : Ctx := ⟨["thing", "come", "gone", "one"], nm_are_stays, fun _ => true, [u_is_pair, u_is_within, u_rises], [("MOST_ROWS", (.int 24)), ("MOST_HOUR", (.int 1000000))], false⟩
def core_are_stays : SF :=
  (sqS (sIf (tOrF (tNotF (tob (dIsi .tuple (dBor 0)))) (tOrF (tNotF (tob (dChain fLe fLe (dC (.int 1)) (dCall fLen (aCons (dBor 0) aNil)) (dC (.int 24))))) (tNotF (tob (dCall fAll (aCons (dFrz (lcF (sSeq (dBor 0)) (gNm 3) tTrue (dFn u_is_pair (aCons (dVar 3) aNil)) [3])) aNil))))))
  (sqS (sRet (dC (.bool false)))
  sNx)
  sNx)
  (sqS (sFor (sSeq (dVar 0)) (gTp (gsCons (gNm 1) (gsCons (gNm 2) gsNil)) 2)
  (sqS (sIf (tOrF (tNotF (tob (dFn u_is_within (aCons (dVar 1) (aCons (dC (.int 0)) (aCons (dOp fSub (dC (.int 1000000)) (dC (.int 1))) aNil)))))) (tNotF (tob (dFn u_is_within (aCons (dVar 2) (aCons (dOp fAdd (dBor 1) (dC (.int 1))) (aCons (dC (.int 1000000)) aNil)))))))
  (sqS (sRet (dC (.bool false)))
  sNx)
  sNx)
  sNx))
  (sqS (sRet (dFn u_rises (aCons (dFrz (lcF (sSeq (dBor 0)) (gNm 3) tTrue (dOp fIx (dBor 3) (dC (.int 0))) [3])) aNil)))
  sNx)))
theorem cert_are_stays : DSs cx_are_stays (defBody st_are_stays) core_are_stays :=
  (dss_cons (ds_if (DW.t (dw_or (dt_not (dt_val (de_isi (t := .tuple) (by decide +kernel) (by rfl) (by decide +kernel) (by decide +kernel) (db_var (i := 0) (by decide +kernel) (by decide +kernel) (by decide +kernel)) rfl) rfl)) (dw_or (dt_not (dt_chainR cr_le cr_le (DE.b de_int) (DE.b (cb_len.run (by decide +kernel) (dba_cons (db_var (i := 0) (by decide +kernel) (by decide +kernel) (by decide +kernel)) dba_nil rfl) rfl)) (DE.b (de_glob (d := (.int 24)) (by decide +kernel) (mem_at 0 rfl) (by decide +kernel))) rfl)) (dw_or1 (dt_not (dt_val (cb_all.run (by decide +kernel) (dba_cons (DE.b (DF.e (df_lc (own := [("one", 3)]) (di_seq (DB.x (db_var (i := 0) (by decide +kernel) (by decide +kernel) (by decide +kernel)))) (by decide +kernel) (dg_name (i := 3) (by decide +kernel) (by decide +kernel)) dts_nil (de_fn (u := u_is_pair) (mem_at 0 rfl) rfl rfl (by decide +kernel) (by decide +kernel) (da_cons (de_var (i := 3) (by decide +kernel) (by decide +kernel) (by decide +kernel)) da_nil rfl) rfl) (by decide) rfl))) dba_nil rfl) rfl) rfl))))))
  (dss_cons (ds_ret de_bl)
  dss_nil)
  dss_nil)
  (dss_cons (ds_for (di_seq (DE.x (de_var (i := 0) (by decide +kernel) (by decide +kernel) (by decide +kernel)))) (dg_tup (dgs_cons (dg_name (i := 1) (by decide +kernel) (by decide +kernel)) (dgs_cons (dg_name (i := 2) (by decide +kernel) (by decide +kernel)) dgs_nil rfl) rfl) rfl)
  (dss_cons (ds_if (DW.t (dw_or (dt_not (dt_val (de_fn (u := u_is_within) (mem_at 1 rfl) rfl rfl (by decide +kernel) (by decide +kernel) (da_cons (de_var (i := 1) (by decide +kernel) (by decide +kernel) (by decide +kernel)) (da_cons de_int (da_cons (de_sub (DE.b (de_glob (d := (.int 1000000)) (by decide +kernel) (mem_at 1 rfl) (by decide +kernel))) (DE.b de_int)) da_nil rfl) rfl) rfl) rfl) rfl)) (dw_or1 (dt_not (dt_val (de_fn (u := u_is_within) (mem_at 1 rfl) rfl rfl (by decide +kernel) (by decide +kernel) (da_cons (de_var (i := 2) (by decide +kernel) (by decide +kernel) (by decide +kernel)) (da_cons (de_add (db_var (i := 1) (by decide +kernel) (by decide +kernel) (by decide +kernel)) (DE.b de_int)) (da_cons (de_glob (d := (.int 1000000)) (by decide +kernel) (mem_at 1 rfl) (by decide +kernel)) da_nil rfl) rfl) rfl) rfl) rfl)))))
  (dss_cons (ds_ret de_bl)
  dss_nil)
  dss_nil)
  dss_nil) rfl)
  (dss_cons (ds_ret (de_fn (u := u_rises) (mem_at 2 rfl) rfl rfl (by decide +kernel) (by decide +kernel) (da_cons (DF.e (df_lc (own := [("one", 3)]) (di_seq (DB.x (db_var (i := 0) (by decide +kernel) (by decide +kernel) (by decide +kernel)))) (by decide +kernel) (dg_name (i := 3) (by decide +kernel) (by decide +kernel)) dts_nil (de_ix (db_var (i := 3) (by decide +kernel) (by decide +kernel) (by decide +kernel)) (DE.b de_int) rfl) (by decide) rfl)) da_nil rfl) rfl))
  dss_nil)))
def g_are_stays : List D → Bag → Option (D × Bag) := runD core_are_stays 4 false
def u_are_stays : UFn := ⟨"are_stays", false, 1, g_are_stays⟩
theorem sc_are_stays : FnScope ["thing", "come", "gone", "one"] ["thing"] (defScope st_are_stays) := ⟨rfl, rfl, rfl, by decide +kernel, rfl, by decide +kernel, by decide +kernel⟩
theorem ok_are_stays {P : Program} {w : World} {K : PySem.W.Frag} {mg : Str → Option Value} {base : Heap} {k : Nat} (D0 : Df K mg "are_stays" st_are_stays ["thing"]) (bl : ∀ x, x ∈ bltNames → mg x = none) (h0 : UOk P w K mg base k u_is_pair) (h1 : UOk P w K mg base k u_is_within) (h2 : UOk P w K mg base k u_rises) (c0 : CsOk P w K mg "MOST_ROWS" (.int 24)) (c1 : CsOk P w K mg "MOST_HOUR" (.int 1000000)) : UOk P w K mg base (k + 1) u_are_stays :=
  uok_mk (Γ := cx_are_stays) D0 ⟨bl, all_us (by exact ⟨h0, ⟨h1, ⟨h2, trivial⟩⟩⟩), all_cs (by exact ⟨c0, ⟨c1, trivial⟩⟩), fun h => nomatch h⟩ sc_are_stays (by decide +kernel) rfl cert_are_stays rfl rfl
/-! ### pegs_so -/
abbrev st_pegs_so : Stmt := topS 22
def nm_pegs_so : List (Str × NameKind) := [("stays", .local), ("found", .local), ("come", .cell), ("gone", .local), ("held", .cell), ("zip", .globalImplicit), ("min", .globalImplicit), ("range", .globalImplicit), ("len", .globalImplicit)]
def cx_pegs_so : Ctx := ⟨["stays", "found", "come", "gone", "held", "peg", "other"], nm_pegs_so, fun _ => true, [], [], false⟩
def core_pegs_so : SF :=
  (sqS (sSetO 1 (aOk aNil))
  (sqS (sFor (sSeq (dVar 0)) (gTp (gsCons (gNm 2) (gsCons (gNm 3) gsNil)) 2)
  (sqS (sSetK 4 (dcF (sZip (aCons (dBor 1) (aCons (dBor 0) aNil))) (gTp (gsCons (gNm 5) (gsCons (gNm 6) gsNil)) 2) (tob (dOp fGt (dOp fIx (dBor 6) (dC (.int 1))) (dBor 2))) (dVar 5) (dC (.bool true)) [5, 6]))
  (sqS (sApp 1 (dCall fMin (aCons (dFrz (lcF (sRange2 (aCons (dC (.int 1)) (aCons (dOp fAdd (dCall fLen (aCons (dBor 4) aNil)) (dC (.int 2))) aNil))) (gNm 5) (tob (dOp fNin (dBor 5) (dBor 4))) (dVar 5) [5])) aNil)))
  sNx)))
  (sqS (sFrz [1] (sRet (dVar 1)))
  sNx)))
theorem cert_pegs_so : DSs cx_pegs_so (defBody st_pegs_so) core_pegs_so :=
  (dss_cons (ds_setO' (i := 1) (by decide +kernel) (by decide +kernel) (df_lst da_nil) (by decide +kernel))
  (dss_cons (ds_for (di_seq (DE.x (de_var (i := 0) (by decide +kernel) (by decide +kernel) (by decide +kernel)))) (dg_tup (dgs_cons (dg_name (i := 2) (by decide +kernel) (by decide +kernel)) (dgs_cons (dg_name (i := 3) (by decide +kernel) (by decide +kernel)) dgs_nil rfl) rfl) rfl)
  (dss_cons (ds_setK' (i := 4) (by decide +kernel) (by decide +kernel) (dk_dc (own := [("peg", 5), ("other", 6)]) (di_zip (by decide +kernel) (dxa_cons (DB.x (db_var (i := 1) (by decide +kernel) (by decide +kernel) (by decide +kernel))) (dxa_cons (DB.x (db_var (i := 0) (by decide +kernel) (by decide +kernel) (by decide +kernel))) dxa_nil rfl) rfl) rfl rfl) (by decide +kernel) (dg_tup (dgs_cons (dg_name (i := 5) (by decide +kernel) (by decide +kernel)) (dgs_cons (dg_name (i := 6) (by decide +kernel) (by decide +kernel)) dgs_nil rfl) rfl) rfl) (dts_one (dt_cmpR cr_gt (DE.b (de_ix (db_var (i := 6) (by decide +kernel) (by decide +kernel) (by decide +kernel)) (DE.b de_int) rfl)) (db_var (i := 2) (by decide +kernel) (by decide +kernel) (by decide +kernel)) rfl)) (de_var (i := 5) (by decide +kernel) (by decide +kernel) (by decide +kernel)) de_bl (by decide) rfl) (by decide +kernel))
  (dss_cons (ds_app (i := 1) (by decide +kernel) (by decide +kernel) (by decide +kernel) (cb_min.run (by decide +kernel) (dba_cons (DE.b (DF.e (df_lc (own := [("peg", 5)]) (di_range2 (by decide +kernel) (dxa_cons (DE.x de_int) (dxa_cons (DE.x (de_add (DE.b (cb_len.run (by decide +kernel) (dba_cons (db_var (i := 4) (by decide +kernel) (by decide +kernel) (by decide +kernel)) dba_nil rfl) rfl)) (DE.b de_int))) dxa_nil rfl) rfl) rfl rfl) (by decide +kernel) (dg_name (i := 5) (by decide +kernel) (by decide +kernel)) (dts_one (dt_cmpR cr_nin (db_var (i := 5) (by decide +kernel) (by decide +kernel) (by decide +kernel)) (db_var (i := 4) (by decide +kernel) (by decide +kernel) (by decide +kernel)) rfl)) (de_var (i := 5) (by decide +kernel) (by decide +kernel) (by decide +kernel)) (by decide) rfl))) dba_nil rfl) rfl) rfl rfl)
  dss_nil)) rfl)
  (dss_cons (ds_frz' [1] (ds_ret (de_var (i := 1) (by decide +kernel) (by decide +kernel) (by decide +kernel))))
  dss_nil)))
def g_pegs_so : List D → Bag → Option (D × Bag) := runD core_pegs_so 7 false
def u_pegs_so : UFn := ⟨"pegs_so", false, 1, g_pegs_so⟩
theorem sc_pegs_so : FnScope ["stays", "found", "come", "gone", "held", "peg", "other"] ["stays"] (defScope st_pegs_so) := ⟨rfl, rfl, rfl, by decide +kernel, rfl, by decide +kernel, by decide +kernel⟩
theorem ok_pegs_so {P : Program} {w : World} {K : PySem.W.Frag} {mg : Str → Option Value} {base : Heap} {k : Nat} (D0 : Df K mg "pegs_so" st_pegs_so ["stays"]) (bl : ∀ x, x ∈ bltNames → mg x = none)   : UOk P w K mg base (k + 1) u_pegs_so :=
  uok_mk (Γ := cx_pegs_so) D0 ⟨bl, all_us (by exact trivial), all_cs (by exact trivial), fun h => nomatch h⟩ sc_pegs_so (by decide +kernel) rfl cert_pegs_so rfl rfl
/-! ### pegs -/
abbrev st_pegs : Stmt := topS 23
def nm_pegs : List (Str × NameKind) := [("stays", .local), ("are_stays", .globalImplicit), ("NoStays", .globalImplicit), ("tuple", .globalImplicit), ("pegs_so", .globalImplicit)]
def cx_pegs : Ctx := ⟨["stays"], nm_pegs, fun _ => true, [u_are_stays, u_pegs_so], [], false⟩
def core_pegs : SF :=
  (sqS (sIf (tNotF (tob (dFn u_are_stays (aCons (dVar 0) aNil))))
  (sqS sNone
  sNx)
  sNx)
  (sqS (sRet (dCall fTuple (aCons (dFn u_pegs_so (aCons (dVar 0) aNil)) aNil)))
  sNx))
theorem cert_pegs : DSs cx_pegs (defBody st_pegs) core_pegs :=
  (dss_cons (ds_if (dt_not (dt_val (de_fn (u := u_are_stays) (mem_at 0 rfl) rfl rfl (by decide +kernel) (by decide +kernel) (da_cons (de_var (i := 0) (by decide +kernel) (by decide +kernel) (by decide +kernel)) da_nil rfl) rfl) rfl))
  (dss_cons ds_never
  dss_nil)
  dss_nil)
  (dss_cons (ds_ret (cb_tuple.run (by decide +kernel) (dba_cons (DE.b (de_fn (u := u_pegs_so) (mem_at 1 rfl) rfl rfl (by decide +kernel) (by decide +kernel) (da_cons (de_var (i := 0) (by decide +kernel) (by decide +kernel) (by decide +kernel)) da_nil rfl) rfl)) dba_nil rfl) rfl))
  dss_nil))
def g_pegs : List D → Bag → Option (D × Bag) := runD core_pegs 1 false
def u_pegs : UFn := ⟨"pegs", false, 1, g_pegs⟩
theorem sc_pegs : FnScope ["stays"] ["stays"] (defScope st_pegs) := ⟨rfl, rfl, rfl, by decide +kernel, rfl, by decide +kernel, by decide +kernel⟩
theorem ok_pegs {P : Program} {w : World} {K : PySem.W.Frag} {mg : Str → Option Value} {base : Heap} {k : Nat} (D0 : Df K mg "pegs" st_pegs ["stays"]) (bl : ∀ x, x ∈ bltNames → mg x = none) (h0 : UOk P w K mg base k u_are_stays) (h1 : UOk P w K mg base k u_pegs_so)  : UOk P w K mg base (k + 1) u_pegs :=
  uok_mk (Γ := cx_pegs) D0 ⟨bl, all_us (by exact ⟨h0, ⟨h1, trivial⟩⟩), all_cs (by exact trivial), fun h => nomatch h⟩ sc_pegs (by decide +kernel) rfl cert_pegs rfl rfl
/-! ### hangs -/
abbrev st_hangs : Stmt := topS 25
def nm_hangs : List (Str × NameKind) := [("come", .local), ("gone", .local), ("hour", .local)]
def cx_hangs : Ctx := ⟨["come", "gone", "hour"], nm_hangs, fun _ => true, [], [], false⟩
def core_hangs : SF :=
  (sqS (sRet (dChain fLe fLt (dBor 0) (dBor 2) (dBor 1)))
  sNx)
theorem cert_hangs : DSs cx_hangs (defBody st_hangs) core_hangs :=
  (dss_cons (ds_ret (de_chainR cr_le cr_lt (db_var (i := 0) (by decide +kernel) (by decide +kernel) (by decide +kernel)) (db_var (i := 2) (by decide +kernel) (by decide +kernel) (by decide +kernel)) (db_var (i := 1) (by decide +kernel) (by decide +kernel) (by decide +kernel)) rfl))
  dss_nil)
def g_hangs : List D → Bag → Option (D × Bag) := runD core_hangs 3 false
def u_hangs : UFn := ⟨"hangs", false, 3, g_hangs⟩
theorem sc_hangs : FnScope ["come", "gone", "hour"] ["come", "gone", "hour"] (defScope st_hangs) := ⟨rfl, rfl, rfl, by decide +kernel, rfl, by decide +kernel, by decide +kernel⟩
theorem ok_hangs {P : Program} {w : World} {K : PySem.W.Frag} {mg : Str → Option Value} {base : Heap} {k : Nat} (D0 : Df K mg "hangs" st_hangs ["come", "gone", "hour"]) (bl : ∀ x, x ∈ bltNames → mg x = none)   : UOk P w K mg base (k + 1) u_hangs :=
  uok_mk (Γ := cx_hangs) D0 ⟨bl, all_us (by exact trivial), all_cs (by exact trivial), fun h => nomatch h⟩ sc_hangs (by decide +kernel) rfl cert_hangs rfl rfl
/-! ### is_story -/
abbrev st_is_story : Stmt := topS 26
def nm_is_story : List (Str × NameKind) := [("book", .local), ("sights", .local), ("thing", .local), ("close", .cell), ("rows", .local), ("stays", .local), ("hour", .cell), ("peg", .cell), ("hung", .local), ("there", .local), ("look_at", .globalImplicit), ("isinstance", .globalImplicit), ("tuple", .globalImplicit), ("len", .globalImplicit), ("all", .globalImplicit), ("zip", .globalImplicit), ("pegs_so", .globalImplicit)]
def cx_is_story : Ctx := ⟨["book", "sights", "thing", "close", "rows", "stays", "hour", "peg", "hung", "there", "gone", "row", "come"], nm_is_story, fun _ => true, [u_look_at, u_is_within, u_pegs_so, u_hangs], [], false⟩
def core_is_story : SF :=
  (sqS (sExpr (dFn u_look_at (aCons (dVar 0) (aCons (dVar 1) aNil))))
  (sqS (sAsg (gTp (gsCons (gNm 3) (gsCons (gNm 4) gsNil)) 2) (dVar 0))
  (sqS (sIf (tOrF (tNotF (tob (dIsi .tuple (dBor 2)))) (tob (dOp fNe (dCall fLen (aCons (dBor 2) aNil)) (dCall fLen (aCons (dBor 4) aNil)))))
  (sqS (sRet (dC (.bool false)))
  sNx)
  sNx)
  (sqS (sIf (tNotF (tob (dCall fAll (aCons (dFrz (lcF (sZip (aCons (dBor 2) (aCons (dBor 4) aNil))) (gTp (gsCons (gNm 10) (gsCons (gNm 11) gsNil)) 2) tTrue (dFn u_is_within (aCons (dVar 10) (aCons (dOp fAdd (dOp fIx (dBor 11) (dC (.int 0))) (dC (.int 1))) (aCons (dVar 3) aNil)))) [10, 11])) aNil))))
  (sqS (sRet (dC (.bool false)))
  sNx)
  sNx)
  (sqS (sSetO 5 (lcF (sZip (aCons (dBor 4) (aCons (dBor 2) aNil))) (gTp (gsCons (gNm 11) (gsCons (gNm 10) gsNil)) 2) tTrue (dTup (aCons (dOp fIx (dBor 11) (dC (.int 0))) (aCons (dVar 10) aNil))) [11, 10]))
  (sqS (sFrz [5] (sIf (tob (dOp fNe (dFn u_pegs_so (aCons (dVar 5) aNil)) (dFrz (lcF (sSeq (dBor 4)) (gNm 11) tTrue (dOp fIx (dBor 11) (dC (.int 1))) [11]))))
  (sqS (sRet (dC (.bool false)))
  sNx)
  sNx))
  (sqS (sFor (sSeq (dVar 1)) (gTp (gsCons (gNm 6) (gsCons (gNm 7) (gsCons (gNm 8) gsNil))) 3)
  (sqS (sSetO 9 (lcF (sZip (aCons (dBor 5) (aCons (dBor 4) aNil))) (gTp (gsCons (gTp (gsCons (gNm 12) (gsCons (gNm 10) gsNil)) 2) (gsCons (gNm 11) gsNil)) 2) (tAndF (tob (dOp fEq (dOp fIx (dBor 11) (dC (.int 1))) (dBor 7))) (tob (dFn u_hangs (aCons (dVar 12) (aCons (dVar 10) (aCons (dVar 6) aNil)))))) (dC (.int 1)) [12, 10, 11]))
  (sqS (sIf (tob (dOp fNe (dOp fNe (dBor 9) (dFrz (aOk aNil))) (dBor 8)))
  (sqS (sRet (dC (.bool false)))
  sNx)
  sNx)
  sNx)))
  (sqS (sRet (dC (.bool true)))
  sNx))))))))
theorem cert_is_story : DSs cx_is_story (defBody st_is_story) core_is_story :=
  (dss_cons (ds_expr (de_fn (u := u_look_at) (mem_at 0 rfl) rfl rfl (by decide +kernel) (by decide +kernel) (da_cons (de_var (i := 0) (by decide +kernel) (by decide +kernel) (by decide +kernel)) (da_cons (de_var (i := 1) (by decide +kernel) (by decide +kernel) (by decide +kernel)) da_nil rfl) rfl) rfl) rfl)
  (dss_cons (ds_asgT (dg_tup (dgs_cons (dg_name (i := 3) (by decide +kernel) (by decide +kernel)) (dgs_cons (dg_name (i := 4) (by decide +kernel) (by decide +kernel)) dgs_nil rfl) rfl) rfl) (de_var (i := 0) (by decide +kernel) (by decide +kernel) (by decide +kernel)) rfl rfl)
  (dss_cons (ds_if (DW.t (dw_or (dt_not (dt_val (de_isi (t := .tuple) (by decide +kernel) (by rfl) (by decide +kernel) (by decide +kernel) (db_var (i := 2) (by decide +kernel) (by decide +kernel) (by decide +kernel)) rfl) rfl)) (dw_or1 (dt_cmpR cr_ne (DE.b (cb_len.run (by decide +kernel) (dba_cons (db_var (i := 2) (by decide +kernel) (by decide +kernel) (by decide +kernel)) dba_nil rfl) rfl)) (DE.b (cb_len.run (by decide +kernel) (dba_cons (db_var (i := 4) (by decide +kernel) (by decide +kernel) (by decide +kernel)) dba_nil rfl) rfl)) rfl))))
  (dss_cons (ds_ret de_bl)
  dss_nil)
  dss_nil)
  (dss_cons (ds_if (dt_not (dt_val (cb_all.run (by decide +kernel) (dba_cons (DE.b (DF.e (df_lc (own := [("gone", 10), ("row", 11)]) (di_zip (by decide +kernel) (dxa_cons (DB.x (db_var (i := 2) (by decide +kernel) (by decide +kernel) (by decide +kernel))) (dxa_cons (DB.x (db_var (i := 4) (by decide +kernel) (by decide +kernel) (by decide +kernel))) dxa_nil rfl) rfl) rfl rfl) (by decide +kernel) (dg_tup (dgs_cons (dg_name (i := 10) (by decide +kernel) (by decide +kernel)) (dgs_cons (dg_name (i := 11) (by decide +kernel) (by decide +kernel)) dgs_nil rfl) rfl) rfl) dts_nil (de_fn (u := u_is_within) (mem_at 1 rfl) rfl rfl (by decide +kernel) (by decide +kernel) (da_cons (de_var (i := 10) (by decide +kernel) (by decide +kernel) (by decide +kernel)) (da_cons (de_add (DE.b (de_ix (db_var (i := 11) (by decide +kernel) (by decide +kernel) (by decide +kernel)) (DE.b de_int) rfl)) (DE.b de_int)) (da_cons (de_var (i := 3) (by decide +kernel) (by decide +kernel) (by decide +kernel)) da_nil rfl) rfl) rfl) rfl) (by decide) rfl))) dba_nil rfl) rfl) rfl))
  (dss_cons (ds_ret de_bl)
  dss_nil)
  dss_nil)
  (dss_cons (ds_setLc (i := 5) (own := [("row", 11), ("gone", 10)]) (by decide +kernel) (by decide +kernel) (di_zip (by decide +kernel) (dxa_cons (DB.x (db_var (i := 4) (by decide +kernel) (by decide +kernel) (by decide +kernel))) (dxa_cons (DB.x (db_var (i := 2) (by decide +kernel) (by decide +kernel) (by decide +kernel))) dxa_nil rfl) rfl) rfl rfl) (by decide +kernel) (dg_tup (dgs_cons (dg_name (i := 11) (by decide +kernel) (by decide +kernel)) (dgs_cons (dg_name (i := 10) (by decide +kernel) (by decide +kernel)) dgs_nil rfl) rfl) rfl) dts_nil (de_tup (da_cons (de_ix (db_var (i := 11) (by decide +kernel) (by decide +kernel) (by decide +kernel)) (DE.b de_int) rfl) (da_cons (de_var (i := 10) (by decide +kernel) (by decide +kernel) (by decide +kernel)) da_nil rfl) rfl)) (by decide) rfl)
  (dss_cons (ds_frz' [5] (ds_if (dt_cmpR cr_ne (DE.b (de_fn (u := u_pegs_so) (mem_at 2 rfl) rfl rfl (by decide +kernel) (by decide +kernel) (da_cons (de_var (i := 5) (by decide +kernel) (by decide +kernel) (by decide +kernel)) da_nil rfl) rfl)) (DE.b (DF.e (df_lc (own := [("row", 11)]) (di_seq (DB.x (db_var (i := 4) (by decide +kernel) (by decide +kernel) (by decide +kernel)))) (by decide +kernel) (dg_name (i := 11) (by decide +kernel) (by decide +kernel)) dts_nil (de_ix (db_var (i := 11) (by decide +kernel) (by decide +kernel) (by decide +kernel)) (DE.b de_int) rfl) (by decide) rfl))) rfl)
  (dss_cons (ds_ret de_bl)
  dss_nil)
  dss_nil))
  (dss_cons (ds_for (di_seq (DE.x (de_var (i := 1) (by decide +kernel) (by decide +kernel) (by decide +kernel)))) (dg_tup (dgs_cons (dg_name (i := 6) (by decide +kernel) (by decide +kernel)) (dgs_cons (dg_name (i := 7) (by decide +kernel) (by decide +kernel)) (dgs_cons (dg_name (i := 8) (by decide +kernel) (by decide +kernel)) dgs_nil rfl) rfl) rfl) rfl)
  (dss_cons (ds_setLc (i := 9) (own := [("come", 12), ("gone", 10), ("row", 11)]) (by decide +kernel) (by decide +kernel) (di_zip (by decide +kernel) (dxa_cons (DB.x (db_var (i := 5) (by decide +kernel) (by decide +kernel) (by decide +kernel))) (dxa_cons (DB.x (db_var (i := 4) (by decide +kernel) (by decide +kernel) (by decide +kernel))) dxa_nil rfl) rfl) rfl rfl) (by decide +kernel) (dg_tup (dgs_cons (dg_tup (dgs_cons (dg_name (i := 12) (by decide +kernel) (by decide +kernel)) (dgs_cons (dg_name (i := 10) (by decide +kernel) (by decide +kernel)) dgs_nil rfl) rfl) rfl) (dgs_cons (dg_name (i := 11) (by decide +kernel) (by decide +kernel)) dgs_nil rfl) rfl) rfl) (dts_one (DW.t (dw_and (dt_cmpR cr_eq (DE.b (de_ix (db_var (i := 11) (by decide +kernel) (by decide +kernel) (by decide +kernel)) (DE.b de_int) rfl)) (db_var (i := 7) (by decide +kernel) (by decide +kernel) (by decide +kernel)) rfl) (dw_and1 (dt_val (de_fn (u := u_hangs) (mem_at 3 rfl) rfl rfl (by decide +kernel) (by decide +kernel) (da_cons (de_var (i := 12) (by decide +kernel) (by decide +kernel) (by decide +kernel)) (da_cons (de_var (i := 10) (by decide +kernel) (by decide +kernel) (by decide +kernel)) (da_cons (de_var (i := 6) (by decide +kernel) (by decide +kernel) (by decide +kernel)) da_nil rfl) rfl) rfl) rfl) rfl))))) de_int (by decide) rfl)
  (dss_cons (ds_if (dt_cmpR cr_ne (DE.b (de_cmpR cr_ne (db_var (i := 9) (by decide +kernel) (by decide +kernel) (by decide +kernel)) (DE.b (DF.e (df_lst da_nil))) rfl)) (db_var (i := 8) (by decide +kernel) (by decide +kernel) (by decide +kernel)) rfl)
  (dss_cons (ds_ret de_bl)
  dss_nil)
  dss_nil)
  dss_nil)) rfl)
  (dss_cons (ds_ret de_bl)
  dss_nil))))))))
def g_is_story : List D → Bag → Option (D × Bag) := runD core_is_story 13 false
def u_is_story : UFn := ⟨"is_story", false, 3, g_is_story⟩
theorem sc_is_story : FnScope ["book", "sights", "thing", "close", "rows", "stays", "hour", "peg", "hung", "there", "gone", "row", "come"] ["book", "sights", "thing"] (defScope st_is_story) := ⟨rfl, rfl, rfl, by decide +kernel, rfl, by decide +kernel, by decide +kernel⟩
theorem ok_is_story {P : Program} {w : World} {K : PySem.W.Frag} {mg : Str → Option Value} {base : Heap} {k : Nat} (D0 : Df K mg "is_story" st_is_story ["book", "sights", "thing"]) (bl : ∀ x, x ∈ bltNames → mg x = none) (h0 : UOk P w K mg base k u_look_at) (h1 : UOk P w K mg base k u_is_within) (h2 : UOk P w K mg base k u_pegs_so) (h3 : UOk P w K mg base k u_hangs)  : UOk P w K mg base (k + 1) u_is_story :=
  uok_mk (Γ := cx_is_story) D0 ⟨bl, all_us (by exact ⟨h0, ⟨h1, ⟨h2, ⟨h3, trivial⟩⟩⟩⟩), all_cs (by exact trivial), fun h => nomatch h⟩ sc_is_story (by decide +kernel) rfl cert_is_story rfl rfl
/-! ### _law_take -/
abbrev st_L_law_take : Stmt := topS 29
def nm_L_law_take : List (Str × NameKind) := [("bag", .local), ("many", .local), ("found", .local), ("p", .local), ("n", .local)]
def cx_L_law_take : Ctx := ⟨["bag", "many", "found", "p", "n"], nm_L_law_take, fun _ => true, [], [], false⟩
def core_L_law_take : SF :=
  (sqS (sIf (tob (dOp fGt (dBag 0 0) (dC (.int 0))))
  (sqS (sSet 2 (dOp fMod (dBag 0 0) (dBor 1)))
  (sqS (sBagSet 0 0 (dOp fDiv (dBag 0 0) (dBor 1)))
  (sqS (sRet (dVar 2))
  sNx)))
  sNx)
  (sqS (sBagSet 0 2 (dOp fAdd (dBag 0 2) (dC (.int 1))))
  (sqS (sSet 3 (dC (.int 2305843009213693951)))
  (sqS (sSet 4 (dOp fMod (dOp fAdd (dBag 0 1) (dOp fMul (dC (.int 1000003)) (dBag 0 2))) (dBor 3)))
  (sqS (sSet 4 (dOp fMod (dOp fAdd (dOp fAdd (dOp fMul (dBor 4) (dBor 4)) (dOp fMul (dC (.int 7919)) (dOp fPow (dBag 0 2) (dC (.int 2))))) (dC (.int 5))) (dBor 3)))
  (sqS (sRet (dOp fMod (dOp fDiv (dOp fMod (dOp fPow (dBor 4) (dC (.int 3))) (dBor 3)) (dC (.int 13))) (dBor 1)))
  sNx))))))
theorem cert_L_law_take : DSs cx_L_law_take (defBody st_L_law_take) core_L_law_take :=
  (dss_cons (ds_if (dt_cmpR cr_gt (DE.b (de_bag (i := 0) (by decide +kernel) (by decide +kernel) (by decide +kernel))) (DE.b de_int) rfl)
  (dss_cons (ds_set (i := 2) (by decide +kernel) (by decide +kernel) (de_mod (DE.b (de_bag (i := 0) (by decide +kernel) (by decide +kernel) (by decide +kernel))) (db_var (i := 1) (by decide +kernel) (by decide +kernel) (by decide +kernel))) rfl)
  (dss_cons (ds_bagSet (i := 0) (by decide +kernel) (by decide +kernel) (by decide +kernel) (de_div (DE.b (de_bag (i := 0) (by decide +kernel) (by decide +kernel) (by decide +kernel))) (db_var (i := 1) (by decide +kernel) (by decide +kernel) (by decide +kernel))) rfl)
  (dss_cons (ds_ret (de_var (i := 2) (by decide +kernel) (by decide +kernel) (by decide +kernel)))
  dss_nil)))
  dss_nil)
  (dss_cons (ds_bagSet (i := 0) (by decide +kernel) (by decide +kernel) (by decide +kernel) (de_add (DE.b (de_bag (i := 0) (by decide +kernel) (by decide +kernel) (by decide +kernel))) (DE.b de_int)) rfl)
  (dss_cons (ds_set (i := 3) (by decide +kernel) (by decide +kernel) de_int rfl)
  (dss_cons (ds_set (i := 4) (by decide +kernel) (by decide +kernel) (de_mod (DE.b (de_add (DE.b (de_bag (i := 0) (by decide +kernel) (by decide +kernel) (by decide +kernel))) (DE.b (de_mul (DE.b de_int) (DE.b (de_bag (i := 0) (by decide +kernel) (by decide +kernel) (by decide +kernel))))))) (db_var (i := 3) (by decide +kernel) (by decide +kernel) (by decide +kernel))) rfl)
  (dss_cons (ds_set (i := 4) (by decide +kernel) (by decide +kernel) (de_mod (DE.b (de_add (DE.b (de_add (DE.b (de_mul (db_var (i := 4) (by decide +kernel) (by decide +kernel) (by decide +kernel)) (db_var (i := 4) (by decide +kernel) (by decide +kernel) (by decide +kernel)))) (DE.b (de_mul (DE.b de_int) (DE.b (de_pow (DE.b (de_bag (i := 0) (by decide +kernel) (by decide +kernel) (by decide +kernel))) (DE.b de_int))))))) (DE.b de_int))) (db_var (i := 3) (by decide +kernel) (by decide +kernel) (by decide +kernel))) rfl)
  (dss_cons (ds_ret (de_mod (DE.b (de_div (DE.b (de_mod (DE.b (de_pow (db_var (i := 4) (by decide +kernel) (by decide +kernel) (by decide +kernel)) (DE.b de_int))) (db_var (i := 3) (by decide +kernel) (by decide +kernel) (by decide +kernel)))) (DE.b de_int))) (db_var (i := 1) (by decide +kernel) (by decide +kernel) (by decide +kernel))))
  dss_nil))))))
def g_L_law_take : List D → Bag → Option (D × Bag) := runD core_L_law_take 5 true
def u_L_law_take : UFn := ⟨"_law_take", true, 2, g_L_law_take⟩
theorem sc_L_law_take : FnScope ["bag", "many", "found", "p", "n"] ["bag", "many"] (defScope st_L_law_take) := ⟨rfl, rfl, rfl, by decide +kernel, rfl, by decide +kernel, by decide +kernel⟩
theorem ok_L_law_take {P : Program} {w : World} {K : PySem.W.Frag} {mg : Str → Option Value} {base : Heap} {k : Nat} (D0 : Df K mg "_law_take" st_L_law_take ["bag", "many"]) (bl : ∀ x, x ∈ bltNames → mg x = none)   : UOk P w K mg base (k + 1) u_L_law_take :=
  uok_mk (Γ := cx_L_law_take) D0 ⟨bl, all_us (by exact trivial), all_cs (by exact trivial), fun h => nomatch h⟩ sc_L_law_take (by decide +kernel) rfl cert_L_law_take rfl rfl
/-! ### _law_same -/
abbrev st_L_law_same : Stmt := topS 31
def nm_L_law_same : List (Str × NameKind) := [("a", .local), ("b", .local), ("isinstance", .globalImplicit), ("list", .globalImplicit), ("tuple", .globalImplicit), ("len", .globalImplicit), ("all", .globalImplicit), ("zip", .globalImplicit), ("bool", .globalImplicit), ("int", .globalImplicit), ("str", .globalImplicit)]
def cx_L_law_same (u : UFn) : Ctx := ⟨["a", "b", "x", "y"], nm_L_law_same, fun _ => true, [u], [], false⟩
def core_L_law_same (u : UFn) : SF :=
  (sqS (sIf (tOrF (tAndF (tob (dIsi .list (dBor 0))) (tob (dIsi .list (dBor 1)))) (tAndF (tob (dIsi .tuple (dBor 0))) (tob (dIsi .tuple (dBor 1)))))
  (sqS (sRet (dAnd (dOp fEq (dCall fLen (aCons (dBor 0) aNil)) (dCall fLen (aCons (dBor 1) aNil))) (dCall fAll (aCons (dFrz (lcF (sZip (aCons (dBor 0) (aCons (dBor 1) aNil))) (gTp (gsCons (gNm 2) (gsCons (gNm 3) gsNil)) 2) tTrue (dFn u (aCons (dVar 2) (aCons (dVar 3) aNil))) [2, 3])) aNil))))
  sNx)
  sNx)
  (sqS (sIf (tOrF (tob (dIsis [.bool, .list, .tuple] (dBor 0))) (tob (dIsis [.bool, .list, .tuple] (dBor 1))))
  (sqS (sRet (dAnd (dIsi .bool (dBor 0)) (dAnd (dIsi .bool (dBor 1)) (dOp fEq (dBor 0) (dBor 1)))))
  sNx)
  sNx)
  (sqS (sIf (tOrF (tob (dIsi .int (dBor 0))) (tob (dIsi .int (dBor 1))))
  (sqS (sRet (dAnd (dIsi .int (dBor 0)) (dAnd (dIsi .int (dBor 1)) (dOp fEq (dBor 0) (dBor 1)))))
  sNx)
  sNx)
  (sqS (sIf (tOrF (tob (dIsi .str (dBor 0))) (tob (dIsi .str (dBor 1))))
  (sqS (sRet (dAnd (dIsi .str (dBor 0)) (dAnd (dIsi .str (dBor 1)) (dOp fEq (dBor 0) (dBor 1)))))
  sNx)
  sNx)
  (sqS (sRet (dAnd (dOp fIs (dBor 0) (dC .none)) (dOp fIs (dBor 1) (dC .none))))
  sNx)))))
theorem cert_L_law_same (u : UFn) (hn : u.name = "_law_same") (hb : u.bagged = false) : DSs (cx_L_law_same u) (defBody st_L_law_same) (core_L_law_same u) :=
  (dss_cons (ds_if (DW.t (dw_or (DW.t (dw_and (dt_val (de_isi (t := .list) (by first | decide +kernel | (dsimp only [cx_L_law_same, Ctx.blk, blkNames, locK, swOk, noSw]; decide +kernel) | rfl) (by rfl) (by first | decide +kernel | (dsimp only [cx_L_law_same, Ctx.blk, blkNames, locK, swOk, noSw]; decide +kernel) | rfl) (by first | decide +kernel | (dsimp only [cx_L_law_same, Ctx.blk, blkNames, locK, swOk, noSw]; decide +kernel) | rfl) (db_var (i := 0) (by first | decide +kernel | (dsimp only [cx_L_law_same, Ctx.blk, blkNames, locK, swOk, noSw]; decide +kernel) | rfl) (by first | decide +kernel | (dsimp only [cx_L_law_same, Ctx.blk, blkNames, locK, swOk, noSw]; decide +kernel) | rfl) (by first | decide +kernel | (dsimp only [cx_L_law_same, Ctx.blk, blkNames, locK, swOk, noSw]; decide +kernel) | rfl)) rfl) rfl) (dw_and1 (dt_val (de_isi (t := .list) (by first | decide +kernel | (dsimp only [cx_L_law_same, Ctx.blk, blkNames, locK, swOk, noSw]; decide +kernel) | rfl) (by rfl) (by first | decide +kernel | (dsimp only [cx_L_law_same, Ctx.blk, blkNames, locK, swOk, noSw]; decide +kernel) | rfl) (by first | decide +kernel | (dsimp only [cx_L_law_same, Ctx.blk, blkNames, locK, swOk, noSw]; decide +kernel) | rfl) (db_var (i := 1) (by first | decide +kernel | (dsimp only [cx_L_law_same, Ctx.blk, blkNames, locK, swOk, noSw]; decide +kernel) | rfl) (by first | decide +kernel | (dsimp only [cx_L_law_same, Ctx.blk, blkNames, locK, swOk, noSw]; decide +kernel) | rfl) (by first | decide +kernel | (dsimp only [cx_L_law_same, Ctx.blk, blkNames, locK, swOk, noSw]; decide +kernel) | rfl)) rfl) rfl)))) (dw_or1 (DW.t (dw_and (dt_val (de_isi (t := .tuple) (by first | decide +kernel | (dsimp only [cx_L_law_same, Ctx.blk, blkNames, locK, swOk, noSw]; decide +kernel) | rfl) (by rfl) (by first | decide +kernel | (dsimp only [cx_L_law_same, Ctx.blk, blkNames, locK, swOk, noSw]; decide +kernel) | rfl) (by first | decide +kernel | (dsimp only [cx_L_law_same, Ctx.blk, blkNames, locK, swOk, noSw]; decide +kernel) | rfl) (db_var (i := 0) (by first | decide +kernel | (dsimp only [cx_L_law_same, Ctx.blk, blkNames, locK, swOk, noSw]; decide +kernel) | rfl) (by first | decide +kernel | (dsimp only [cx_L_law_same, Ctx.blk, blkNames, locK, swOk, noSw]; decide +kernel) | rfl) (by first | decide +kernel | (dsimp only [cx_L_law_same, Ctx.blk, blkNames, locK, swOk, noSw]; decide +kernel) | rfl)) rfl) rfl) (dw_and1 (dt_val (de_isi (t := .tuple) (by first | decide +kernel | (dsimp only [cx_L_law_same, Ctx.blk, blkNames, locK, swOk, noSw]; decide +kernel) | rfl) (by rfl) (by first | decide +kernel | (dsimp only [cx_L_law_same, Ctx.blk, blkNames, locK, swOk, noSw]; decide +kernel) | rfl) (by first | decide +kernel | (dsimp only [cx_L_law_same, Ctx.blk, blkNames, locK, swOk, noSw]; decide +kernel) | rfl) (db_var (i := 1) (by first | decide +kernel | (dsimp only [cx_L_law_same, Ctx.blk, blkNames, locK, swOk, noSw]; decide +kernel) | rfl) (by first | decide +kernel | (dsimp only [cx_L_law_same, Ctx.blk, blkNames, locK, swOk, noSw]; decide +kernel) | rfl) (by first | decide +kernel | (dsimp only [cx_L_law_same, Ctx.blk, blkNames, locK, swOk, noSw]; decide +kernel) | rfl)) rfl) rfl)))))))
  (dss_cons (ds_ret (de_and (de_cmpR cr_eq (DE.b (cb_len.run (by first | decide +kernel | (dsimp only [cx_L_law_same, Ctx.blk, blkNames, locK, swOk, noSw]; decide +kernel) | rfl) (dba_cons (db_var (i := 0) (by first | decide +kernel | (dsimp only [cx_L_law_same, Ctx.blk, blkNames, locK, swOk, noSw]; decide +kernel) | rfl) (by first | decide +kernel | (dsimp only [cx_L_law_same, Ctx.blk, blkNames, locK, swOk, noSw]; decide +kernel) | rfl) (by first | decide +kernel | (dsimp only [cx_L_law_same, Ctx.blk, blkNames, locK, swOk, noSw]; decide +kernel) | rfl)) dba_nil rfl) rfl)) (DE.b (cb_len.run (by first | decide +kernel | (dsimp only [cx_L_law_same, Ctx.blk, blkNames, locK, swOk, noSw]; decide +kernel) | rfl) (dba_cons (db_var (i := 1) (by first | decide +kernel | (dsimp only [cx_L_law_same, Ctx.blk, blkNames, locK, swOk, noSw]; decide +kernel) | rfl) (by first | decide +kernel | (dsimp only [cx_L_law_same, Ctx.blk, blkNames, locK, swOk, noSw]; decide +kernel) | rfl) (by first | decide +kernel | (dsimp only [cx_L_law_same, Ctx.blk, blkNames, locK, swOk, noSw]; decide +kernel) | rfl)) dba_nil rfl) rfl)) rfl) (de_one (cb_all.run (by first | decide +kernel | (dsimp only [cx_L_law_same, Ctx.blk, blkNames, locK, swOk, noSw]; decide +kernel) | rfl) (dba_cons (DE.b (DF.e (df_lc (own := [("x", 2), ("y", 3)]) (di_zip (by first | decide +kernel | (dsimp only [cx_L_law_same, Ctx.blk, blkNames, locK, swOk, noSw]; decide +kernel) | rfl) (dxa_cons (DB.x (db_var (i := 0) (by first | decide +kernel | (dsimp only [cx_L_law_same, Ctx.blk, blkNames, locK, swOk, noSw]; decide +kernel) | rfl) (by first | decide +kernel | (dsimp only [cx_L_law_same, Ctx.blk, blkNames, locK, swOk, noSw]; decide +kernel) | rfl) (by first | decide +kernel | (dsimp only [cx_L_law_same, Ctx.blk, blkNames, locK, swOk, noSw]; decide +kernel) | rfl))) (dxa_cons (DB.x (db_var (i := 1) (by first | decide +kernel | (dsimp only [cx_L_law_same, Ctx.blk, blkNames, locK, swOk, noSw]; decide +kernel) | rfl) (by first | decide +kernel | (dsimp only [cx_L_law_same, Ctx.blk, blkNames, locK, swOk, noSw]; decide +kernel) | rfl) (by first | decide +kernel | (dsimp only [cx_L_law_same, Ctx.blk, blkNames, locK, swOk, noSw]; decide +kernel) | rfl))) dxa_nil rfl) rfl) rfl rfl) (by first | decide +kernel | (dsimp only [cx_L_law_same, Ctx.blk, blkNames, locK, swOk, noSw]; decide +kernel) | rfl) (dg_tup (dgs_cons (dg_name (i := 2) (by first | decide +kernel | (dsimp only [cx_L_law_same, Ctx.blk, blkNames, locK, swOk, noSw]; decide +kernel) | rfl) (by first | decide +kernel | (dsimp only [cx_L_law_same, Ctx.blk, blkNames, locK, swOk, noSw]; decide +kernel) | rfl)) (dgs_cons (dg_name (i := 3) (by first | decide +kernel | (dsimp only [cx_L_law_same, Ctx.blk, blkNames, locK, swOk, noSw]; decide +kernel) | rfl) (by first | decide +kernel | (dsimp only [cx_L_law_same, Ctx.blk, blkNames, locK, swOk, noSw]; decide +kernel) | rfl)) dgs_nil rfl) rfl) rfl) dts_nil (de_fn (u := u) (mem_at 0 rfl) hn hb (by first | decide +kernel | (dsimp only [cx_L_law_same, Ctx.blk, blkNames, locK, swOk, noSw]; decide +kernel) | rfl) (by first | decide +kernel | (dsimp only [cx_L_law_same, Ctx.blk, blkNames, locK, swOk, noSw]; decide +kernel) | rfl) (da_cons (de_var (i := 2) (by first | decide +kernel | (dsimp only [cx_L_law_same, Ctx.blk, blkNames, locK, swOk, noSw]; decide +kernel) | rfl) (by first | decide +kernel | (dsimp only [cx_L_law_same, Ctx.blk, blkNames, locK, swOk, noSw]; decide +kernel) | rfl) (by first | decide +kernel | (dsimp only [cx_L_law_same, Ctx.blk, blkNames, locK, swOk, noSw]; decide +kernel) | rfl)) (da_cons (de_var (i := 3) (by first | decide +kernel | (dsimp only [cx_L_law_same, Ctx.blk, blkNames, locK, swOk, noSw]; decide +kernel) | rfl) (by first | decide +kernel | (dsimp only [cx_L_law_same, Ctx.blk, blkNames, locK, swOk, noSw]; decide +kernel) | rfl) (by first | decide +kernel | (dsimp only [cx_L_law_same, Ctx.blk, blkNames, locK, swOk, noSw]; decide +kernel) | rfl)) da_nil rfl) rfl) rfl) (by decide) rfl))) dba_nil rfl) rfl))))
  dss_nil)
  dss_nil)
  (dss_cons (ds_if (DW.t (dw_or (dt_val (de_isis (ts := [.bool, .list, .tuple]) (by first | decide +kernel | (dsimp only [cx_L_law_same, Ctx.blk, blkNames, locK, swOk, noSw]; decide +kernel) | rfl) (by rfl) (by decide) (db_var (i := 0) (by first | decide +kernel | (dsimp only [cx_L_law_same, Ctx.blk, blkNames, locK, swOk, noSw]; decide +kernel) | rfl) (by first | decide +kernel | (dsimp only [cx_L_law_same, Ctx.blk, blkNames, locK, swOk, noSw]; decide +kernel) | rfl) (by first | decide +kernel | (dsimp only [cx_L_law_same, Ctx.blk, blkNames, locK, swOk, noSw]; decide +kernel) | rfl)) rfl) rfl) (dw_or1 (dt_val (de_isis (ts := [.bool, .list, .tuple]) (by first | decide +kernel | (dsimp only [cx_L_law_same, Ctx.blk, blkNames, locK, swOk, noSw]; decide +kernel) | rfl) (by rfl) (by decide) (db_var (i := 1) (by first | decide +kernel | (dsimp only [cx_L_law_same, Ctx.blk, blkNames, locK, swOk, noSw]; decide +kernel) | rfl) (by first | decide +kernel | (dsimp only [cx_L_law_same, Ctx.blk, blkNames, locK, swOk, noSw]; decide +kernel) | rfl) (by first | decide +kernel | (dsimp only [cx_L_law_same, Ctx.blk, blkNames, locK, swOk, noSw]; decide +kernel) | rfl)) rfl) rfl))))
  (dss_cons (ds_ret (de_and (de_isi (t := .bool) (by first | decide +kernel | (dsimp only [cx_L_law_same, Ctx.blk, blkNames, locK, swOk, noSw]; decide +kernel) | rfl) (by rfl) (by first | decide +kernel | (dsimp only [cx_L_law_same, Ctx.blk, blkNames, locK, swOk, noSw]; decide +kernel) | rfl) (by first | decide +kernel | (dsimp only [cx_L_law_same, Ctx.blk, blkNames, locK, swOk, noSw]; decide +kernel) | rfl) (db_var (i := 0) (by first | decide +kernel | (dsimp only [cx_L_law_same, Ctx.blk, blkNames, locK, swOk, noSw]; decide +kernel) | rfl) (by first | decide +kernel | (dsimp only [cx_L_law_same, Ctx.blk, blkNames, locK, swOk, noSw]; decide +kernel) | rfl) (by first | decide +kernel | (dsimp only [cx_L_law_same, Ctx.blk, blkNames, locK, swOk, noSw]; decide +kernel) | rfl)) rfl) (de_and (de_isi (t := .bool) (by first | decide +kernel | (dsimp only [cx_L_law_same, Ctx.blk, blkNames, locK, swOk, noSw]; decide +kernel) | rfl) (by rfl) (by first | decide +kernel | (dsimp only [cx_L_law_same, Ctx.blk, blkNames, locK, swOk, noSw]; decide +kernel) | rfl) (by first | decide +kernel | (dsimp only [cx_L_law_same, Ctx.blk, blkNames, locK, swOk, noSw]; decide +kernel) | rfl) (db_var (i := 1) (by first | decide +kernel | (dsimp only [cx_L_law_same, Ctx.blk, blkNames, locK, swOk, noSw]; decide +kernel) | rfl) (by first | decide +kernel | (dsimp only [cx_L_law_same, Ctx.blk, blkNames, locK, swOk, noSw]; decide +kernel) | rfl) (by first | decide +kernel | (dsimp only [cx_L_law_same, Ctx.blk, blkNames, locK, swOk, noSw]; decide +kernel) | rfl)) rfl) (de_one (de_cmpR cr_eq (db_var (i := 0) (by first | decide +kernel | (dsimp only [cx_L_law_same, Ctx.blk, blkNames, locK, swOk, noSw]; decide +kernel) | rfl) (by first | decide +kernel | (dsimp only [cx_L_law_same, Ctx.blk, blkNames, locK, swOk, noSw]; decide +kernel) | rfl) (by first | decide +kernel | (dsimp only [cx_L_law_same, Ctx.blk, blkNames, locK, swOk, noSw]; decide +kernel) | rfl)) (db_var (i := 1) (by first | decide +kernel | (dsimp only [cx_L_law_same, Ctx.blk, blkNames, locK, swOk, noSw]; decide +kernel) | rfl) (by first | decide +kernel | (dsimp only [cx_L_law_same, Ctx.blk, blkNames, locK, swOk, noSw]; decide +kernel) | rfl) (by first | decide +kernel | (dsimp only [cx_L_law_same, Ctx.blk, blkNames, locK, swOk, noSw]; decide +kernel) | rfl)) rfl)))))
  dss_nil)
  dss_nil)
  (dss_cons (ds_if (DW.t (dw_or (dt_val (de_isi (t := .int) (by first | decide +kernel | (dsimp only [cx_L_law_same, Ctx.blk, blkNames, locK, swOk, noSw]; decide +kernel) | rfl) (by rfl) (by first | decide +kernel | (dsimp only [cx_L_law_same, Ctx.blk, blkNames, locK, swOk, noSw]; decide +kernel) | rfl) (by first | decide +kernel | (dsimp only [cx_L_law_same, Ctx.blk, blkNames, locK, swOk, noSw]; decide +kernel) | rfl) (db_var (i := 0) (by first | decide +kernel | (dsimp only [cx_L_law_same, Ctx.blk, blkNames, locK, swOk, noSw]; decide +kernel) | rfl) (by first | decide +kernel | (dsimp only [cx_L_law_same, Ctx.blk, blkNames, locK, swOk, noSw]; decide +kernel) | rfl) (by first | decide +kernel | (dsimp only [cx_L_law_same, Ctx.blk, blkNames, locK, swOk, noSw]; decide +kernel) | rfl)) rfl) rfl) (dw_or1 (dt_val (de_isi (t := .int) (by first | decide +kernel | (dsimp only [cx_L_law_same, Ctx.blk, blkNames, locK, swOk, noSw]; decide +kernel) | rfl) (by rfl) (by first | decide +kernel | (dsimp only [cx_L_law_same, Ctx.blk, blkNames, locK, swOk, noSw]; decide +kernel) | rfl) (by first | decide +kernel | (dsimp only [cx_L_law_same, Ctx.blk, blkNames, locK, swOk, noSw]; decide +kernel) | rfl) (db_var (i := 1) (by first | decide +kernel | (dsimp only [cx_L_law_same, Ctx.blk, blkNames, locK, swOk, noSw]; decide +kernel) | rfl) (by first | decide +kernel | (dsimp only [cx_L_law_same, Ctx.blk, blkNames, locK, swOk, noSw]; decide +kernel) | rfl) (by first | decide +kernel | (dsimp only [cx_L_law_same, Ctx.blk, blkNames, locK, swOk, noSw]; decide +kernel) | rfl)) rfl) rfl))))
  (dss_cons (ds_ret (de_and (de_isi (t := .int) (by first | decide +kernel | (dsimp only [cx_L_law_same, Ctx.blk, blkNames, locK, swOk, noSw]; decide +kernel) | rfl) (by rfl) (by first | decide +kernel | (dsimp only [cx_L_law_same, Ctx.blk, blkNames, locK, swOk, noSw]; decide +kernel) | rfl) (by first | decide +kernel | (dsimp only [cx_L_law_same, Ctx.blk, blkNames, locK, swOk, noSw]; decide +kernel) | rfl) (db_var (i := 0) (by first | decide +kernel | (dsimp only [cx_L_law_same, Ctx.blk, blkNames, locK, swOk, noSw]; decide +kernel) | rfl) (by first | decide +kernel | (dsimp only [cx_L_law_same, Ctx.blk, blkNames, locK, swOk, noSw]; decide +kernel) | rfl) (by first | decide +kernel | (dsimp only [cx_L_law_same, Ctx.blk, blkNames, locK, swOk, noSw]; decide +kernel) | rfl)) rfl) (de_and (de_isi (t := .int) (by first | decide +kernel | (dsimp only [cx_L_law_same, Ctx.blk, blkNames, locK, swOk, noSw]; decide +kernel) | rfl) (by rfl) (by first | decide +kernel | (dsimp only [cx_L_law_same, Ctx.blk, blkNames, locK, swOk, noSw]; decide +kernel) | rfl) (by first | decide +kernel | (dsimp only [cx_L_law_same, Ctx.blk, blkNames, locK, swOk, noSw]; decide +kernel) | rfl) (db_var (i := 1) (by first | decide +kernel | (dsimp only [cx_L_law_same, Ctx.blk, blkNames, locK, swOk, noSw]; decide +kernel) | rfl) (by first | decide +kernel | (dsimp only [cx_L_law_same, Ctx.blk, blkNames, locK, swOk, noSw]; decide +kernel) | rfl) (by first | decide +kernel | (dsimp only [cx_L_law_same, Ctx.blk, blkNames, locK, swOk, noSw]; decide +kernel) | rfl)) rfl) (de_one (de_cmpR cr_eq (db_var (i := 0) (by first | decide +kernel | (dsimp only [cx_L_law_same, Ctx.blk, blkNames, locK, swOk, noSw]; decide +kernel) | rfl) (by first | decide +kernel | (dsimp only [cx_L_law_same, Ctx.blk, blkNames, locK, swOk, noSw]; decide +kernel) | rfl) (by first | decide +kernel | (dsimp only [cx_L_law_same, Ctx.blk, blkNames, locK, swOk, noSw]; decide +kernel) | rfl)) (db_var (i := 1) (by first | decide +kernel | (dsimp only [cx_L_law_same, Ctx.blk, blkNames, locK, swOk, noSw]; decide +kernel) | rfl) (by first | decide +kernel | (dsimp only [cx_L_law_same, Ctx.blk, blkNames, locK, swOk, noSw]; decide +kernel) | rfl) (by first | decide +kernel | (dsimp only [cx_L_law_same, Ctx.blk, blkNames, locK, swOk, noSw]; decide +kernel) | rfl)) rfl)))))
  dss_nil)
  dss_nil)
  (dss_cons (ds_if (DW.t (dw_or (dt_val (de_isi (t := .str) (by first | decide +kernel | (dsimp only [cx_L_law_same, Ctx.blk, blkNames, locK, swOk, noSw]; decide +kernel) | rfl) (by rfl) (by first | decide +kernel | (dsimp only [cx_L_law_same, Ctx.blk, blkNames, locK, swOk, noSw]; decide +kernel) | rfl) (by first | decide +kernel | (dsimp only [cx_L_law_same, Ctx.blk, blkNames, locK, swOk, noSw]; decide +kernel) | rfl) (db_var (i := 0) (by first | decide +kernel | (dsimp only [cx_L_law_same, Ctx.blk, blkNames, locK, swOk, noSw]; decide +kernel) | rfl) (by first | decide +kernel | (dsimp only [cx_L_law_same, Ctx.blk, blkNames, locK, swOk, noSw]; decide +kernel) | rfl) (by first | decide +kernel | (dsimp only [cx_L_law_same, Ctx.blk, blkNames, locK, swOk, noSw]; decide +kernel) | rfl)) rfl) rfl) (dw_or1 (dt_val (de_isi (t := .str) (by first | decide +kernel | (dsimp only [cx_L_law_same, Ctx.blk, blkNames, locK, swOk, noSw]; decide +kernel) | rfl) (by rfl) (by first | decide +kernel | (dsimp only [cx_L_law_same, Ctx.blk, blkNames, locK, swOk, noSw]; decide +kernel) | rfl) (by first | decide +kernel | (dsimp only [cx_L_law_same, Ctx.blk, blkNames, locK, swOk, noSw]; decide +kernel) | rfl) (db_var (i := 1) (by first | decide +kernel | (dsimp only [cx_L_law_same, Ctx.blk, blkNames, locK, swOk, noSw]; decide +kernel) | rfl) (by first | decide +kernel | (dsimp only [cx_L_law_same, Ctx.blk, blkNames, locK, swOk, noSw]; decide +kernel) | rfl) (by first | decide +kernel | (dsimp only [cx_L_law_same, Ctx.blk, blkNames, locK, swOk, noSw]; decide +kernel) | rfl)) rfl) rfl))))
  (dss_cons (ds_ret (de_and (de_isi (t := .str) (by first | decide +kernel | (dsimp only [cx_L_law_same, Ctx.blk, blkNames, locK, swOk, noSw]; decide +kernel) | rfl) (by rfl) (by first | decide +kernel | (dsimp only [cx_L_law_same, Ctx.blk, blkNames, locK, swOk, noSw]; decide +kernel) | rfl) (by first | decide +kernel | (dsimp only [cx_L_law_same, Ctx.blk, blkNames, locK, swOk, noSw]; decide +kernel) | rfl) (db_var (i := 0) (by first | decide +kernel | (dsimp only [cx_L_law_same, Ctx.blk, blkNames, locK, swOk, noSw]; decide +kernel) | rfl) (by first | decide +kernel | (dsimp only [cx_L_law_same, Ctx.blk, blkNames, locK, swOk, noSw]; decide +kernel) | rfl) (by first | decide +kernel | (dsimp only [cx_L_law_same, Ctx.blk, blkNames, locK, swOk, noSw]; decide +kernel) | rfl)) rfl) (de_and (de_isi (t := .str) (by first | decide +kernel | (dsimp only [cx_L_law_same, Ctx.blk, blkNames, locK, swOk, noSw]; decide +kernel) | rfl) (by rfl) (by first | decide +kernel | (dsimp only [cx_L_law_same, Ctx.blk, blkNames, locK, swOk, noSw]; decide +kernel) | rfl) (by first | decide +kernel | (dsimp only [cx_L_law_same, Ctx.blk, blkNames, locK, swOk, noSw]; decide +kernel) | rfl) (db_var (i := 1) (by first | decide +kernel | (dsimp only [cx_L_law_same, Ctx.blk, blkNames, locK, swOk, noSw]; decide +kernel) | rfl) (by first | decide +kernel | (dsimp only [cx_L_law_same, Ctx.blk, blkNames, locK, swOk, noSw]; decide +kernel) | rfl) (by first | decide +kernel | (dsimp only [cx_L_law_same, Ctx.blk, blkNames, locK, swOk, noSw]; decide +kernel) | rfl)) rfl) (de_one (de_cmpR cr_eq (db_var (i := 0) (by first | decide +kernel | (dsimp only [cx_L_law_same, Ctx.blk, blkNames, locK, swOk, noSw]; decide +kernel) | rfl) (by first | decide +kernel | (dsimp only [cx_L_law_same, Ctx.blk, blkNames, locK, swOk, noSw]; decide +kernel) | rfl) (by first | decide +kernel | (dsimp only [cx_L_law_same, Ctx.blk, blkNames, locK, swOk, noSw]; decide +kernel) | rfl)) (db_var (i := 1) (by first | decide +kernel | (dsimp only [cx_L_law_same, Ctx.blk, blkNames, locK, swOk, noSw]; decide +kernel) | rfl) (by first | decide +kernel | (dsimp only [cx_L_law_same, Ctx.blk, blkNames, locK, swOk, noSw]; decide +kernel) | rfl) (by first | decide +kernel | (dsimp only [cx_L_law_same, Ctx.blk, blkNames, locK, swOk, noSw]; decide +kernel) | rfl)) rfl)))))
  dss_nil)
  dss_nil)
  (dss_cons (ds_ret (de_and (de_cmpR cr_is (db_var (i := 0) (by first | decide +kernel | (dsimp only [cx_L_law_same, Ctx.blk, blkNames, locK, swOk, noSw]; decide +kernel) | rfl) (by first | decide +kernel | (dsimp only [cx_L_law_same, Ctx.blk, blkNames, locK, swOk, noSw]; decide +kernel) | rfl) (by first | decide +kernel | (dsimp only [cx_L_law_same, Ctx.blk, blkNames, locK, swOk, noSw]; decide +kernel) | rfl)) (DE.b de_non) rfl) (de_one (de_cmpR cr_is (db_var (i := 1) (by first | decide +kernel | (dsimp only [cx_L_law_same, Ctx.blk, blkNames, locK, swOk, noSw]; decide +kernel) | rfl) (by first | decide +kernel | (dsimp only [cx_L_law_same, Ctx.blk, blkNames, locK, swOk, noSw]; decide +kernel) | rfl) (by first | decide +kernel | (dsimp only [cx_L_law_same, Ctx.blk, blkNames, locK, swOk, noSw]; decide +kernel) | rfl)) (DE.b de_non) rfl))))
  dss_nil)))))
def g_L_law_same : Nat → List D → Bag → Option (D × Bag)
  | 0 => fun _ _ => none
  | k + 1 => runD (core_L_law_same ⟨"_law_same", false, 2, g_L_law_same k⟩) 4 false
def uk_L_law_same (k : Nat) : UFn := ⟨"_law_same", false, 2, g_L_law_same k⟩
abbrev u_L_law_same : UFn := uk_L_law_same RDEPTH
theorem sc_L_law_same : FnScope ["a", "b", "x", "y"] ["a", "b"] (defScope st_L_law_same) := ⟨rfl, rfl, rfl, by decide +kernel, rfl, by decide +kernel, by decide +kernel⟩
theorem ok_L_law_same {P : Program} {w : World} {K : PySem.W.Frag} {mg : Str → Option Value} {base : Heap} {k : Nat} (D0 : Df K mg "_law_same" st_L_law_same ["a", "b"]) (bl : ∀ x, x ∈ bltNames → mg x = none)   : ∀ j, UOk P w K mg base (k + j) (uk_L_law_same j)
  | 0 => uok_zero D0 rfl (fun _ _ => rfl)
  | j + 1 => by
    have ih := ok_L_law_same (P := P) (w := w) (base := base) (k := k) D0 bl  j
    exact uok_mk (Γ := cx_L_law_same (uk_L_law_same j)) D0 ⟨bl, all_us (by exact ⟨ih, trivial⟩), all_cs (by exact trivial), fun h => nomatch h⟩ sc_L_law_same rfl rfl (cert_L_law_same (uk_L_law_same j) rfl rfl) rfl rfl
/-! ### _law_stays -/
abbrev st_L_law_stays : Stmt := topS 32
def nm_L_law_stays : List (Str × NameKind) := [("bag", .local), ("most", .local), ("far", .local), ("found", .local), ("hour", .local), ("turn", .local), ("_law_take", .globalImplicit), ("range", .globalImplicit), ("tuple", .globalImplicit)]
def cx_L_law_stays : Ctx := ⟨["bag", "most", "far", "found", "hour", "turn"], nm_L_law_stays, fun _ => true, [u_L_law_take], [], false⟩
def core_L_law_stays : SF :=
  (sqS (sPar2 3 4 (vL (aOk aNil)) (vFr (dFnB u_L_law_take 0 (aCons (dC (.int 3)) aNil))))
  (sqS (sFor (sRange1 (aCons (dOp fAdd (dC (.int 1)) (dFnB u_L_law_take 0 (aCons (dVar 1) aNil))) aNil)) (gNm 5)
  (sqS (sApp 3 (dTup (aCons (dVar 4) (aCons (dOp fAdd (dOp fAdd (dBor 4) (dC (.int 1))) (dFnB u_L_law_take 0 (aCons (dOp fIx (dFrz (aOk (aCons (dVar 2) (aCons (dC (.int 3)) (aCons (dC (.int 9)) aNil))))) (dFnB u_L_law_take 0 (aCons (dC (.int 3)) aNil))) aNil))) aNil))))
  (sqS (sSet 4 (dOp fAdd (dOp fAdd (dBor 4) (dC (.int 1))) (dFnB u_L_law_take 0 (aCons (dOp fIx (dFrz (aOk (aCons (dOp fAdd (dOp fDiv (dBor 2) (dC (.int 20))) (dC (.int 1))) (aCons (dC (.int 2)) aNil)))) (dFnB u_L_law_take 0 (aCons (dC (.int 2)) aNil))) aNil))))
  sNx)))
  (sqS (sRet (dCall fTuple (aCons (dBor 3) aNil)))
  sNx)))
theorem cert_L_law_stays : DSs cx_L_law_stays (defBody st_L_law_stays) core_L_law_stays :=
  (dss_cons (ds_par2 (i := 3) (j := 4) (by decide +kernel) (by decide +kernel) (by decide) (by decide +kernel) (by decide +kernel) (by decide +kernel) (DF.v (df_lst da_nil)) (DE.v (de_fnB (u := u_L_law_take) (i := 0) (mem_at 0 rfl) rfl rfl (by decide +kernel) (by decide +kernel) (by decide +kernel) (by decide +kernel) (by decide +kernel) (da_cons de_int da_nil rfl) rfl)) rfl rfl)
  (dss_cons (ds_for (di_range1 (by decide +kernel) (dxa_cons (DE.x (de_add (DE.b de_int) (DE.b (de_fnB (u := u_L_law_take) (i := 0) (mem_at 0 rfl) rfl rfl (by decide +kernel) (by decide +kernel) (by decide +kernel) (by decide +kernel) (by decide +kernel) (da_cons (de_var (i := 1) (by decide +kernel) (by decide +kernel) (by decide +kernel)) da_nil rfl) rfl)))) dxa_nil rfl) rfl) (dg_name (i := 5) (by decide +kernel) (by decide +kernel))
  (dss_cons (ds_app (i := 3) (by decide +kernel) (by decide +kernel) (by decide +kernel) (de_tup (da_cons (de_var (i := 4) (by decide +kernel) (by decide +kernel) (by decide +kernel)) (da_cons (de_add (DE.b (de_add (db_var (i := 4) (by decide +kernel) (by decide +kernel) (by decide +kernel)) (DE.b de_int))) (DE.b (de_fnB (u := u_L_law_take) (i := 0) (mem_at 0 rfl) rfl rfl (by decide +kernel) (by decide +kernel) (by decide +kernel) (by decide +kernel) (by decide +kernel) (da_cons (de_ix (DE.b (DF.e (df_lst (da_cons (de_var (i := 2) (by decide +kernel) (by decide +kernel) (by decide +kernel)) (da_cons de_int (da_cons de_int da_nil rfl) rfl) rfl)))) (DE.b (de_fnB (u := u_L_law_take) (i := 0) (mem_at 0 rfl) rfl rfl (by decide +kernel) (by decide +kernel) (by decide +kernel) (by decide +kernel) (by decide +kernel) (da_cons de_int da_nil rfl) rfl)) rfl) da_nil rfl) rfl))) da_nil rfl) rfl)) rfl rfl)
  (dss_cons (ds_set (i := 4) (by decide +kernel) (by decide +kernel) (de_add (DE.b (de_add (db_var (i := 4) (by decide +kernel) (by decide +kernel) (by decide +kernel)) (DE.b de_int))) (DE.b (de_fnB (u := u_L_law_take) (i := 0) (mem_at 0 rfl) rfl rfl (by decide +kernel) (by decide +kernel) (by decide +kernel) (by decide +kernel) (by decide +kernel) (da_cons (de_ix (DE.b (DF.e (df_lst (da_cons (de_add (DE.b (de_div (db_var (i := 2) (by decide +kernel) (by decide +kernel) (by decide +kernel)) (DE.b de_int))) (DE.b de_int)) (da_cons de_int da_nil rfl) rfl)))) (DE.b (de_fnB (u := u_L_law_take) (i := 0) (mem_at 0 rfl) rfl rfl (by decide +kernel) (by decide +kernel) (by decide +kernel) (by decide +kernel) (by decide +kernel) (da_cons de_int da_nil rfl) rfl)) rfl) da_nil rfl) rfl))) rfl)
  dss_nil)) rfl)
  (dss_cons (ds_ret (cb_tuple.run (by decide +kernel) (dba_cons (db_var (i := 3) (by decide +kernel) (by decide +kernel) (by decide +kernel)) dba_nil rfl) rfl))
  dss_nil)))
def g_L_law_stays : List D → Bag → Option (D × Bag) := runD core_L_law_stays 6 true
def u_L_law_stays : UFn := ⟨"_law_stays", true, 3, g_L_law_stays⟩
theorem sc_L_law_stays : FnScope ["bag", "most", "far", "found", "hour", "turn"] ["bag", "most", "far"] (defScope st_L_law_stays) := ⟨rfl, rfl, rfl, by decide +kernel, rfl, by decide +kernel, by decide +kernel⟩
theorem ok_L_law_stays {P : Program} {w : World} {K : PySem.W.Frag} {mg : Str → Option Value} {base : Heap} {k : Nat} (D0 : Df K mg "_law_stays" st_L_law_stays ["bag", "most", "far"]) (bl : ∀ x, x ∈ bltNames → mg x = none) (h0 : UOk P w K mg base k u_L_law_take)  : UOk P w K mg base (k + 1) u_L_law_stays :=
  uok_mk (Γ := cx_L_law_stays) D0 ⟨bl, all_us (by exact ⟨h0, trivial⟩), all_cs (by exact trivial), fun h => nomatch h⟩ sc_L_law_stays (by decide +kernel) rfl cert_L_law_stays rfl rfl
/-! ### _law_pegs -/
abbrev st_L_law_pegs : Stmt := topS 33
def nm_L_law_pegs : List (Str × NameKind) := [("stays", .cell), ("found", .cell), ("k", .local), ("come", .cell), ("gone", .local), ("peg", .cell), ("enumerate", .globalImplicit), ("range", .globalImplicit)]
def cx_L_law_pegs : Ctx := ⟨["stays", "found", "k", "come", "gone", "peg", "at"], nm_L_law_pegs, fun _ => true, [], [], false⟩
def core_L_law_pegs : SF :=
  (sqS (sSetO 1 (aOk aNil))
  (sqS (sFor (sEnum (aCons (dVar 0) aNil)) (gTp (gsCons (gNm 2) (gsCons (gTp (gsCons (gNm 3) (gsCons (gNm 4) gsNil)) 2) gsNil)) 2)
  (sqS (sSet 5 (dC (.int 1)))
  (sqS (sWhile (tob (dOp fNe (dFrz (lcF (sRange1 (aCons (dBor 2) aNil)) (gNm 6) (tAndF (tob (dOp fEq (dOp fIx (dBor 1) (dBor 6)) (dBor 5))) (tob (dOp fGt (dOp fIx (dOp fIx (dBor 0) (dBor 6)) (dC (.int 1))) (dBor 3)))) (dVar 6) [6])) (dFrz (aOk aNil))))
  (sqS (sSet 5 (dOp fAdd (dBor 5) (dC (.int 1))))
  sNx))
  (sqS (sApp 1 (dVar 5))
  sNx))))
  (sqS (sFrz [1] (sRet (dVar 1)))
  sNx)))
theorem cert_L_law_pegs : DSs cx_L_law_pegs (defBody st_L_law_pegs) core_L_law_pegs :=
  (dss_cons (ds_setO' (i := 1) (by decide +kernel) (by decide +kernel) (df_lst da_nil) (by decide +kernel))
  (dss_cons (ds_for (di_enum (by decide +kernel) (dxa_cons (DE.x (de_var (i := 0) (by decide +kernel) (by decide +kernel) (by decide +kernel))) dxa_nil rfl) rfl) (dg_tup (dgs_cons (dg_name (i := 2) (by decide +kernel) (by decide +kernel)) (dgs_cons (dg_tup (dgs_cons (dg_name (i := 3) (by decide +kernel) (by decide +kernel)) (dgs_cons (dg_name (i := 4) (by decide +kernel) (by decide +kernel)) dgs_nil rfl) rfl) rfl) dgs_nil rfl) rfl) rfl)
  (dss_cons (ds_set (i := 5) (by decide +kernel) (by decide +kernel) de_int rfl)
  (dss_cons (ds_while (dt_cmpR cr_ne (DE.b (DF.e (df_lc (own := [("at", 6)]) (di_range1 (by decide +kernel) (dxa_cons (DB.x (db_var (i := 2) (by decide +kernel) (by decide +kernel) (by decide +kernel))) dxa_nil rfl) rfl) (by decide +kernel) (dg_name (i := 6) (by decide +kernel) (by decide +kernel)) (dts_one (DW.t (dw_and (dt_cmpR cr_eq (DE.b (de_ix (db_var (i := 1) (by decide +kernel) (by decide +kernel) (by decide +kernel)) (db_var (i := 6) (by decide +kernel) (by decide +kernel) (by decide +kernel)) rfl)) (db_var (i := 5) (by decide +kernel) (by decide +kernel) (by decide +kernel)) rfl) (dw_and1 (dt_cmpR cr_gt (DE.b (de_ix (DE.b (de_ix (db_var (i := 0) (by decide +kernel) (by decide +kernel) (by decide +kernel)) (db_var (i := 6) (by decide +kernel) (by decide +kernel) (by decide +kernel)) rfl)) (DE.b de_int) rfl)) (db_var (i := 3) (by decide +kernel) (by decide +kernel) (by decide +kernel)) rfl))))) (de_var (i := 6) (by decide +kernel) (by decide +kernel) (by decide +kernel)) (by decide) rfl))) (DE.b (DF.e (df_lst da_nil))) rfl)
  (dss_cons (ds_set (i := 5) (by decide +kernel) (by decide +kernel) (de_add (db_var (i := 5) (by decide +kernel) (by decide +kernel) (by decide +kernel)) (DE.b de_int)) rfl)
  dss_nil))
  (dss_cons (ds_app (i := 1) (by decide +kernel) (by decide +kernel) (by decide +kernel) (de_var (i := 5) (by decide +kernel) (by decide +kernel) (by decide +kernel)) rfl rfl)
  dss_nil))) rfl)
  (dss_cons (ds_frz' [1] (ds_ret (de_var (i := 1) (by decide +kernel) (by decide +kernel) (by decide +kernel))))
  dss_nil)))
def g_L_law_pegs : List D → Bag → Option (D × Bag) := runD core_L_law_pegs 7 false
def u_L_law_pegs : UFn := ⟨"_law_pegs", false, 1, g_L_law_pegs⟩
theorem sc_L_law_pegs : FnScope ["stays", "found", "k", "come", "gone", "peg", "at"] ["stays"] (defScope st_L_law_pegs) := ⟨rfl, rfl, rfl, by decide +kernel, rfl, by decide +kernel, by decide +kernel⟩
theorem ok_L_law_pegs {P : Program} {w : World} {K : PySem.W.Frag} {mg : Str → Option Value} {base : Heap} {k : Nat} (D0 : Df K mg "_law_pegs" st_L_law_pegs ["stays"]) (bl : ∀ x, x ∈ bltNames → mg x = none)   : UOk P w K mg base (k + 1) u_L_law_pegs :=
  uok_mk (Γ := cx_L_law_pegs) D0 ⟨bl, all_us (by exact trivial), all_cs (by exact trivial), fun h => nomatch h⟩ sc_L_law_pegs (by decide +kernel) rfl cert_L_law_pegs rfl rfl
/-! ### _law_book -/
abbrev st_L_law_book : Stmt := topS 34
def nm_L_law_book : List (Str × NameKind) := [("bag", .local), ("stays", .local), ("close", .local), ("max", .globalImplicit), ("_law_take", .globalImplicit), ("tuple", .globalImplicit), ("zip", .globalImplicit), ("_law_pegs", .globalImplicit)]
def cx_L_law_book : Ctx := ⟨["bag", "stays", "close", "come", "gone", "stay", "peg"], nm_L_law_book, fun _ => true, [u_L_law_take, u_L_law_pegs], [], false⟩
def core_L_law_book : SF :=
  (sqS (sSet 2 (dOp fAdd (dCall fMax (aCons (dFrz (lcF (sSeq (dBor 1)) (gTp (gsCons (gNm 3) (gsCons (gNm 4) gsNil)) 2) tTrue (dVar 4) [3, 4])) aNil)) (dFnB u_L_law_take 0 (aCons (dC (.int 4)) aNil))))
  (sqS (sRet (dTup (aCons (dVar 2) (aCons (dCall fTuple (aCons (dFrz (lcF (sZip (aCons (dBor 1) (aCons (dFn u_L_law_pegs (aCons (dVar 1) aNil)) aNil))) (gTp (gsCons (gNm 5) (gsCons (gNm 6) gsNil)) 2) tTrue (dTup (aCons (dOp fIx (dBor 5) (dC (.int 0))) (aCons (dVar 6) aNil))) [5, 6])) aNil)) aNil))))
  sNx))
theorem cert_L_law_book : DSs cx_L_law_book (defBody st_L_law_book) core_L_law_book :=
  (dss_cons (ds_set (i := 2) (by decide +kernel) (by decide +kernel) (de_add (DE.b (cb_max.run (by decide +kernel) (dba_cons (DE.b (DF.e (df_lc (own := [("come", 3), ("gone", 4)]) (di_seq (DB.x (db_var (i := 1) (by decide +kernel) (by decide +kernel) (by decide +kernel)))) (by decide +kernel) (dg_tup (dgs_cons (dg_name (i := 3) (by decide +kernel) (by decide +kernel)) (dgs_cons (dg_name (i := 4) (by decide +kernel) (by decide +kernel)) dgs_nil rfl) rfl) rfl) dts_nil (de_var (i := 4) (by decide +kernel) (by decide +kernel) (by decide +kernel)) (by decide) rfl))) dba_nil rfl) rfl)) (DE.b (de_fnB (u := u_L_law_take) (i := 0) (mem_at 0 rfl) rfl rfl (by decide +kernel) (by decide +kernel) (by decide +kernel) (by decide +kernel) (by decide +kernel) (da_cons de_int da_nil rfl) rfl))) rfl)
  (dss_cons (ds_ret (de_tup (da_cons (de_var (i := 2) (by decide +kernel) (by decide +kernel) (by decide +kernel)) (da_cons (cb_tuple.run (by decide +kernel) (dba_cons (DE.b (DF.e (df_lc (own := [("stay", 5), ("peg", 6)]) (di_zip (by decide +kernel) (dxa_cons (DB.x (db_var (i := 1) (by decide +kernel) (by decide +kernel) (by decide +kernel))) (dxa_cons (DE.x (de_fn (u := u_L_law_pegs) (mem_at 1 rfl) rfl rfl (by decide +kernel) (by decide +kernel) (da_cons (de_var (i := 1) (by decide +kernel) (by decide +kernel) (by decide +kernel)) da_nil rfl) rfl)) dxa_nil rfl) rfl) rfl rfl) (by decide +kernel) (dg_tup (dgs_cons (dg_name (i := 5) (by decide +kernel) (by decide +kernel)) (dgs_cons (dg_name (i := 6) (by decide +kernel) (by decide +kernel)) dgs_nil rfl) rfl) rfl) dts_nil (de_tup (da_cons (de_ix (db_var (i := 5) (by decide +kernel) (by decide +kernel) (by decide +kernel)) (DE.b de_int) rfl) (da_cons (de_var (i := 6) (by decide +kernel) (by decide +kernel) (by decide +kernel)) da_nil rfl) rfl)) (by decide) rfl))) dba_nil rfl) rfl) da_nil rfl) rfl)))
  dss_nil))
def g_L_law_book : List D → Bag → Option (D × Bag) := runD core_L_law_book 7 true
def u_L_law_book : UFn := ⟨"_law_book", true, 2, g_L_law_book⟩
theorem sc_L_law_book : FnScope ["bag", "stays", "close", "come", "gone", "stay", "peg"] ["bag", "stays"] (defScope st_L_law_book) := ⟨rfl, rfl, rfl, by decide +kernel, rfl, by decide +kernel, by decide +kernel⟩
theorem ok_L_law_book {P : Program} {w : World} {K : PySem.W.Frag} {mg : Str → Option Value} {base : Heap} {k : Nat} (D0 : Df K mg "_law_book" st_L_law_book ["bag", "stays"]) (bl : ∀ x, x ∈ bltNames → mg x = none) (h0 : UOk P w K mg base k u_L_law_take) (h1 : UOk P w K mg base k u_L_law_pegs)  : UOk P w K mg base (k + 1) u_L_law_book :=
  uok_mk (Γ := cx_L_law_book) D0 ⟨bl, all_us (by exact ⟨h0, ⟨h1, trivial⟩⟩), all_cs (by exact trivial), fun h => nomatch h⟩ sc_L_law_book (by decide +kernel) rfl cert_L_law_book rfl rfl
/-! ### law -/
abbrev st_law : Stmt := topS 35
def nm_law : List (Str × NameKind) := [("script", .local), ("bag", .local), ("stays", .local), ("told1", .local), ("full", .local), ("hour", .cell), ("going", .local), ("there1", .local), ("last", .local), ("longer", .local), ("book", .local), ("own", .local), ("pegs", .globalImplicit), ("_law_bags", .globalImplicit), ("_law_stays", .globalImplicit), ("_law_take", .globalImplicit), ("_law_same", .globalImplicit), ("tuple", .globalImplicit), ("_law_pegs", .globalImplicit), ("max", .globalImplicit), ("len", .globalImplicit), ("_law_book", .globalImplicit), ("can_be", .globalImplicit), ("is_story", .globalImplicit)]
def cx_law : Ctx := ⟨["script", "bag", "stays", "told1", "full", "hour", "going", "there1", "last", "longer", "book", "own", "one"], nm_law, fun _ => true, [u_pegs, u_L_law_stays, u_L_law_take, u_L_law_same, u_L_law_pegs, u_L_law_book, u_can_be, u_is_story], [], true⟩
def core_law : SF :=
  (sqS (sIf (tOrF (tob (dOp fNe (dFn u_pegs (aCons (dTup (aCons (dTup (aCons (dC (.int 0)) (aCons (dC (.int 9)) aNil))) (aCons (dTup (aCons (dC (.int 1)) (aCons (dC (.int 3)) aNil))) (aCons (dTup (aCons (dC (.int 2)) (aCons (dC (.int 9)) aNil))) (aCons (dTup (aCons (dC (.int 3)) (aCons (dC (.int 5)) aNil))) (aCons (dTup (aCons (dC (.int 4)) (aCons (dC (.int 6)) aNil))) aNil)))))) aNil)) (dTup (aCons (dC (.int 1)) (aCons (dC (.int 2)) (aCons (dC (.int 3)) (aCons (dC (.int 2)) (aCons (dC (.int 4)) aNil)))))))) (tob (dOp fNe (dFn u_pegs (aCons (dTup (aCons (dTup (aCons (dC (.int 0)) (aCons (dC (.int 1)) aNil))) (aCons (dTup (aCons (dC (.int 1)) (aCons (dC (.int 2)) aNil))) aNil))) aNil)) (dTup (aCons (dC (.int 1)) (aCons (dC (.int 1)) aNil))))))
  (sqS (sRet (dC (.bool false)))
  sNx)
  sNx)
  (sqS (sBags 0 10 1
  (sqS (sSet 2 (dFnB u_L_law_stays 1 (aCons (dC (.int 24)) (aCons (dOp fIx (dFrz (aOk (aCons (dC (.int 1000)) (aCons (dC (.int 12)) aNil)))) (dFnB u_L_law_take 1 (aCons (dC (.int 2)) aNil))) aNil))))
  (sqS (sSet 3 (dFn u_pegs (aCons (dVar 2) aNil)))
  (sqS (sIf (tNotF (tob (dFn u_L_law_same (aCons (dVar 3) (aCons (dCall fTuple (aCons (dFn u_L_law_pegs (aCons (dVar 2) aNil)) aNil)) aNil)))))
  (sqS (sRet (dC (.bool false)))
  sNx)
  sNx)
  (sqS (sSet 4 (dC (.int 0)))
  (sqS (sFor (sSeq (dVar 2)) (gTp (gsCons (gNm 5) (gsCons (gNm 6) gsNil)) 2)
  (sqS (sSetO 7 (lcF (sSeq (dBor 2)) (gNm 12) (tob (dChain fLe fLt (dOp fIx (dBor 12) (dC (.int 0))) (dBor 5) (dOp fIx (dBor 12) (dC (.int 1))))) (dC (.int 1)) [12]))
  (sqS (sSet 4 (dCall fMax (aCons (dBor 4) (aCons (dCall fLen (aCons (dBor 7) aNil)) aNil))))
  sNx)))
  (sqS (sIf (tob (dOp fNe (dCall fMax (aCons (dBor 3) aNil)) (dBor 4)))
  (sqS (sRet (dC (.bool false)))
  sNx)
  sNx)
  (sqS (sSet 8 (dOp fIx (dBor 2) (dNeg (dC (.int 1)))))
  (sqS (sSet 9 (dOp fAdd (dSl (dBor 2) oNo (oSome (dNeg (dC (.int 1))))) (dTup (aCons (dTup (aCons (dOp fIx (dBor 8) (dC (.int 0))) (aCons (dOp fAdd (dOp fIx (dBor 8) (dC (.int 1))) (dC (.int 5))) aNil))) aNil))))
  (sqS (sIf (tOrF (tob (dOp fNe (dFn u_pegs (aCons (dVar 9) aNil)) (dBor 3))) (tob (dOp fNe (dFn u_pegs (aCons (dSl (dBor 2) oNo (oSome (dC (.int 1)))) aNil)) (dTup (aCons (dC (.int 1)) aNil)))))
  (sqS (sRet (dC (.bool false)))
  sNx)
  sNx)
  (sqS (sSet 10 (dFnB u_L_law_book 1 (aCons (dVar 2) aNil)))
  (sqS (sSet 11 (dCall fTuple (aCons (dFrz (lcF (sSeq (dBor 2)) (gTp (gsCons (gNm 5) (gsCons (gNm 6) gsNil)) 2) tTrue (dVar 6) [5, 6])) aNil)))
  (sqS (sIf (tOrF (tob (dOp fIsN (dFn u_can_be (aCons (dVar 10) aNil)) (dC (.bool true)))) (tob (dOp fIsN (dFn u_is_story (aCons (dVar 10) (aCons (dTup aNil) (aCons (dVar 11) aNil)))) (dC (.bool true)))))
  (sqS (sRet (dC (.bool false)))
  sNx)
  sNx)
  sNx)))))))))))))
  (sqS (sRet (dC (.bool true)))
  sNx)))
theorem cert_law : DSs cx_law (defBody st_law) core_law :=
  (dss_cons (ds_if (DW.t (dw_or (dt_cmpR cr_ne (DE.b (de_fn (u := u_pegs) (mem_at 0 rfl) rfl rfl (by decide +kernel) (by decide +kernel) (da_cons (de_tup (da_cons (de_tup (da_cons de_int (da_cons de_int da_nil rfl) rfl)) (da_cons (de_tup (da_cons de_int (da_cons de_int da_nil rfl) rfl)) (da_cons (de_tup (da_cons de_int (da_cons de_int da_nil rfl) rfl)) (da_cons (de_tup (da_cons de_int (da_cons de_int da_nil rfl) rfl)) (da_cons (de_tup (da_cons de_int (da_cons de_int da_nil rfl) rfl)) da_nil rfl) rfl) rfl) rfl) rfl)) da_nil rfl) rfl)) (DE.b (de_tup (da_cons de_int (da_cons de_int (da_cons de_int (da_cons de_int (da_cons de_int da_nil rfl) rfl) rfl) rfl) rfl))) rfl) (dw_or1 (dt_cmpR cr_ne (DE.b (de_fn (u := u_pegs) (mem_at 0 rfl) rfl rfl (by decide +kernel) (by decide +kernel) (da_cons (de_tup (da_cons (de_tup (da_cons de_int (da_cons de_int da_nil rfl) rfl)) (da_cons (de_tup (da_cons de_int (da_cons de_int da_nil rfl) rfl)) da_nil rfl) rfl)) da_nil rfl) rfl)) (DE.b (de_tup (da_cons de_int (da_cons de_int da_nil rfl) rfl))) rfl))))
  (dss_cons (ds_ret de_bl)
  dss_nil)
  dss_nil)
  (dss_cons (ds_bags (si := 0) (i := 1) (n := 10) rfl (by decide +kernel) (by decide +kernel) (by decide +kernel) (by decide +kernel) (by decide) (by decide +kernel) (by decide +kernel)
  (dss_cons (ds_set (i := 2) (by decide +kernel) (by decide +kernel) (de_fnB (u := u_L_law_stays) (i := 1) (mem_at 1 rfl) rfl rfl (by decide +kernel) (by decide +kernel) (by decide +kernel) (by decide +kernel) (by decide +kernel) (da_cons de_int (da_cons (de_ix (DE.b (DF.e (df_lst (da_cons de_int (da_cons de_int da_nil rfl) rfl)))) (DE.b (de_fnB (u := u_L_law_take) (i := 1) (mem_at 2 rfl) rfl rfl (by decide +kernel) (by decide +kernel) (by decide +kernel) (by decide +kernel) (by decide +kernel) (da_cons de_int da_nil rfl) rfl)) rfl) da_nil rfl) rfl) rfl) rfl)
  (dss_cons (ds_set (i := 3) (by decide +kernel) (by decide +kernel) (de_fn (u := u_pegs) (mem_at 0 rfl) rfl rfl (by decide +kernel) (by decide +kernel) (da_cons (de_var (i := 2) (by decide +kernel) (by decide +kernel) (by decide +kernel)) da_nil rfl) rfl) rfl)
  (dss_cons (ds_if (dt_not (dt_val (de_fn (u := u_L_law_same) (mem_at 3 rfl) rfl rfl (by decide +kernel) (by decide +kernel) (da_cons (de_var (i := 3) (by decide +kernel) (by decide +kernel) (by decide +kernel)) (da_cons (cb_tuple.run (by decide +kernel) (dba_cons (DE.b (de_fn (u := u_L_law_pegs) (mem_at 4 rfl) rfl rfl (by decide +kernel) (by decide +kernel) (da_cons (de_var (i := 2) (by decide +kernel) (by decide +kernel) (by decide +kernel)) da_nil rfl) rfl)) dba_nil rfl) rfl) da_nil rfl) rfl) rfl) rfl))
  (dss_cons (ds_ret de_bl)
  dss_nil)
  dss_nil)
  (dss_cons (ds_set (i := 4) (by decide +kernel) (by decide +kernel) de_int rfl)
  (dss_cons (ds_for (di_seq (DE.x (de_var (i := 2) (by decide +kernel) (by decide +kernel) (by decide +kernel)))) (dg_tup (dgs_cons (dg_name (i := 5) (by decide +kernel) (by decide +kernel)) (dgs_cons (dg_name (i := 6) (by decide +kernel) (by decide +kernel)) dgs_nil rfl) rfl) rfl)
  (dss_cons (ds_setLc (i := 7) (own := [("one", 12)]) (by decide +kernel) (by decide +kernel) (di_seq (DB.x (db_var (i := 2) (by decide +kernel) (by decide +kernel) (by decide +kernel)))) (by decide +kernel) (dg_name (i := 12) (by decide +kernel) (by decide +kernel)) (dts_one (dt_chainR cr_le cr_lt (DE.b (de_ix (db_var (i := 12) (by decide +kernel) (by decide +kernel) (by decide +kernel)) (DE.b de_int) rfl)) (db_var (i := 5) (by decide +kernel) (by decide +kernel) (by decide +kernel)) (DE.b (de_ix (db_var (i := 12) (by decide +kernel) (by decide +kernel) (by decide +kernel)) (DE.b de_int) rfl)) rfl)) de_int (by decide) rfl)
  (dss_cons (ds_set (i := 4) (by decide +kernel) (by decide +kernel) (cb_max.run (by decide +kernel) (dba_cons (db_var (i := 4) (by decide +kernel) (by decide +kernel) (by decide +kernel)) (dba_cons (DE.b (cb_len.run (by decide +kernel) (dba_cons (db_var (i := 7) (by decide +kernel) (by decide +kernel) (by decide +kernel)) dba_nil rfl) rfl)) dba_nil rfl) rfl) rfl) rfl)
  dss_nil)) rfl)
  (dss_cons (ds_if (dt_cmpR cr_ne (DE.b (cb_max.run (by decide +kernel) (dba_cons (db_var (i := 3) (by decide +kernel) (by decide +kernel) (by decide +kernel)) dba_nil rfl) rfl)) (db_var (i := 4) (by decide +kernel) (by decide +kernel) (by decide +kernel)) rfl)
  (dss_cons (ds_ret de_bl)
  dss_nil)
  dss_nil)
  (dss_cons (ds_set (i := 8) (by decide +kernel) (by decide +kernel) (de_ix (db_var (i := 2) (by decide +kernel) (by decide +kernel) (by decide +kernel)) (DE.b (de_neg de_int)) rfl) rfl)
  (dss_cons (ds_set (i := 9) (by decide +kernel) (by decide +kernel) (de_add (DE.b (de_slice (db_var (i := 2) (by decide +kernel) (by decide +kernel) (by decide +kernel)) do_none (do_some (de_neg de_int)))) (DE.b (de_tup (da_cons (de_tup (da_cons (de_ix (db_var (i := 8) (by decide +kernel) (by decide +kernel) (by decide +kernel)) (DE.b de_int) rfl) (da_cons (de_add (DE.b (de_ix (db_var (i := 8) (by decide +kernel) (by decide +kernel) (by decide +kernel)) (DE.b de_int) rfl)) (DE.b de_int)) da_nil rfl) rfl)) da_nil rfl)))) rfl)
  (dss_cons (ds_if (DW.t (dw_or (dt_cmpR cr_ne (DE.b (de_fn (u := u_pegs) (mem_at 0 rfl) rfl rfl (by decide +kernel) (by decide +kernel) (da_cons (de_var (i := 9) (by decide +kernel) (by decide +kernel) (by decide +kernel)) da_nil rfl) rfl)) (db_var (i := 3) (by decide +kernel) (by decide +kernel) (by decide +kernel)) rfl) (dw_or1 (dt_cmpR cr_ne (DE.b (de_fn (u := u_pegs) (mem_at 0 rfl) rfl rfl (by decide +kernel) (by decide +kernel) (da_cons (de_slice (db_var (i := 2) (by decide +kernel) (by decide +kernel) (by decide +kernel)) do_none (do_some de_int)) da_nil rfl) rfl)) (DE.b (de_tup (da_cons de_int da_nil rfl))) rfl))))
  (dss_cons (ds_ret de_bl)
  dss_nil)
  dss_nil)
  (dss_cons (ds_set (i := 10) (by decide +kernel) (by decide +kernel) (de_fnB (u := u_L_law_book) (i := 1) (mem_at 5 rfl) rfl rfl (by decide +kernel) (by decide +kernel) (by decide +kernel) (by decide +kernel) (by decide +kernel) (da_cons (de_var (i := 2) (by decide +kernel) (by decide +kernel) (by decide +kernel)) da_nil rfl) rfl) rfl)
  (dss_cons (ds_set (i := 11) (by decide +kernel) (by decide +kernel) (cb_tuple.run (by decide +kernel) (dba_cons (DE.b (DF.e (df_lc (own := [("hour", 5), ("going", 6)]) (di_seq (DB.x (db_var (i := 2) (by decide +kernel) (by decide +kernel) (by decide +kernel)))) (by decide +kernel) (dg_tup (dgs_cons (dg_name (i := 5) (by decide +kernel) (by decide +kernel)) (dgs_cons (dg_name (i := 6) (by decide +kernel) (by decide +kernel)) dgs_nil rfl) rfl) rfl) dts_nil (de_var (i := 6) (by decide +kernel) (by decide +kernel) (by decide +kernel)) (by decide) rfl))) dba_nil rfl) rfl) rfl)
  (dss_cons (ds_if (DW.t (dw_or (dt_cmpR cr_isN (DE.b (de_fn (u := u_can_be) (mem_at 6 rfl) rfl rfl (by decide +kernel) (by decide +kernel) (da_cons (de_var (i := 10) (by decide +kernel) (by decide +kernel) (by decide +kernel)) da_nil rfl) rfl)) (DE.b de_bl) rfl) (dw_or1 (dt_cmpR cr_isN (DE.b (de_fn (u := u_is_story) (mem_at 7 rfl) rfl rfl (by decide +kernel) (by decide +kernel) (da_cons (de_var (i := 10) (by decide +kernel) (by decide +kernel) (by decide +kernel)) (da_cons (de_tup da_nil) (da_cons (de_var (i := 11) (by decide +kernel) (by decide +kernel) (by decide +kernel)) da_nil rfl) rfl) rfl) rfl)) (DE.b de_bl) rfl))))
  (dss_cons (ds_ret de_bl)
  dss_nil)
  dss_nil)
  dss_nil)))))))))))))
  (dss_cons (ds_ret de_bl)
  dss_nil)))
def g_law : List D → Bag → Option (D × Bag) := runD core_law 13 false
def u_law : UFn := ⟨"law", false, 1, g_law⟩
theorem sc_law : FnScope ["script", "bag", "stays", "told1", "full", "hour", "going", "there1", "last", "longer", "book", "own", "one"] ["script"] (defScope st_law) := ⟨rfl, rfl, rfl, by decide +kernel, rfl, by decide +kernel, by decide +kernel⟩
theorem ok_law {P : Program} {w : World} {K : PySem.W.Frag} {mg : Str → Option Value} {base : Heap} {k : Nat} (D0 : Df K mg "law" st_law ["script"]) (bl : ∀ x, x ∈ bltNames → mg x = none) (h0 : UOk P w K mg base k u_pegs) (h1 : UOk P w K mg base k u_L_law_stays) (h2 : UOk P w K mg base k u_L_law_take) (h3 : UOk P w K mg base k u_L_law_same) (h4 : UOk P w K mg base k u_L_law_pegs) (h5 : UOk P w K mg base k u_L_law_book) (h6 : UOk P w K mg base k u_can_be) (h7 : UOk P w K mg base k u_is_story) (hbags : BOk P w K mg base k)  : UOk P w K mg base (k + 1) u_law :=
  uok_mk (Γ := cx_law) D0 ⟨bl, all_us (by exact ⟨h0, ⟨h1, ⟨h2, ⟨h3, ⟨h4, ⟨h5, ⟨h6, ⟨h7, trivial⟩⟩⟩⟩⟩⟩⟩⟩), all_cs (by exact trivial), fun _ => hbags⟩ sc_law (by decide +kernel) rfl cert_law rfl rfl
end
end PD
namespace PD
open PySem PySem.Spec L2
abbrev st_L_law_well : Stmt := topS 28
abbrev st_L_law_bags : Stmt := topS 30
theorem sc_L_law_well : FnScope ["cell", "turn"] ["cell", "turn"] (defScope st_L_law_well) := ⟨rfl, rfl, rfl, by decide +kernel, rfl, by decide +kernel, by decide +kernel⟩
theorem sc_L_law_bags : FnScope ["script", "most", "k", "cell"] ["script", "most"] (defScope st_L_law_bags) := ⟨rfl, rfl, rfl, by decide +kernel, rfl, by decide +kernel, by decide +kernel⟩
section
variable {P : Program} {w : World} {K : PySem.W.Frag} {mg : Str → Option Value} {base : Heap}
theorem ok_well {k : Nat} {f : Addr} {fd : FuncData} (F : Fun K "_law_well" "_law_well" st_L_law_well f fd) : FnOk P w K mg base CX0 (k + 1) f fd ["cell", "turn"] spWell := by
  refine F.ok sc_L_law_well (fun vs H Q E h => ?_) (fun cdv A outer s H vs Q E hr h => ?_)
  · obtain ⟨c, t, rfl, _⟩ := h; rfl
  · obtain ⟨c, t, rfl, q⟩ := h
    refine ⟨_, pss_cons (ps_if (pt_cmpR op_ge (pv 0) (pe_op op_pow pe_int pe_int) (nomark _)) (pss_one (ps_ret (pe_lst (pa_cons (pe_op op_sub (pv 0) (pe_op op_pow pe_int pe_int)) (pa_cons (pe_op op_mod (pv 0) pe_int) (pa_cons (pv 1) pa_nil)))))) pss_nil) (pss_one (ps_ret (pe_lst (pa_cons pe_int (pa_cons (pe_op op_mod (pv 0) pe_int) (pa_cons (pv 1) pa_nil)))))), ?_⟩
    refine ⟨.int c, rfl, 10, 18, rfl, rfl, ⟨by decide, by decide, by decide⟩, c, _, rfl, rfl, _, rfl, ite2 (fun e => ?_) (fun e => ?_)⟩
    · have e' : c ≥ 1000000000000000000 := of_decide_eq_true e
      unfold wellOf at q
      rw [if_pos e'] at q
      exact ⟨.int c, rfl, 10, 18, rfl, rfl, ⟨by decide, by decide, by decide⟩, c, _, rfl, rfl, .int c, rfl, c, _, rfl, rfl, (by decide : (0 : Int) < 2305843009213693951), .int t, rfl, Nat.le_of_lt (small1000 (show (3 : Nat) ≤ 1000 by decide)), q⟩
    · have e' : ¬ c ≥ 1000000000000000000 := fun z => e (decide_eq_true z)
      unfold wellOf at q
      rw [if_neg e'] at q
      exact ⟨.int c, rfl, c, _, rfl, rfl, (by decide : (0 : Int) < 2305843009213693951), .int t, rfl, Nat.le_of_lt (small1000 (show (3 : Nat) ≤ 1000 by decide)), q⟩
theorem ok_bags {k : Nat} {f f2 : Addr} {fd fd2 : FuncData} (F : Fun K "_law_bags" "_law_bags" st_L_law_bags f fd) (G : FnOk P w K mg base CX0 k f2 fd2 ["cell", "turn"] spWell) (kp : PySem.W.keepIn K (.ref f2) = true) (bG : Binds K fd2 ["cell", "turn"] []) (gG : mg "_law_well" = some (.ref f2)) (me : mg "enumerate" = none) : FnOk P w K mg base CX0 (k + 1) f fd ["script", "most"] (spBags K) := by
  refine F.ok sc_L_law_bags (fun vs H Q E h => ?_) (fun cdv A outer s H vs Q E hr h => ?_)
  · obtain ⟨a, ns, n, rfl, _⟩ := h; rfl
  · obtain ⟨a, ns, n, rfl, hS, hb, hl, hn, q⟩ := h
    refine ⟨_, pss_one (ps_ret (pe_lc (own := [("k", 2), ("cell", 3)]) (g := gTup K 2 (gCons (gName 2) (gCons (gName 3) gNil))) rfl sc_L_law_bags.nd (pi_enum (by rfl) me (pa_cons (pe_op op_cat (pe_slice sl_list (pv 0) po_none (po_some (pv 1))) (pe_lst (pa_cons pe_int pa_nil))) pa_nil)) (blkOk_by (by rfl))
      (fun _ _ _ _ _ => pg_tup rfl (pgs_cons (pg_name (i := 2) sc_L_law_bags.nd rfl (.inl rfl) (.inr rfl)) (pgs_cons (pg_name (i := 3) sc_L_law_bags.nd rfl (.inl rfl) (.inr rfl)) pgs_nil)))
      (fun _ _ _ _ _ => pts_nil)
      (fun _ _ _ _ _ => pe_call G hr (by rfl) gG kp bG .nil pass0 (pa_cons (pv 3) (pa_cons (pe_op op_mul pe_int (pv 2)) pa_nil))))), ?_⟩
    refine ⟨.ref a, rfl, .int n, rfl, n, rfl, a, _, rfl, hS, fun c nc => ⟨Nat.le_of_lt (small1000 (show (1 : Nat) ≤ 1000 by decide)), fun b nb => ?_⟩⟩
    have ncb : c ≠ b := fun e => by rw [← e, upd_same] at nb; cases nb
    have s1 : Same H (upd H c (.lst (cutV (ns.map V.int) none (some (n : Int))))) := fun x o e => by rw [upd_ne (ne_of_none e nc)]; exact e
    have s2 : Same H (upd (upd H c (.lst (cutV (ns.map V.int) none (some (n : Int))))) b (.lst [.int 0])) := fun x o e => by rw [upd_ne (ne_of_none (s1 x o e) nb)]; exact s1 x o e
    have ect : cutV (ns.map V.int) none (some (n : Int)) ++ [.int 0] = (ns.take n ++ [0]).map V.int := by rw [cut_take, List.map_append, List.map_take]; rfl
    have hlen : (ns.take n ++ [0]).length ≤ 64 := by rw [List.length_append, List.length_take]; simp; omega
    refine ⟨c, b, cutV (ns.map V.int) none (some (n : Int)), [.int 0], rfl, rfl, by rw [upd_ne ncb, upd_same], upd_same, ?_, fun e ne => ?_⟩
    · have := congrArg List.length ect
      rw [List.length_append, List.length_map] at this
      rw [this]
      exact Nat.le_of_lt (small1000 (by omega))
    rw [ect]
    refine ⟨e, _, rfl, .of upd_same, ?_⟩
    refine bags_walk (K := K) (g := gTup K 2 (gCons (gName 2) (gCons (gName 3) gNil))) (te := tCall spWell [] E0 (tCons (tVar 3) (tCons (tOp (rI CMul fun i j => V.int (i * j)) (tC (V.int 977)) (tVar 2)) tNil))) (σ := L2.start ["script", "most", "k", "cell"] [.ref a, .int n]) (cs := ns.take n ++ [0]) hlen rfl (fun x o e0 => by rw [upd_ne (ne_of_none (s2 x o e0) ne)]; exact s2 x o e0) upd_same q (fun T i z H2 R hT hR => ?_) (fun τ i z H2 R h2 h3 hR => ?_)
    · exact ⟨T, [.int (i : Nat), .int z], rfl, .inl (.inl hT), rfl, .int i, [.int z], rfl, .int z, [], rfl, rfl, hR⟩
    · exact ⟨.int z, h3, .int i, h2, 977, i, rfl, rfl, .inl ⟨by decide, by decide⟩, z, _, rfl, fun p hp => hR p hp⟩
theorem bok_mk (D1 : Df K mg "_law_well" st_L_law_well ["cell", "turn"]) (D2 : Df K mg "_law_bags" st_L_law_bags ["script", "most"]) (me : mg "enumerate" = none) : BOk P w K mg base 2 := by
  obtain ⟨f1, fd1, F1, m1, b1⟩ := D1.ex
  obtain ⟨f2, fd2, F2, m2, b2⟩ := D2.ex
  exact ⟨f2, fd2, _, ok_bags F2 (ok_well F1) F1.kp b1 m1 me, m2, F2.kp, b2⟩
end
end PD
namespace PD
open PySem PySem.Spec L2
noncomputable section
abbrev prD (p : Int × Int) : D := .tuple [.int p.1, .int p.2]
theorem cut_drop1 (ds : List D) : cut ds (some 1) none = ds.drop 1 := by
  unfold cut
  rw [show HT.sIx ds.length 0 (some 1) = min 1 ds.length from HT.sIx_nat ds.length 0 1, HT.sIx_none]
  cases ds with
  | nil => rfl
  | cons x r =>
    rw [show min 1 (x :: r).length = 1 by rw [List.length_cons]; omega]
    show (List.take ((x :: r).length - 1) r) = r
    rw [List.length_cons, Nat.add_sub_cancel]
    exact List.take_length
theorem cut_takeD (ds : List D) (n : Nat) : cut ds none (some (n : Int)) = ds.take n := by
  unfold cut
  rw [show HT.sIx ds.length ds.length (some ((n : Nat) : Int)) = min n ds.length from HT.sIx_nat ds.length ds.length n, HT.sIx_none]
  show List.take (min n ds.length - 0) (ds.drop 0) = _
  rw [List.drop_zero, Nat.sub_zero]
  rcases Nat.le_total n ds.length with h | h
  · rw [Nat.min_eq_left h]
  · rw [Nat.min_eq_right h, List.take_length, List.take_of_length_le h]
theorem zipD_map (xs ys : List Int) : zipD (xs.map iD) (ys.map iD) = (xs.zip ys).map prD := by
  induction xs generalizing ys with
  | nil => rfl
  | cons x r ih => cases ys with
    | nil => rfl
    | cons y s => simp [zipD, ih]
theorem is_whole_i (i : Int) (β : Bag) : g_is_whole [.int i] β = some (.bool true, β) := rfl
theorem is_pair_2 (a b : D) (β : Bag) : g_is_pair [.tuple [a, b]] β = some (.bool true, β) := rfl
theorem is_within_i (x lo hi : Int) (β : Bag) : g_is_within [.int x, .int lo, .int hi] β = some (.bool (decide (lo ≤ x ∧ x ≤ hi)), β) := by
  by_cases h : lo ≤ x <;> by_cases h2 : x ≤ hi <;>
    simp [g_is_within, core_is_within, runD, startD, outD, sqS, sRet, sIf, sSet, sAsg, sExpr, sFrz, frz, frz1, sNx, dC, dVar, dBor, dOp, dChain, dAnd, dOr, dNot, dIf, tob, tNotF, tAndF, tOrF, dFn, aCons, aNil, aOk, dTup, dCall, dFrz, dFrzK, gNm, gTp, gsCons, gsNil, sSetO, sSetK, sSetV, sPar2, sPar3, vFr, vL, vK, dIsi, dIsis, isiD, orC, sNone, sSeq, sZip, sEnum, seqD, dSl, oSome, oNo, okLen, plainD, wipeD, kNil, fLt, fLe, fGt, fGe, fAdd, fSub, fI0, fI, orF, u_is_whole, is_whole_i, h, h2]
theorem filter_true {α : Type} (l : List α) : (l.filter fun _ => true) = l := List.filter_eq_self.mpr fun _ _ => rfl
def risesL (xs : List Int) : Bool := (xs.zip (xs.drop 1)).all fun p => decide (p.1 < p.2)
theorem rises_i (xs : List Int) (h : xs.length ≤ 1000) (β : Bag) : g_rises [.list (xs.map iD)] β = some (.bool (risesL xs), β) := by
  have key : lcF (sZip (aCons (dBor 0) (aCons (dSl (dBor 0) (oSome (dC (.int 1))) oNo) aNil))) (gTp (gsCons (gNm 1) (gsCons (gNm 2) gsNil)) 2) tTrue (dOp fLt (dBor 1) (dBor 2)) [1, 2] [.fr (.list (xs.map iD)), .no, .no] β = some (((xs.zip (xs.drop 1)).filter fun _ => true).map fun p => .bool (decide (p.1 < p.2)), β) := by
    refine lcF_map prD (fun p => [.fr (.list (xs.map iD)), .fr (.int p.1), .fr (.int p.2)]) (fun _ => true) _ _ ?_ ?_ ?_ ?_ ?_
    · simp [runD, startD, outD, sqS, sRet, sIf, sSet, sAsg, sExpr, sFrz, frz, frz1, sNx, dC, dVar, dBor, dOp, dChain, dAnd, dOr, dNot, dIf, tob, tNotF, tAndF, tOrF, dFn, aCons, aNil, aOk, dTup, dCall, dFrz, dFrzK, gNm, gTp, gsCons, gsNil, sSetO, sSetK, sSetV, sPar2, sPar3, vFr, vL, vK, dIsi, dIsis, isiD, orC, sNone, sSeq, sZip, sEnum, seqD, dSl, oSome, oNo, okLen, plainD, wipeD, kNil, fSl, cut_drop1]; rw [← List.map_tail, zipD_map]
    · rw [List.length_zip]; omega
    · intro a _; simp [runD, startD, outD, sqS, sRet, sIf, sSet, sAsg, sExpr, sFrz, frz, frz1, sNx, dC, dVar, dBor, dOp, dChain, dAnd, dOr, dNot, dIf, tob, tNotF, tAndF, tOrF, dFn, aCons, aNil, aOk, dTup, dCall, dFrz, dFrzK, gNm, gTp, gsCons, gsNil, sSetO, sSetK, sSetV, sPar2, sPar3, vFr, vL, vK, dIsi, dIsis, isiD, orC, sNone, sSeq, sZip, sEnum, seqD, dSl, oSome, oNo, okLen, plainD, wipeD, kNil]
    · intro a _; rfl
    · intro a _ _; simp [runD, startD, outD, sqS, sRet, sIf, sSet, sAsg, sExpr, sFrz, frz, frz1, sNx, dC, dVar, dBor, dOp, dChain, dAnd, dOr, dNot, dIf, tob, tNotF, tAndF, tOrF, dFn, aCons, aNil, aOk, dTup, dCall, dFrz, dFrzK, gNm, gTp, gsCons, gsNil, sSetO, sSetK, sSetV, sPar2, sPar3, vFr, vL, vK, dIsi, dIsis, isiD, orC, sNone, sSeq, sZip, sEnum, seqD, dSl, oSome, oNo, okLen, plainD, wipeD, kNil, fLt, fLe, fGt, fGe, fAdd, fSub, fI0, fI, orF]
  simp [g_rises, core_rises, runD, startD, outD, sqS, sRet, sIf, sSet, sAsg, sExpr, sFrz, frz, frz1, sNx, dC, dVar, dBor, dOp, dChain, dAnd, dOr, dNot, dIf, tob, tNotF, tAndF, tOrF, dFn, aCons, aNil, aOk, dTup, dCall, dFrz, dFrzK, gNm, gTp, gsCons, gsNil, sSetO, sSetK, sSetV, sPar2, sPar3, vFr, vL, vK, dIsi, dIsis, isiD, orC, sNone, sSeq, sZip, sEnum, seqD, dSl, oSome, oNo, okLen, plainD, wipeD, kNil, key, fAll, filter_true]
  rw [show (List.map (fun p : Int × Int => PyData.bool (decide (p.1 < p.2))) (xs.zip xs.tail)) = ((xs.zip xs.tail).map fun p => decide (p.1 < p.2)).map PyData.bool by rw [List.map_map]; rfl, boolsOf_map]
  simp [risesL, List.all_map, outD]
@[simp] theorem fIx_0 (a b : Int) : fIx (.tuple [.int a, .int b]) (.int 0) = some (.int a) := rfl
@[simp] theorem fIx_1 (a b : Int) : fIx (.tuple [.int a, .int b]) (.int 1) = some (.int b) := rfl
theorem all_true {n : Nat} : ∀ {l : List Bool}, (∀ b ∈ l, b = true) → l.all id = true := fun h => List.all_eq_true.mpr fun b hb => h b hb
structure GoodSt (l : List (Int × Int)) : Prop where
  pos : 1 ≤ l.length
  len : l.length ≤ 24
  lo : ∀ p ∈ l, 0 ≤ p.1
  hi : ∀ p ∈ l, p.1 + 1 ≤ p.2
  top : ∀ p ∈ l, p.2 ≤ 1000000
  up : risesL (l.map (·.1)) = true
abbrev stD (l : List (Int × Int)) : D := .tuple (l.map prD)
theorem pairs_all (l : List (Int × Int)) (β : Bag) (δ : Env) (i : Nat) (hi : i < δ.length) (c : FE) (hc : c δ β = some (stD l, β)) (hl : l.length ≤ 1000) : dCall fAll (aCons (dFrz (lcF (sSeq c) (gNm i) tTrue (dFn u_is_pair (aCons (dVar i) aNil)) [i])) aNil) δ β = some (.bool true, β) := by
  have key : lcF (sSeq c) (gNm i) tTrue (dFn u_is_pair (aCons (dVar i) aNil)) [i] δ β = some ((l.filter fun _ => true).map fun _ => .bool true, β) := by
    refine lcF_map prD (fun p => (wipeD δ [i]).set i (.fr (prD p))) (fun _ => true) _ _ ?_ (by omega) ?_ ?_ ?_
    · simp [sSeq, hc, seqD]
    · intro a _; rfl
    · intro a _; rfl
    · intro a _ _
      simp [runD, startD, outD, sqS, sRet, sIf, sSet, sAsg, sExpr, sFrz, frz, frz1, sNx, dC, dVar, dBor, dOp, dChain, dAnd, dOr, dNot, dIf, tob, tNotF, tAndF, tOrF, dFn, aCons, aNil, aOk, dTup, dCall, dFrz, dFrzK, gNm, gTp, gsCons, gsNil, sSetO, sSetK, sSetV, sPar2, sPar3, vFr, vL, vK, dIsi, dIsis, isiD, orC, sNone, sSeq, sZip, sEnum, seqD, dSl, oSome, oNo, okLen, plainD, wipeD, kNil, u_is_pair, is_pair_2, hi]
  simp only [dCall, aCons, aNil, dFrz, key, filter_true]
  have e : (l.map fun _ => PyData.bool true) = (l.map fun _ => true).map PyData.bool := by rw [List.map_map]; rfl
  show (fAll [.list (l.map fun _ => PyData.bool true)]).map _ = _
  unfold fAll
  dsimp only
  rw [e, boolsOf_map]
  simp
theorem are_stays_ok {l : List (Int × Int)} (g : GoodSt l) (β : Bag) : g_are_stays [stD l] β = some (.bool true, β) := by
  obtain ⟨h1, h2, h3, h4, h5, h6⟩ := g
  have k1 := pairs_all l β [.fr (stD l), .no, .no, .no] 3 (by simp) (dBor 0) rfl (by omega)
  have l1 : (1 : Int) ≤ (l.length : Int) := by omega
  have l2 : (l.length : Int) ≤ 24 := by omega
  obtain ⟨δ', β', e1, δe, βe⟩ := sFor_pre (s := sSeq (dVar 0)) (g := gTp (gsCons (gNm 1) (gsCons (gNm 2) gsNil)) 2) (B := sqS (sIf (tOrF (tNotF (tob (dFn u_is_within (aCons (dVar 1) (aCons (dC (.int 0)) (aCons (dOp fSub (dC (.int 1000000)) (dC (.int 1))) aNil)))))) (tNotF (tob (dFn u_is_within (aCons (dVar 2) (aCons (dOp fAdd (dBor 1) (dC (.int 1))) (aCons (dC (.int 1000000)) aNil))))))) (sqS (sRet (dC (.bool false))) sNx) sNx) sNx)
    prD (fun _ δ b => (∃ x y z, δ = [.fr (stD l), x, y, z]) ∧ b = β) l (δ := [.fr (stD l), .no, .no, .no]) (β := β) (β1 := β) (by simp [runD, startD, outD, sqS, sRet, sIf, sSet, sAsg, sExpr, sFrz, frz, frz1, sNx, dC, dVar, dBor, dOp, dChain, dAnd, dOr, dNot, dIf, tob, tNotF, tAndF, tOrF, dFn, aCons, aNil, aOk, dTup, dCall, dFrz, dFrzK, gNm, gTp, gsCons, gsNil, sSetO, sSetK, sSetV, sPar2, sPar3, vFr, vL, vK, dIsi, dIsis, isiD, orC, sNone, sSeq, sZip, sEnum, seqD, dSl, oSome, oNo, okLen, plainD, wipeD, kNil]) (by
      rintro p ⟨c, d⟩ q δ b hl ⟨⟨x, y, z, rfl⟩, rfl⟩
      have hm : (c, d) ∈ l := by rw [hl]; simp
      have a1 := h3 _ hm
      have a2 := h4 _ hm
      have a3 := h5 _ hm
      simp only at a1 a2 a3
      refine ⟨[.fr (stD l), .fr (.int c), .fr (.int d), z], [.fr (stD l), .fr (.int c), .fr (.int d), z], b, rfl, ?_, ⟨_, _, _, rfl⟩, rfl⟩
      have b1 : 0 ≤ c ∧ c ≤ 1000000 - 1 := by omega
      have b2 : c + 1 ≤ d ∧ d ≤ 1000000 := by omega
      have b3 : ¬ 999999 < c := by omega
      have b4 : c < d := by omega
      have b5 : ¬ d < c + 1 := by omega
      simp [runD, startD, outD, sqS, sRet, sIf, sSet, sAsg, sExpr, sFrz, frz, frz1, sNx, dC, dVar, dBor, dOp, dChain, dAnd, dOr, dNot, dIf, tob, tNotF, tAndF, tOrF, dFn, aCons, aNil, aOk, dTup, dCall, dFrz, dFrzK, gNm, gTp, gsCons, gsNil, sSetO, sSetK, sSetV, sPar2, sPar3, vFr, vL, vK, dIsi, dIsis, isiD, orC, sNone, sSeq, sZip, sEnum, seqD, dSl, oSome, oNo, okLen, plainD, wipeD, kNil, fLt, fLe, fGt, fGe, fAdd, fSub, fI0, fI, orF, u_is_within, is_within_i, a1, a3, b3, b4, b5]) ⟨⟨_, _, _, rfl⟩, rfl⟩
  obtain ⟨⟨x, y, z, rfl⟩, rfl⟩ : (∃ x y z, δ' = [.fr (stD l), x, y, z]) ∧ β' = β := ⟨δe, βe⟩
  have k2 : lcF (sSeq (dBor 0)) (gNm 3) tTrue (dOp fIx (dBor 3) (dC (.int 0))) [3] [.fr (stD l), x, y, z] β' = some ((l.filter fun _ => true).map fun p => .int p.1, β') := by
    refine lcF_map prD (fun p => [.fr (stD l), x, y, .fr (prD p)]) (fun _ => true) _ _ ?_ (by omega) ?_ ?_ ?_
    · simp [runD, startD, outD, sqS, sRet, sIf, sSet, sAsg, sExpr, sFrz, frz, frz1, sNx, dC, dVar, dBor, dOp, dChain, dAnd, dOr, dNot, dIf, tob, tNotF, tAndF, tOrF, dFn, aCons, aNil, aOk, dTup, dCall, dFrz, dFrzK, gNm, gTp, gsCons, gsNil, sSetO, sSetK, sSetV, sPar2, sPar3, vFr, vL, vK, dIsi, dIsis, isiD, orC, sNone, sSeq, sZip, sEnum, seqD, dSl, oSome, oNo, okLen, plainD, wipeD, kNil]
    · intro a _; rfl
    · intro a _; rfl
    · intro a _ _; simp [runD, startD, outD, sqS, sRet, sIf, sSet, sAsg, sExpr, sFrz, frz, frz1, sNx, dC, dVar, dBor, dOp, dChain, dAnd, dOr, dNot, dIf, tob, tNotF, tAndF, tOrF, dFn, aCons, aNil, aOk, dTup, dCall, dFrz, dFrzK, gNm, gTp, gsCons, gsNil, sSetO, sSetK, sSetV, sPar2, sPar3, vFr, vL, vK, dIsi, dIsis, isiD, orC, sNone, sSeq, sZip, sEnum, seqD, dSl, oSome, oNo, okLen, plainD, wipeD, kNil]
  have k3 : g_rises [.list (l.map fun p => PyData.int p.1)] (0, 0, 0) = some (.bool true, (0, 0, 0)) := by
    have := rises_i (l.map (·.1)) (by rw [List.length_map]; omega) (0, 0, 0)
    rw [h6, List.map_map] at this
    exact this
  have k4 : dFn u_rises (aCons (dFrz (lcF (sSeq (dBor 0)) (gNm 3) tTrue (dOp fIx (dBor 3) (dC (.int 0))) [3])) aNil) [.fr (stD l), x, y, z] β' = some (.bool true, β') := by
    simp [dFn, aCons, aNil, dFrz, k2, filter_true, u_rises, k3]
  have s1 : ∀ {A B : SF}, sIf (tOrF (tNotF (tob (dIsi .tuple (dBor 0)))) (tOrF (tNotF (tob (dChain fLe fLe (dC (.int 1)) (dCall fLen (aCons (dBor 0) aNil)) (dC (.int 24))))) (tNotF (tob (dCall fAll (aCons (dFrz (lcF (sSeq (dBor 0)) (gNm 3) tTrue (dFn u_is_pair (aCons (dVar 3) aNil)) [3])) aNil)))))) A B [.fr (stD l), .no, .no, .no] β' = B [.fr (stD l), .no, .no, .no] β' := fun {A B} =>
    if_f ((tOr_f (tNot_of (tob_of (b := true) rfl))).trans ((tOr_f (tNot_of (tob_of (b := true) (by simp [runD, startD, outD, sqS, sRet, sIf, sSet, sAsg, sExpr, sFrz, frz, frz1, sNx, dC, dVar, dBor, dOp, dChain, dAnd, dOr, dNot, dIf, tob, tNotF, tAndF, tOrF, dFn, aCons, aNil, aOk, dTup, dCall, dFrz, dFrzK, gNm, gTp, gsCons, gsNil, sSetO, sSetK, sSetV, sPar2, sPar3, vFr, vL, vK, dIsi, dIsis, isiD, orC, sNone, sSeq, sZip, sEnum, seqD, dSl, oSome, oNo, okLen, plainD, wipeD, kNil, fLt, fLe, fGt, fGe, fAdd, fSub, fI0, fI, orF, fLen, l1, l2])))).trans (tNot_of (tob_of k1))))
  refine run_rt (δ1 := [.fr (stD l), x, y, z]) ?_
  show core_are_stays [.fr (stD l), .no, .no, .no] β' = _
  unfold core_are_stays
  rw [sq_nx s1, sq_nx e1, sq_rt (ret_of k4)]
def heldAt (found : List Int) (l : List (Int × Int)) (come : Int) : List Int := ((found.zip l).filter fun x => decide (come < x.2.2)).map (·.1)
def pgStep (l : List (Int × Int)) (found : List Int) (a : Int × Int) : List Int := found ++ [mex (heldAt found l a.1)]
def pegsOf (l pre : List (Int × Int)) : List Int := pre.foldl (pgStep l) []
theorem pegsOf_snoc (l pre : List (Int × Int)) (a : Int × Int) : pegsOf l (pre ++ [a]) = pegsOf l pre ++ [mex (heldAt (pegsOf l pre) l a.1)] := by
  unfold pegsOf; rw [List.foldl_append]; rfl
theorem pegsOf_len (l : List (Int × Int)) : ∀ pre : List (Int × Int), (pegsOf l pre).length = pre.length := by
  have : ∀ (pre : List (Int × Int)) (acc : List Int), (pre.foldl (pgStep l) acc).length = acc.length + pre.length := by
    intro pre
    induction pre with
    | nil => intro acc; rfl
    | cons a r ih => intro acc; rw [List.foldl_cons, ih]; simp [pgStep]; omega
  intro pre; unfold pegsOf; rw [this]; simp
theorem keysOf_len (ps : List Int) : (keysOf ps).length ≤ ps.length := by
  have : ∀ (ps acc : List Int), (ps.foldl insK acc).length ≤ acc.length + ps.length := by
    intro ps
    induction ps with
    | nil => intro acc; simp
    | cons p r ih =>
      intro acc
      rw [List.foldl_cons]
      have h := ih (insK acc p)
      have : (insK acc p).length ≤ acc.length + 1 := by unfold insK; split <;> simp
      simp only [List.length_cons]; omega
  have := this ps []
  simpa [keysOf] using this
theorem mex_keys (ps : List Int) : mex (keysOf ps) = mex ps := by
  obtain ⟨h1, h2, h3⟩ := mex_is (keysOf ps)
  exact IsMex.uniq (h := ps) ⟨h1, fun z => h2 ((mem_keysOf ps _).mpr z), fun q a b => (mem_keysOf ps q).mp (h3 q a b)⟩ (mex_is ps)
theorem heldAt_len (found : List Int) (l : List (Int × Int)) (c : Int) : (heldAt found l c).length ≤ found.length := by
  unfold heldAt
  rw [List.length_map]
  exact Nat.le_trans (List.length_filter_le _ _) (by rw [List.length_zip]; omega)
theorem zipD_found (found : List Int) (l : List (Int × Int)) : zipD (found.map iD) (l.map prD) = (found.zip l).map fun x => .tuple [.int x.1, prD x.2] := by
  induction found generalizing l with
  | nil => rfl
  | cons x r ih => cases l with
    | nil => rfl
    | cons y s => simp [zipD, ih]
theorem seqD_list (ds : List D) : seqD (.list ds) = some ds := rfl
theorem lookN_set (k : Int) (ks : List Int) : (lookD (setD ks) (.int k)).isNone = !decide (k ∈ ks) := by rw [← lookD_set]; cases lookD (setD ks) (.int k) <;> rfl
theorem held_ok (l : List (Int × Int)) (d : D) (hd : seqD d = some (l.map prD)) (hl : l.length ≤ 1000) (found : List Int) (c : Int) (x3 x4 x5 x6 : Sl) (β : Bag) : dcF (sZip (aCons (dBor 1) (aCons (dBor 0) aNil))) (gTp (gsCons (gNm 5) (gsCons (gNm 6) gsNil)) 2) (tob (dOp fGt (dOp fIx (dBor 6) (dC (.int 1))) (dBor 2))) (dVar 5) (dC (.bool true)) [5, 6] [.fr d, .ow (.list (found.map iD)), .fr (.int c), x3, x4, x5, x6] β = some (setD (keysOf (heldAt found l c)), β) := by
  have hs : sZip (aCons (dBor 1) (aCons (dBor 0) aNil)) [.fr d, .ow (.list (found.map iD)), .fr (.int c), x3, x4, x5, x6] β = some ((found.zip l).map fun x => .tuple [.int x.1, prD x.2], β) := by
    rw [← zipD_found]
    simp only [sZip, aCons, aNil, dBor, List.getElem?_cons_succ, List.getElem?_cons_zero, Option.bind_some, Option.map_some, hd, seqD_list]
  unfold dcF
  rw [hs]
  show (if ((found.zip l).map _).length ≤ 16777216 then _ else _) = _
  rw [if_pos (by rw [List.length_map, List.length_zip]; omega)]
  have := dcGo_set (g := gTp (gsCons (gNm 5) (gsCons (gNm 6) gsNil)) 2) (t := tob (dOp fGt (dOp fIx (dBor 6) (dC (.int 1))) (dBor 2))) (ek := dVar 5) (ev := dC (.bool true)) (δw := wipeD [.fr d, .ow (.list (found.map iD)), .fr (.int c), x3, x4, x5, x6] [5, 6]) (β := β)
    (fun x : Int × (Int × Int) => .tuple [.int x.1, prD x.2]) (fun x => [.fr d, .ow (.list (found.map iD)), .fr (.int c), x3, x4, .fr (.int x.1), .fr (prD x.2)]) (fun x => decide (c < x.2.2)) (fun x => x.1) (found.zip l) []
    (fun a _ => by simp [runD, startD, outD, sqS, sRet, sIf, sSet, sAsg, sExpr, sFrz, frz, frz1, sNx, dC, dVar, dBor, dOp, dChain, dAnd, dOr, dNot, dIf, tob, tNotF, tAndF, tOrF, dFn, aCons, aNil, aOk, dTup, dCall, dFrz, dFrzK, gNm, gTp, gsCons, gsNil, sSetO, sSetK, sSetV, sPar2, sPar3, vFr, vL, vK, dIsi, dIsis, isiD, orC, sNone, sSeq, sZip, sEnum, seqD, dSl, oSome, oNo, okLen, plainD, wipeD, kNil]) (fun a _ => by simp [runD, startD, outD, sqS, sRet, sIf, sSet, sAsg, sExpr, sFrz, frz, frz1, sNx, dC, dVar, dBor, dOp, dChain, dAnd, dOr, dNot, dIf, tob, tNotF, tAndF, tOrF, dFn, aCons, aNil, aOk, dTup, dCall, dFrz, dFrzK, gNm, gTp, gsCons, gsNil, sSetO, sSetK, sSetV, sPar2, sPar3, vFr, vL, vK, dIsi, dIsis, isiD, orC, sNone, sSeq, sZip, sEnum, seqD, dSl, oSome, oNo, okLen, plainD, wipeD, kNil, fLt, fLe, fGt, fGe, fAdd, fSub, fI0, fI, orF]) (fun a _ _ => rfl) (fun a _ _ => rfl)
  exact this
theorem min_ok (ks : List Int) (hk : ks.length ≤ 1000) (s0 s1 s2 s3 x5 x6 : Sl) (β : Bag) : dCall fMin (aCons (dFrz (lcF (sRange2 (aCons (dC (.int 1)) (aCons (dOp fAdd (dCall fLen (aCons (dBor 4) aNil)) (dC (.int 2))) aNil))) (gNm 5) (tob (dOp fNin (dBor 5) (dBor 4))) (dVar 5) [5])) aNil) [s0, s1, s2, s3, .ow (.dict (setD ks)), x5, x6] β = some (.int (mex ks), β) := by
  have e1 : (setD ks).length = ks.length := by unfold setD; rw [List.length_map]
  have hs : sRange2 (aCons (dC (.int 1)) (aCons (dOp fAdd (dCall fLen (aCons (dBor 4) aNil)) (dC (.int 2))) aNil)) [s0, s1, s2, s3, .ow (.dict (setD ks)), x5, x6] β = some ((rangeI 1 (ks.length + 1)).map iD, β) := by
    have := range2_of (a := aCons (dC (.int 1)) (aCons (dOp fAdd (dCall fLen (aCons (dBor 4) aNil)) (dC (.int 2))) aNil)) (δ := [s0, s1, s2, s3, .ow (.dict (setD ks)), x5, x6]) (β := β) (β1 := β) (i := 1) (j := (ks.length : Int) + 2) (by simp [runD, startD, outD, sqS, sRet, sIf, sSet, sAsg, sExpr, sFrz, frz, frz1, sNx, dC, dVar, dBor, dOp, dChain, dAnd, dOr, dNot, dIf, tob, tNotF, tAndF, tOrF, dFn, aCons, aNil, aOk, dTup, dCall, dFrz, dFrzK, gNm, gTp, gsCons, gsNil, sSetO, sSetK, sSetV, sPar2, sPar3, vFr, vL, vK, dIsi, dIsis, isiD, orC, sNone, sSeq, sZip, sEnum, seqD, dSl, oSome, oNo, okLen, plainD, wipeD, kNil, fLt, fLe, fGt, fGe, fAdd, fSub, fI0, fI, orF, fLen, e1]) (okR_sm (by omega) (by omega)) (okR_sm (by omega) (by omega))
    rw [this, show ((ks.length : Int) + 2 - 1).toNat = ks.length + 1 by omega]
  obtain ⟨rest, h1, h2⟩ := range_first ks (mex ks) 1 (ks.length + 1) (mex_is ks).1 (by have := mex_le ks; omega) (mex_is ks).2.1 (mex_is ks).2.2
  have key := lcF_map (g := gNm 5) (t := tob (dOp fNin (dBor 5) (dBor 4))) (e := dVar 5) (vs := [5]) iD (fun x => [s0, s1, s2, s3, .ow (.dict (setD ks)), .fr (.int x), x6]) (fun x => decide (x ∉ ks)) iD _ hs (by rw [show (rangeI 1 (ks.length + 1)).length = ks.length + 1 by unfold rangeI; simp]; omega) (fun a _ => by simp [runD, startD, outD, sqS, sRet, sIf, sSet, sAsg, sExpr, sFrz, frz, frz1, sNx, dC, dVar, dBor, dOp, dChain, dAnd, dOr, dNot, dIf, tob, tNotF, tAndF, tOrF, dFn, aCons, aNil, aOk, dTup, dCall, dFrz, dFrzK, gNm, gTp, gsCons, gsNil, sSetO, sSetK, sSetV, sPar2, sPar3, vFr, vL, vK, dIsi, dIsis, isiD, orC, sNone, sSeq, sZip, sEnum, seqD, dSl, oSome, oNo, okLen, plainD, wipeD, kNil])
    (fun a _ => by simp [runD, startD, outD, sqS, sRet, sIf, sSet, sAsg, sExpr, sFrz, frz, frz1, sNx, dC, dVar, dBor, dOp, dChain, dAnd, dOr, dNot, dIf, tob, tNotF, tAndF, tOrF, dFn, aCons, aNil, aOk, dTup, dCall, dFrz, dFrzK, gNm, gTp, gsCons, gsNil, sSetO, sSetK, sSetV, sPar2, sPar3, vFr, vL, vK, dIsi, dIsis, isiD, orC, sNone, sSeq, sZip, sEnum, seqD, dSl, oSome, oNo, okLen, plainD, wipeD, kNil, fNin, fLt, fLe, fGt, fGe, fAdd, fSub, fI0, fI, orF, fNinL, fNinK, keyOfD, lookN_set]) (fun a _ _ => ⟨rfl, rfl⟩)
  rw [h1] at key
  refine call_of (aone_of (frz_of key)) ?_
  rw [fMin_ints, foldl_min_of h2]
theorem pegs_so_ok (l : List (Int × Int)) (d : D) (hd : seqD d = some (l.map prD)) (hl : l.length ≤ 1000) (β : Bag) : g_pegs_so [d] β = some (.list ((pegsOf l l).map iD), β) := by
  obtain ⟨δ', β', e1, ⟨⟨x2, x3, x4, x5, x6, rfl⟩, rfl⟩⟩ := sFor_pre (s := sSeq (dVar 0)) (g := gTp (gsCons (gNm 2) (gsCons (gNm 3) gsNil)) 2) (B := sqS (sSetK 4 (dcF (sZip (aCons (dBor 1) (aCons (dBor 0) aNil))) (gTp (gsCons (gNm 5) (gsCons (gNm 6) gsNil)) 2) (tob (dOp fGt (dOp fIx (dBor 6) (dC (.int 1))) (dBor 2))) (dVar 5) (dC (.bool true)) [5, 6]))
      (sqS (sApp 1 (dCall fMin (aCons (dFrz (lcF (sRange2 (aCons (dC (.int 1)) (aCons (dOp fAdd (dCall fLen (aCons (dBor 4) aNil)) (dC (.int 2))) aNil))) (gNm 5) (tob (dOp fNin (dBor 5) (dBor 4))) (dVar 5) [5])) aNil))) sNx))
    prD (fun pre δ b => (∃ x2 x3 x4 x5 x6, δ = [.fr d, .ow (.list ((pegsOf l pre).map iD)), x2, x3, x4, x5, x6]) ∧ b = β) l (δ := [.fr d, .ow (.list []), .no, .no, .no, .no, .no]) (β := β) (β1 := β) (by simp only [sSeq, dVar, List.getElem?_cons_zero, Option.bind_some, hd, Option.map_some]) (by
      rintro p ⟨c, gn⟩ q δ b hl' ⟨⟨x2, x3, x4, x5, x6, rfl⟩, rfl⟩
      have hp : p.length ≤ 1000 := by rw [hl', List.length_append] at hl; omega
      have hk := keysOf_len (heldAt (pegsOf l p) l c)
      have hh := heldAt_len (pegsOf l p) l c
      rw [pegsOf_len] at hh
      refine ⟨[.fr d, .ow (.list ((pegsOf l p).map iD)), .fr (.int c), .fr (.int gn), x4, x5, x6], [.fr d, .ow (.list ((pegsOf l (p ++ [(c, gn)])).map iD)), .fr (.int c), .fr (.int gn), .ow (.dict (setD (keysOf (heldAt (pegsOf l p) l c)))), x5, x6], b, rfl, ?_, ⟨_, _, _, _, _, rfl⟩, rfl⟩
      rw [sq_nx (setK_of (held_ok l d hd hl (pegsOf l p) c _ _ _ _ b))]
      refine sq_nx ?_
      show sApp 1 _ [.fr d, .ow (.list ((pegsOf l p).map iD)), .fr (.int c), .fr (.int gn), .ow (.dict (setD (keysOf (heldAt (pegsOf l p) l c)))), x5, x6] b = _
      unfold sApp
      simp only [List.getElem?_cons_succ, List.getElem?_cons_zero]
      rw [min_ok _ (by omega)]
      simp only [Option.bind_some]
      rw [if_pos ⟨rfl, by rw [List.length_map, pegsOf_len]; omega⟩, pegsOf_snoc, mex_keys, List.map_append]
      rfl) ⟨⟨_, _, _, _, _, rfl⟩, rfl⟩
  refine run_rt (δ1 := [.fr d, .fr (.list ((pegsOf l l).map iD)), x2, x3, x4, x5, x6]) ?_
  show core_pegs_so [.fr d, .no, .no, .no, .no, .no, .no] β' = _
  unfold core_pegs_so
  rw [sq_nx (setO_of (i := 1) (aok_of (ds := []) rfl rfl))]
  show sqS _ _ [.fr d, .ow (.list []), .no, .no, .no, .no, .no] β' = _
  rw [sq_nx e1]
  rfl
end
end PD
namespace PD
open PySem PySem.Spec L2
noncomputable section
/-! ### drawing -/
def Bd (n : Int) (β : Bag) : Prop := 0 ≤ β.2.2 ∧ β.2.2 ≤ n
theorem log2_small {n : Nat} {k : Nat} (h : n < 2 ^ (k + 1)) : n.log2 ≤ k := by
  by_cases h0 : n = 0
  · subst h0; simp
  · have := (Nat.log2_lt h0).mpr h
    omega
theorem fAdd_i (a b : Int) : fAdd (.int a) (.int b) = some (.int (a + b)) := rfl
theorem fSub_i (a b : Int) : fSub (.int a) (.int b) = some (.int (a - b)) := rfl
theorem fMod_i {a b : Int} (h : 0 < b) : fMod (.int a) (.int b) = some (.int (a % b)) := by simp [fMod, fI, h]
theorem fDiv_i {a b : Int} (h : 0 < b) (h2 : b ≤ 1000000) : fDiv (.int a) (.int b) = some (.int (a / b)) := by
  have : b.natAbs.log2 ≤ 19 := log2_small (by omega)
  have : okDiv a b = true := by unfold okDiv; simp; omega
  simp [fDiv, fI, this]
theorem fMul_i {a b : Int} (ha : a.natAbs < 2305843009213693952) (hb : b.natAbs < 2305843009213693952) : fMul (.int a) (.int b) = some (.int (a * b)) := by
  have h1 : a.natAbs.log2 ≤ 60 := log2_small (by simpa using ha)
  have h2 : b.natAbs.log2 ≤ 60 := log2_small (by simpa using hb)
  have : okMul a b = true := by unfold okMul; simp; omega
  simp [fMul, orF, fI, this]
theorem fPow_i {a : Int} {k : Nat} (ha : a.natAbs < 2305843009213693952) (hk : k ≤ 1000000) : fPow (.int a) (.int k) = some (.int (a ^ k)) := by
  have : okPow a k = true := by
    unfold okPow
    rw [Bool.and_eq_true, Bool.and_eq_true, decide_eq_true_eq, decide_eq_true_eq, decide_eq_true_eq]
    refine ⟨⟨by omega, by omega⟩, Nat.lt_trans ha (by decide)⟩
  simp [fPow, fI, this]
theorem take_ok {many : Int} {N : Int} {β : Bag} (h1 : 1 ≤ many) (h2 : many ≤ 1000000) (hb : Bd N β) (hN : N ≤ 1000000) : ∃ r β', g_L_law_take [.int many] β = some (.int r, β') ∧ 0 ≤ r ∧ r < many ∧ Bd (N + 1) β' := by
  obtain ⟨b0, b1, b2⟩ := β
  obtain ⟨p1, p2⟩ := hb
  simp only at p1 p2
  have hm : 0 < many := by omega
  by_cases h : 0 < b0
  · refine ⟨b0 % many, (b0 / many, b1, b2), ?_, Int.emod_nonneg _ (by omega), Int.emod_lt_of_pos _ (by omega), ⟨p1, by show b2 ≤ N + 1; omega⟩⟩
    refine run_rt (δ1 := [.bg, .fr (.int many), .fr (.int (b0 % many)), .no, .no]) ?_
    show core_L_law_take [.bg, .fr (.int many), .no, .no, .no] (b0, b1, b2) = _
    unfold core_L_law_take
    refine sq_rt ?_
    rw [if_t (β1 := (b0, b1, b2)) (by simp [tob, dOp, dBag, bagGet, dC, fGt, orF, fI0, h])]
    rw [sq_nx (set_of (d := .int (b0 % many)) (β1 := (b0, b1, b2)) (op_of (d := .int b0) (e := .int many) rfl rfl (fMod_i hm)))]
    rw [sq_nx (δ1 := [.bg, .fr (.int many), .fr (.int (b0 % many)), .no, .no]) (β1 := (b0 / many, b1, b2)) (by simp [sBagSet, dOp, dBag, bagGet, dBor, fDiv_i hm h2, bagSet])]
    rfl
  · have hp : (0 : Int) < 2305843009213693951 := by decide
    generalize e1 : (b1 + 1000003 * (b2 + 1)) % 2305843009213693951 = n1
    have n1a : 0 ≤ n1 := by rw [← e1]; exact Int.emod_nonneg _ (by decide)
    have n1b : n1 < 2305843009213693951 := by rw [← e1]; exact Int.emod_lt_of_pos _ hp
    generalize e2 : (n1 * n1 + 7919 * (b2 + 1) ^ 2 + 5) % 2305843009213693951 = n2
    have n2a : 0 ≤ n2 := by rw [← e2]; exact Int.emod_nonneg _ (by decide)
    have n2b : n2 < 2305843009213693951 := by rw [← e2]; exact Int.emod_lt_of_pos _ hp
    have sq : ((b2 + 1) ^ 2 : Int).natAbs < 2305843009213693952 := by
      have e : (b2 + 1) ^ 2 = (b2 + 1) * (b2 + 1) := by rw [Int.pow_succ, Int.pow_succ, Int.pow_zero, Int.one_mul]
      rw [e, Int.natAbs_mul]
      have : (b2 + 1).natAbs ≤ 1000001 := by omega
      have := Nat.mul_le_mul this this
      omega
    refine ⟨n2 ^ 3 % 2305843009213693951 / 13 % many, (b0, b1, b2 + 1), ?_, Int.emod_nonneg _ (by omega), Int.emod_lt_of_pos _ (by omega), ⟨by show 0 ≤ b2 + 1; omega, by show b2 + 1 ≤ N + 1; omega⟩⟩
    refine run_rt (δ1 := [.bg, .fr (.int many), .no, .fr (.int 2305843009213693951), .fr (.int n2)]) ?_
    show core_L_law_take [.bg, .fr (.int many), .no, .no, .no] (b0, b1, b2) = _
    unfold core_L_law_take
    rw [sq_nx ((if_f (β1 := (b0, b1, b2)) (by simp [tob, dOp, dBag, bagGet, dC, fGt, orF, fI0, h])).trans rfl)]
    rw [sq_nx (δ1 := [.bg, .fr (.int many), .no, .no, .no]) (β1 := (b0, b1, b2 + 1)) (by simp [sBagSet, dOp, dBag, bagGet, dC, fAdd_i, bagSet])]
    rw [sq_nx (set_of (d := .int 2305843009213693951) (β1 := (b0, b1, b2 + 1)) rfl)]
    rw [sq_nx (set_of (d := .int n1) (β1 := (b0, b1, b2 + 1)) (op_of (op_of rfl (op_of rfl rfl (fMul_i (by decide) (by show (b2 + 1).natAbs < _; omega))) (fAdd_i _ _)) rfl ((fMod_i hp).trans (by rw [e1]))))]
    rw [sq_nx (set_of (d := .int n2) (β1 := (b0, b1, b2 + 1)) (op_of (op_of (op_of (op_of rfl rfl (fMul_i (by omega) (by omega))) (op_of rfl (op_of rfl rfl (fPow_i (k := 2) (by show (b2 + 1).natAbs < _; omega) (by decide))) (fMul_i (by decide) sq)) (fAdd_i _ _)) rfl (fAdd_i _ _)) rfl ((fMod_i hp).trans (by rw [e2]))))]
    rw [sq_rt (ret_of (d := .int (n2 ^ 3 % 2305843009213693951 / 13 % many)) (β1 := (b0, b1, b2 + 1)) (op_of (op_of (op_of (op_of rfl rfl (fPow_i (k := 3) (by omega) (by decide))) rfl (fMod_i hp)) rfl (fDiv_i (by decide) (by decide))) rfl (fMod_i hm)))]
    rfl
theorem draw {i : Nat} {δ : Env} {e : FE} {many N : Int} {β β1 : Bag} (hb : δ[i]? = some .bg) (he : e δ β = some (.int many, β1)) (h1 : 1 ≤ many) (h2 : many ≤ 1000000) (hB : Bd N β1) (hN : N ≤ 1000000) :
    ∃ r β', dFnB u_L_law_take i (aCons e aNil) δ β = some (.int r, β') ∧ 0 ≤ r ∧ r < many ∧ Bd (N + 1) β' := by
  obtain ⟨r, β', e1, h3, h4, h5⟩ := take_ok h1 h2 hB hN
  exact ⟨r, β', fnB_of hb (aone_of he) rfl e1, h3, h4, h5⟩
theorem rises_pw : ∀ {xs : List Int}, xs.Pairwise (· < ·) → risesL xs = true
  | [], _ => rfl
  | [_], _ => rfl
  | a :: b :: r, h => by
    have ih := rises_pw (xs := b :: r) (List.pairwise_cons.mp h).2
    have hab := (List.pairwise_cons.mp h).1 b List.mem_cons_self
    unfold risesL at ih ⊢
    simp only [List.drop_succ_cons, List.drop_zero, List.zip_cons_cons, List.all_cons] at ih ⊢
    simp [hab]
    simpa using ih
theorem Bd.mono {a b : Int} {β : Bag} (h : Bd a β) (l : a ≤ b) : Bd b β := ⟨h.1, Int.le_trans h.2 l⟩
structure StInv (far : Int) (l : List (Int × Int)) (hour : Int) (n : Nat) : Prop where
  len : l.length = n
  h0 : 0 ≤ hour
  h1 : hour ≤ 2 + 51 * n
  lo : ∀ p ∈ l, 0 ≤ p.1
  hi : ∀ p ∈ l, p.1 + 1 ≤ p.2
  top : ∀ p ∈ l, p.2 ≤ p.1 + 1000 ∧ p.1 < hour
  up : (l.map (·.1)).Pairwise (· < ·)
theorem ix3 {far r : Int} (h1 : 0 ≤ r) (h2 : r < 3) : ∃ v, fIx (.list [.int far, .int 3, .int 9]) (.int r) = some (.int v) ∧ (v = far ∨ v = 3 ∨ v = 9) := by
  have : r = 0 ∨ r = 1 ∨ r = 2 := by omega
  rcases this with rfl | rfl | rfl
  · exact ⟨far, rfl, .inl rfl⟩
  · exact ⟨3, rfl, .inr (.inl rfl)⟩
  · exact ⟨9, rfl, .inr (.inr rfl)⟩
theorem ix2 {a b r : Int} (h1 : 0 ≤ r) (h2 : r < 2) : ∃ v, fIx (.list [.int a, .int b]) (.int r) = some (.int v) ∧ (v = a ∨ v = b) := by
  have : r = 0 ∨ r = 1 := by omega
  rcases this with rfl | rfl
  · exact ⟨a, rfl, .inl rfl⟩
  · exact ⟨b, rfl, .inr rfl⟩
theorem stays_ok {far : Int} (hf : far = 1000 ∨ far = 12) {N : Int} {β : Bag} (hb : Bd N β) (hN : N ≤ 900000) : ∃ l β', g_L_law_stays [.int 24, .int far] β = some (stD l, β') ∧ GoodSt l ∧ (∀ p ∈ l, p.2 ≤ 3000) ∧ Bd (N + 100) β' := by
  have f1 : 1 ≤ far := by omega
  have f2 : far ≤ 1000 := by omega
  obtain ⟨r0, β0, d0, r0a, r0b, bd0⟩ := draw (i := 0) (δ := [.bg, .fr (.int 24), .fr (.int far), .no, .no, .no]) (e := dC (.int 3)) (many := 3) (β := β) (β1 := β) rfl rfl (by decide) (by decide) hb (by omega)
  obtain ⟨r1, β1, d1, r1a, r1b, bd1⟩ := draw (i := 0) (δ := [.bg, .fr (.int 24), .fr (.int far), .ow (.list []), .fr (.int r0), .no]) (e := dVar 1) (many := 24) (β := β0) (β1 := β0) rfl rfl (by decide) (by decide) bd0 (by omega)
  have hr1 : (1 + r1).toNat ≤ 24 := by omega
  have hs : sRange1 (aCons (dOp fAdd (dC (.int 1)) (dFnB u_L_law_take 0 (aCons (dVar 1) aNil))) aNil) [.bg, .fr (.int 24), .fr (.int far), .ow (.list []), .fr (.int r0), .no] β0 = some ((rangeI 0 (1 + r1).toNat).map iD, β1) :=
    range1_of (aone_of (op_of rfl d1 (fAdd_i _ _))) (okR_sm (by omega) (by omega))
  have hlen : (rangeI 0 (1 + r1).toNat).length = (1 + r1).toNat := by unfold rangeI; simp
  obtain ⟨δ', β', e1, l, hour, x, rfl, inv, bd⟩ := sFor_pre (s := sRange1 (aCons (dOp fAdd (dC (.int 1)) (dFnB u_L_law_take 0 (aCons (dVar 1) aNil))) aNil)) (g := gNm 5) (B := sqS (sApp 3 (dTup (aCons (dVar 4) (aCons (dOp fAdd (dOp fAdd (dBor 4) (dC (.int 1))) (dFnB u_L_law_take 0 (aCons (dOp fIx (dFrz (aOk (aCons (dVar 2) (aCons (dC (.int 3)) (aCons (dC (.int 9)) aNil))))) (dFnB u_L_law_take 0 (aCons (dC (.int 3)) aNil))) aNil))) aNil))))
      (sqS (sSet 4 (dOp fAdd (dOp fAdd (dBor 4) (dC (.int 1))) (dFnB u_L_law_take 0 (aCons (dOp fIx (dFrz (aOk (aCons (dOp fAdd (dOp fDiv (dBor 2) (dC (.int 20))) (dC (.int 1))) (aCons (dC (.int 2)) aNil)))) (dFnB u_L_law_take 0 (aCons (dC (.int 2)) aNil))) aNil)))) sNx))
    iD (fun pre δ b => ∃ l hour x, δ = [.bg, .fr (.int 24), .fr (.int far), .ow (.list (l.map prD)), .fr (.int hour), x] ∧ StInv far l hour pre.length ∧ Bd (N + 2 + 4 * pre.length) b) (rangeI 0 (1 + r1).toNat) hs (by
      rintro p a q δ b hl ⟨l, hour, x, rfl, inv, bd⟩
      have hp : p.length < 24 := by
        have := congrArg List.length hl
        rw [hlen, List.length_append, List.length_cons] at this; omega
      obtain ⟨s1, γ1, t1, u1, u2, k1⟩ := draw (i := 0) (δ := [.bg, .fr (.int 24), .fr (.int far), .ow (.list (l.map prD)), .fr (.int hour), .fr (.int a)]) (e := dC (.int 3)) (many := 3) (β := b) (β1 := b) rfl rfl (by decide) (by decide) bd (by omega)
      obtain ⟨v1, y1, y2⟩ := ix3 (far := far) u1 u2
      have y3 : 1 ≤ v1 ∧ v1 ≤ 1000 := by omega
      obtain ⟨s2, γ2, t2, u3, u4, k2⟩ := draw (i := 0) (δ := [.bg, .fr (.int 24), .fr (.int far), .ow (.list (l.map prD)), .fr (.int hour), .fr (.int a)]) (e := dOp fIx (dFrz (aOk (aCons (dVar 2) (aCons (dC (.int 3)) (aCons (dC (.int 9)) aNil))))) (dFnB u_L_law_take 0 (aCons (dC (.int 3)) aNil))) (many := v1) (β := b) (β1 := γ1) rfl
        (op_of (frz_of (aok_of (ds := [.int far, .int 3, .int 9]) rfl rfl)) t1 y1) y3.1 (by omega) k1 (by omega)
      obtain ⟨s3, γ3, t3, u5, u6, k3⟩ := draw (i := 0) (δ := [.bg, .fr (.int 24), .fr (.int far), .ow (.list ((l ++ [(hour, hour + 1 + s2)]).map prD)), .fr (.int hour), .fr (.int a)]) (e := dC (.int 2)) (many := 2) (β := γ2) (β1 := γ2) rfl rfl (by decide) (by decide) k2 (by omega)
      obtain ⟨v2, z1, z2⟩ := ix2 (a := far / 20 + 1) (b := 2) u5 u6
      have z3 : 1 ≤ v2 ∧ v2 ≤ 51 := by omega
      obtain ⟨s4, γ4, t4, u7, u8, k4⟩ := draw (i := 0) (δ := [.bg, .fr (.int 24), .fr (.int far), .ow (.list ((l ++ [(hour, hour + 1 + s2)]).map prD)), .fr (.int hour), .fr (.int a)]) (e := dOp fIx (dFrz (aOk (aCons (dOp fAdd (dOp fDiv (dBor 2) (dC (.int 20))) (dC (.int 1))) (aCons (dC (.int 2)) aNil)))) (dFnB u_L_law_take 0 (aCons (dC (.int 2)) aNil))) (many := v2) (β := γ2) (β1 := γ3) rfl
        (op_of (frz_of (aok_of (ds := [.int (far / 20 + 1), .int 2]) (acons_of (op_of (op_of rfl rfl (fDiv_i (by decide) (by decide))) rfl (fAdd_i _ _)) rfl) rfl)) t3 z1) z3.1 (by omega) k3 (by omega)
      refine ⟨[.bg, .fr (.int 24), .fr (.int far), .ow (.list (l.map prD)), .fr (.int hour), .fr (.int a)], [.bg, .fr (.int 24), .fr (.int far), .ow (.list ((l ++ [(hour, hour + 1 + s2)]).map prD)), .fr (.int (hour + 1 + s4)), .fr (.int a)], γ4, rfl, ?_, l ++ [(hour, hour + 1 + s2)], hour + 1 + s4, _, rfl, ?_, ?_⟩
      · have A : sApp 3 (dTup (aCons (dVar 4) (aCons (dOp fAdd (dOp fAdd (dBor 4) (dC (.int 1))) (dFnB u_L_law_take 0 (aCons (dOp fIx (dFrz (aOk (aCons (dVar 2) (aCons (dC (.int 3)) (aCons (dC (.int 9)) aNil))))) (dFnB u_L_law_take 0 (aCons (dC (.int 3)) aNil))) aNil))) aNil))) [.bg, .fr (.int 24), .fr (.int far), .ow (.list (l.map prD)), .fr (.int hour), .fr (.int a)] b = some ([.bg, .fr (.int 24), .fr (.int far), .ow (.list ((l ++ [(hour, hour + 1 + s2)]).map prD)), .fr (.int hour), .fr (.int a)], γ2, .nx) := by
          have hv := tup_of (ds := [.int hour, .int (hour + 1 + s2)]) (acons_of (f := dVar 4) (δ := [.bg, .fr (.int 24), .fr (.int far), .ow (.list (l.map prD)), .fr (.int hour), .fr (.int a)]) (β := b) rfl (aone_of (op_of (op_of (f := dBor 4) (g := dC (.int 1)) rfl rfl (fAdd_i _ _)) t2 (fAdd_i _ _)))) rfl
          unfold sApp
          simp only [List.getElem?_cons_succ, List.getElem?_cons_zero]
          rw [hv]
          simp only [Option.bind_some]
          rw [if_pos ⟨rfl, by rw [List.length_map, inv.len]; omega⟩, List.map_append]
          rfl
        rw [sq_nx A, sq_nx (set_of (op_of (op_of (f := dBor 4) (g := dC (.int 1)) rfl rfl (fAdd_i _ _)) t4 (fAdd_i _ _)))]
        rfl
      · refine ⟨by rw [List.length_append, List.length_append, inv.len]; rfl, by have := inv.h0; omega, ?_, fun p hp => ?_, fun p hp => ?_, fun p hp => ?_, ?_⟩
        · have := inv.h1
          rw [List.length_append]
          simp only [List.length_cons, List.length_nil]
          omega
        · rcases List.mem_append.mp hp with h | h
          · exact inv.lo p h
          · rw [List.mem_singleton.mp h]; exact inv.h0
        · rcases List.mem_append.mp hp with h | h
          · exact inv.hi p h
          · rw [List.mem_singleton.mp h]; show hour + 1 ≤ hour + 1 + s2; omega
        · rcases List.mem_append.mp hp with h | h
          · have := inv.top p h; omega
          · rw [List.mem_singleton.mp h]; show hour + 1 + s2 ≤ hour + 1000 ∧ hour < hour + 1 + s4; omega
        · rw [List.map_append, List.pairwise_append]
          refine ⟨inv.up, by simp, fun a ha b hb => ?_⟩
          obtain ⟨p, hp, rfl⟩ := List.mem_map.mp ha
          have hb : b = hour := by simpa using hb
          rw [hb]; exact (inv.top p hp).2
      · refine k4.mono ?_
        rw [List.length_append]
        simp only [List.length_cons, List.length_nil]
        omega) ⟨[], r0, .no, rfl, ⟨rfl, r0a, by simp; omega, by simp, by simp, by simp, by simp⟩, bd1.mono (by simp; omega)⟩
  have hlen2 : l.length = (1 + r1).toNat := by rw [inv.len, hlen]
  refine ⟨l, β', ?_, ⟨by omega, by omega, inv.lo, inv.hi, fun p hp => ?_, rises_pw inv.up⟩, fun p hp => ?_, bd.mono ?_⟩
  · refine run_rt (δ1 := [.bg, .fr (.int 24), .fr (.int far), .ow (.list (l.map prD)), .fr (.int hour), x]) ?_
    show core_L_law_stays [.bg, .fr (.int 24), .fr (.int far), .no, .no, .no] β = _
    unfold core_L_law_stays
    have A : sPar2 3 4 (vL (aOk aNil)) (vFr (dFnB u_L_law_take 0 (aCons (dC (.int 3)) aNil))) [.bg, .fr (.int 24), .fr (.int far), .no, .no, .no] β = some ([.bg, .fr (.int 24), .fr (.int far), .ow (.list []), .fr (.int r0), .no], β0, .nx) := by
      unfold sPar2
      show ((vFr _ _ _).map _) = _
      unfold vFr
      rw [d0]; rfl
    rw [sq_nx A, sq_nx e1]
    rfl
  · have := inv.top p hp
    have := inv.h1
    rw [hlen] at this
    omega
  · have := inv.top p hp
    have := inv.h1
    rw [hlen] at this
    omega
  · rw [hlen]; omega
end
end PD
namespace PD
open PySem PySem.Spec L2
noncomputable section
theorem pegs_ok {l : List (Int × Int)} (g : GoodSt l) (β : Bag) : g_pegs [stD l] β = some (.tuple ((pegsOf l l).map iD), β) := by
  have h := g.len
  refine run_rt (δ1 := [.fr (stD l)]) ?_
  show core_pegs [.fr (stD l)] β = _
  unfold core_pegs
  rw [sq_nx ((if_f (tNot_of (tob_of (fn_of (x := u_are_stays) (aone_of rfl) rfl (are_stays_ok g (0, 0, 0)))))).trans rfl)]
  refine sq_rt (ret_of (call_of (aone_of (fn_of (x := u_pegs_so) (aone_of rfl) rfl (pegs_so_ok l (stD l) rfl (by omega) (0, 0, 0)))) rfl))
/-! ### the law's own pegs -/
theorem pairsD_zip (l : List (Int × Int)) : ∀ k, pairsD k (l.map prD) = (l.zipIdx k).map fun x => .tuple [.int (x.2 : Nat), prD x.1] := by
  induction l with
  | nil => intro k; rfl
  | cons a r ih => intro k; simp [pairsD, ih, List.zipIdx_cons]
theorem fNe_nil (ns : List Int) : fNe (.list (ns.map iD)) (.list []) = some (.bool (!ns.isEmpty)) := by
  unfold fNe okEq
  rw [shaped_ints]
  cases ns with
  | nil => rfl
  | cons a r => rfl
theorem fIx_list {ds : List D} {n : Nat} {d : D} (h : ds[n]? = some d) (hp : plainD d = true) : fIx (.list ds) (.int (n : Nat)) = some d := by
  unfold fIx orF fIxS
  have : atI ds (n : Nat) = some d := atI_nat h
  simp [this, hp]
theorem fIx_tup {ds : List D} {n : Nat} {d : D} (h : ds[n]? = some d) (hp : plainD d = true) : fIx (.tuple ds) (.int (n : Nat)) = some d := by
  unfold fIx orF fIxS
  have : atI ds (n : Nat) = some d := atI_nat h
  simp [this, hp]
theorem mem_heldAt {F : List Int} {l : List (Int × Int)} {c p : Int} : p ∈ heldAt F l c ↔ ∃ (i : Nat) (a : Int × Int), F[i]? = some p ∧ l[i]? = some a ∧ c < a.2 := by
  unfold heldAt
  rw [List.mem_map]
  constructor
  · rintro ⟨⟨q, a⟩, h1, rfl⟩
    obtain ⟨h2, h3⟩ := List.mem_filter.mp h1
    obtain ⟨i, hi⟩ := List.mem_iff_getElem?.mp h2
    rw [List.getElem?_zip_eq_some] at hi
    exact ⟨i, a, hi.1, hi.2, of_decide_eq_true h3⟩
  · rintro ⟨i, a, h1, h2, h3⟩
    refine ⟨(p, a), List.mem_filter.mpr ⟨List.mem_iff_getElem?.mpr ⟨i, ?_⟩, decide_eq_true h3⟩, rfl⟩
    rw [List.getElem?_zip_eq_some]
    exact ⟨h1, h2⟩
def envP (l : List (Int × Int)) (F : List Int) (k : Nat) (c g p : Int) (x : Sl) : Env := [.fr (stD l), .ow (.list (F.map iD)), .fr (.int (k : Nat)), .fr (.int c), .fr (.int g), .fr (.int p), x]
abbrev testP : FT := tob (dOp fNe (dFrz (lcF (sRange1 (aCons (dBor 2) aNil)) (gNm 6) (tAndF (tob (dOp fEq (dOp fIx (dBor 1) (dBor 6)) (dBor 5))) (tob (dOp fGt (dOp fIx (dOp fIx (dBor 0) (dBor 6)) (dC (.int 1))) (dBor 3)))) (dVar 6) [6])) (dFrz (aOk aNil)))
abbrev bodyP : SF := sqS (sSet 5 (dOp fAdd (dBor 5) (dC (.int 1)))) sNx
theorem fEq_int (a b : Int) : fEq (.int a) (.int b) = some (.bool (decide (a = b))) := by
  unfold fEq okEq
  rw [eqv_int]; rfl
theorem testP_ok (l : List (Int × Int)) (F : List Int) (c g p : Int) (x : Sl) (β : Bag) (hl : F.length ≤ l.length) (h1 : l.length ≤ 1000) : testP (envP l F F.length c g p x) β = some (decide (p ∈ heldAt F l c), β) := by
  have hF : ∀ i ∈ List.range F.length, ∃ q a, F[i]? = some q ∧ l[i]? = some a := fun i hi => by
    have := List.mem_range.mp hi
    exact ⟨F[i], l[i], List.getElem?_eq_getElem _, List.getElem?_eq_getElem _⟩
  have key := lcF_map (s := sRange1 (aCons (dBor 2) aNil)) (g := gNm 6) (t := tAndF (tob (dOp fEq (dOp fIx (dBor 1) (dBor 6)) (dBor 5))) (tob (dOp fGt (dOp fIx (dOp fIx (dBor 0) (dBor 6)) (dC (.int 1))) (dBor 3)))) (e := dVar 6) (vs := [6]) (δ := envP l F F.length c g p x) (β := β)
    (fun i : Nat => .int (i : Nat)) (fun i => envP l F F.length c g p (.fr (.int (i : Nat)))) (fun i => decide (F[i]? = some p) && (match l[i]? with | some a => decide (c < a.2) | none => false)) (fun i => iD (i : Nat)) (List.range F.length)
    (by
      rw [range1_of (a := aCons (dBor 2) aNil) (j := (F.length : Int)) (β1 := β) rfl (okR_sm (by omega) (by omega))]
      unfold rangeI
      rw [List.map_map, Int.toNat_natCast]
      refine congrArg (fun z => some (z, β)) (List.map_congr_left fun i _ => ?_)
      show PyData.int (0 + (i : Int)) = .int i
      rw [Int.zero_add])
    (by rw [List.length_range]; omega) (fun i _ => rfl)
    (fun i hi => by
      obtain ⟨q, a, e1, e2⟩ := hF i hi
      have e3 : fIx (.list (F.map iD)) (.int (i : Nat)) = some (.int q) := fIx_list (by rw [List.getElem?_map, e1]; rfl) rfl
      have e4 : fIx (stD l) (.int (i : Nat)) = some (prD a) := fIx_tup (by rw [List.getElem?_map, e2]; rfl) rfl
      have t1 : tob (dOp fEq (dOp fIx (dBor 1) (dBor 6)) (dBor 5)) (envP l F F.length c g p (.fr (.int (i : Nat)))) β = some (decide (q = p), β) := tob_of (op_of (op_of rfl rfl e3) rfl (fEq_int _ _))
      have t2 : tob (dOp fGt (dOp fIx (dOp fIx (dBor 0) (dBor 6)) (dC (.int 1))) (dBor 3)) (envP l F F.length c g p (.fr (.int (i : Nat)))) β = some (decide (c < a.2), β) := tob_of (op_of (op_of (op_of rfl rfl e4) rfl (fIx_1 _ _)) rfl rfl)
      rw [e1, e2]
      by_cases h : q = p
      · rw [tAnd_t (by rw [t1, decide_eq_true h]), t2]
        simp [h]
      · rw [tAnd_f (by rw [t1, decide_eq_false h])]
        simp [h])
    (fun i _ _ => ⟨rfl, rfl⟩)
  have key2 := tob_of (op_of (frz_of key) (frz_of (aok_of (a := aNil) (δ := envP l F F.length c g p x) (β := β) (ds := []) rfl rfl)) (by
    have := fNe_nil ((((List.range F.length).filter fun i => decide (F[i]? = some p) && (match l[i]? with | some a => decide (c < a.2) | none => false))).map fun i => ((i : Nat) : Int))
    rw [List.map_map] at this
    exact this))
  refine key2.trans ?_
  refine congrArg (fun z => some (z, β)) ?_
  rw [Bool.eq_iff_iff, decide_eq_true_eq, mem_heldAt]
  simp only [Bool.not_eq_true', List.isEmpty_eq_false_iff, ne_eq, List.map_eq_nil_iff, List.filter_eq_nil_iff, List.mem_range, Bool.and_eq_true, decide_eq_true_eq, Classical.not_forall, Classical.not_not]
  constructor
  · rintro ⟨i, hi, h2, h3⟩
    obtain ⟨q, a, e1, e2⟩ := hF i (List.mem_range.mpr hi)
    rw [e2] at h3
    exact ⟨i, a, h2, e2, of_decide_eq_true h3⟩
  · rintro ⟨i, a, e1, e2, e3⟩
    have hi := (List.getElem?_eq_some_iff.mp e1).1
    exact ⟨i, hi, e1, by rw [e2]; exact decide_eq_true e3⟩
theorem while_mex (l : List (Int × Int)) (F : List Int) (c g : Int) (x : Sl) (β : Bag) (hl : F.length ≤ l.length) (h1 : l.length ≤ 1000) : ∀ (n : Nat) (p : Int), mexGo n p (heldAt F l c) ∉ heldAt F l c → whileGo testP bodyP (n + 1) (envP l F F.length c g p x) β = some (envP l F F.length c g (mexGo n p (heldAt F l c)) x, β, .nx)
  | 0, p, h => while_stop ((testP_ok l F c g p x β hl h1).trans (by rw [decide_eq_false (show p ∉ heldAt F l c from h)]))
  | n + 1, p, h => by
    by_cases hp : p ∈ heldAt F l c
    · have e : mexGo (n + 1) p (heldAt F l c) = mexGo n (p + 1) (heldAt F l c) := by rw [mexGo, if_pos hp]
      rw [e] at h ⊢
      have hb : bodyP (envP l F F.length c g p x) β = some (envP l F F.length c g (p + 1) x, β, .nx) := by
        unfold bodyP
        rw [sq_nx (set_of (d := .int (p + 1)) (β1 := β) (op_of rfl rfl (fAdd_i _ _)))]
        rfl
      exact (while_step ((testP_ok l F c g p x β hl h1).trans (by rw [decide_eq_true hp])) hb).trans (while_mex l F c g x β hl h1 n (p + 1) h)
    · have e : mexGo (n + 1) p (heldAt F l c) = p := by rw [mexGo, if_neg hp]
      rw [e]
      exact while_stop ((testP_ok l F c g p x β hl h1).trans (by rw [decide_eq_false hp]))
theorem zip_pre {l : List (Int × Int)} {p q : List ((Int × Int) × Nat)} {a : (Int × Int) × Nat} (h : l.zipIdx = p ++ a :: q) : a.2 = p.length ∧ l = p.map (·.1) ++ a.1 :: q.map (·.1) := by
  constructor
  · have h1 : l.zipIdx[p.length]? = some a := by rw [h, List.getElem?_append_right (Nat.le_refl _)]; simp
    rw [List.getElem?_zipIdx] at h1
    obtain ⟨b, _, hb⟩ := Option.map_eq_some_iff.mp h1
    rw [← hb]; simp
  · have : (l.zipIdx).map (·.1) = l := by rw [List.zipIdx_map_fst]
    rw [← this, h]; simp
theorem lawpegs_ok (l : List (Int × Int)) (h1 : l.length ≤ 1000) (β : Bag) : g_L_law_pegs [stD l] β = some (.list ((pegsOf l l).map iD), β) := by
  have hs : sEnum (aCons (dVar 0) aNil) [.fr (stD l), .ow (.list []), .no, .no, .no, .no, .no] β = some (l.zipIdx.map fun x => .tuple [.int (x.2 : Nat), prD x.1], β) := by
    rw [← pairsD_zip]; rfl
  obtain ⟨δ', β', e1, ⟨x2, x3, x4, x5, x6, rfl⟩, rfl⟩ := sFor_pre (s := sEnum (aCons (dVar 0) aNil)) (g := gTp (gsCons (gNm 2) (gsCons (gTp (gsCons (gNm 3) (gsCons (gNm 4) gsNil)) 2) gsNil)) 2) (B := sqS (sSet 5 (dC (.int 1))) (sqS (sWhile testP bodyP) (sqS (sApp 1 (dVar 5)) sNx)))
    (fun x : (Int × Int) × Nat => .tuple [.int (x.2 : Nat), prD x.1]) (fun pre δ b => (∃ x2 x3 x4 x5 x6, δ = [.fr (stD l), .ow (.list ((pegsOf l (pre.map (·.1))).map iD)), x2, x3, x4, x5, x6]) ∧ b = β) l.zipIdx hs (by
      rintro p ⟨⟨c, g⟩, k⟩ q δ b hl ⟨⟨x2, x3, x4, x5, x6, rfl⟩, rfl⟩
      obtain ⟨hk, hl2⟩ := zip_pre hl
      simp only at hk hl2
      have hF : (pegsOf l (p.map (·.1))).length = k := by rw [pegsOf_len, List.length_map, hk]
      have hle : (pegsOf l (p.map (·.1))).length ≤ l.length := by
        have := congrArg List.length hl2
        rw [List.length_append, List.length_map] at this
        rw [hF, hk, this]; omega
      generalize hFe : pegsOf l (p.map (·.1)) = F at *
      subst hF
      refine ⟨[.fr (stD l), .ow (.list (F.map iD)), .fr (.int (F.length : Nat)), .fr (.int c), .fr (.int g), x5, x6], [.fr (stD l), .ow (.list ((pegsOf l ((p ++ [((c, g), F.length)]).map (·.1))).map iD)), .fr (.int (F.length : Nat)), .fr (.int c), .fr (.int g), .fr (.int (mex (heldAt F l c))), x6], b, rfl, ?_, ⟨_, _, _, _, _, rfl⟩, rfl⟩
      rw [sq_nx (set_of (d := .int 1) (β1 := b) rfl)]
      have hw := sWhile_of (while_mex l F c g x6 b hle h1 (heldAt F l c).length 1 (mex_is (heldAt F l c)).2.1)
      refine (sq_nx hw).trans ?_
      refine sq_nx ?_
      show sApp 1 (dVar 5) [.fr (stD l), .ow (.list (F.map iD)), .fr (.int (F.length : Nat)), .fr (.int c), .fr (.int g), .fr (.int (mex (heldAt F l c))), x6] b = _
      unfold sApp
      simp only [List.getElem?_cons_succ, List.getElem?_cons_zero, dVar, Option.bind_some]
      rw [if_pos ⟨rfl, by rw [List.length_map]; omega⟩, List.map_append, List.map_cons, List.map_nil, pegsOf_snoc, hFe, List.map_append]
      rfl) ⟨⟨_, _, _, _, _, rfl⟩, rfl⟩
  have e0 : l.zipIdx.map (·.1) = l := by rw [List.zipIdx_map_fst]
  rw [e0] at e1
  refine run_rt (δ1 := [.fr (stD l), .fr (.list ((pegsOf l l).map iD)), x2, x3, x4, x5, x6]) ?_
  show core_L_law_pegs [.fr (stD l), .no, .no, .no, .no, .no, .no] β' = _
  unfold core_L_law_pegs
  rw [sq_nx (setO_of (i := 1) (aok_of (ds := []) rfl rfl))]
  show sqS _ _ [.fr (stD l), .ow (.list []), .no, .no, .no, .no, .no] β' = _
  rw [sq_nx e1]
  rfl
/-! ### likeness of tuples of ints -/
theorem same_int (k : Nat) (a b : Int) (β : Bag) : g_L_law_same (k + 1) [.int a, .int b] β = some (.bool (decide (a = b)), β) := by
  refine run_rt (δ1 := [.fr (.int a), .fr (.int b), .no, .no]) ?_
  show core_L_law_same _ [.fr (.int a), .fr (.int b), .no, .no] β = _
  unfold core_L_law_same
  rw [sq_nx ((if_f (β1 := β) rfl).trans rfl), sq_nx ((if_f (β1 := β) rfl).trans rfl), sq_rt ((if_t (β1 := β) rfl).trans (sq_rt (ret_of ((and_t rfl).trans ((and_t rfl).trans (op_of rfl rfl (fEq_int _ _)))))))]
theorem zipD_same (xs : List Int) : zipD (xs.map iD) (xs.map iD) = xs.map fun x => .tuple [.int x, .int x] := by
  induction xs with
  | nil => rfl
  | cons x r ih => simp [zipD, ih]
theorem same_ints (k : Nat) (xs : List Int) (h : xs.length ≤ 1000) (β : Bag) : g_L_law_same (k + 2) [.tuple (xs.map iD), .tuple (xs.map iD)] β = some (.bool true, β) := by
  have hl : (xs.map iD).length = xs.length := List.length_map ..
  have key : lcF (sZip (aCons (dBor 0) (aCons (dBor 1) aNil))) (gTp (gsCons (gNm 2) (gsCons (gNm 3) gsNil)) 2) tTrue (dFn ⟨"_law_same", false, 2, g_L_law_same (k + 1)⟩ (aCons (dVar 2) (aCons (dVar 3) aNil))) [2, 3] [.fr (.tuple (xs.map iD)), .fr (.tuple (xs.map iD)), .no, .no] β = some ((xs.filter fun _ => true).map fun _ => .bool true, β) := by
    refine lcF_map (fun x => .tuple [.int x, .int x]) (fun x => [.fr (.tuple (xs.map iD)), .fr (.tuple (xs.map iD)), .fr (.int x), .fr (.int x)]) (fun _ => true) _ _ ?_ (by omega) ?_ ?_ ?_
    · rw [← zipD_same]; rfl
    · intro a _; rfl
    · intro a _; rfl
    · intro a _ _
      refine ⟨?_, rfl⟩
      have := same_int k a a (0, 0, 0)
      rw [decide_eq_true rfl] at this
      exact fn_of (x := ⟨"_law_same", false, 2, g_L_law_same (k + 1)⟩) (r := (.bool true, (0, 0, 0))) (acons_of rfl (aone_of rfl)) rfl this
  refine run_rt (δ1 := [.fr (.tuple (xs.map iD)), .fr (.tuple (xs.map iD)), .no, .no]) ?_
  show core_L_law_same _ [.fr (.tuple (xs.map iD)), .fr (.tuple (xs.map iD)), .no, .no] β = _
  unfold core_L_law_same
  refine sq_rt ((if_t (β1 := β) rfl).trans (sq_rt (ret_of ((and_t (β1 := β) ?_).trans (call_of (aone_of (frz_of key)) ?_)))))
  · refine op_of (d := .int (xs.map iD).length) (e := .int (xs.map iD).length) rfl rfl ?_
    rw [fEq_int]; simp
  · rw [filter_true, show (xs.map fun _ => PyData.bool true) = (xs.map fun _ => true).map PyData.bool by rw [List.map_map]; rfl]
    unfold fAll
    dsimp only
    rw [boolsOf_map]
    simp
end
end PD
namespace PD
open PySem PySem.Spec L2
noncomputable section
theorem all_of {α : Type} {s : FA} {g : FG} {e : FE} {vs : List Nat} {δ : Env} {β : Bag} (enc : α → D) (env : α → Env) (l : List α) (hs : s δ β = some (l.map enc, β)) (hl : l.length ≤ 16777216) (hg : ∀ a ∈ l, g (enc a) (wipeD δ vs) = some (env a)) (he : ∀ a ∈ l, e (env a) β = some (.bool true, β)) :
    dCall fAll (aCons (dFrz (lcF s g tTrue e vs)) aNil) δ β = some (.bool true, β) := by
  have key := lcF_map (t := tTrue) enc env (fun _ => true) (fun _ => PyData.bool true) l hs hl hg (fun _ _ => rfl) (fun a h _ => ⟨he a h, rfl⟩)
  refine call_of (aone_of (frz_of key)) ?_
  rw [filter_true, show (l.map fun _ => PyData.bool true) = (l.map fun _ => true).map PyData.bool by rw [List.map_map]; rfl]
  unfold fAll
  dsimp only
  rw [boolsOf_map]
  simp
abbrev bkD (close : Int) (rows : List (Int × Int)) : D := .tuple [.int close, stD rows]
structure GoodBk (close : Int) (rows : List (Int × Int)) : Prop where
  c1 : 1 ≤ close
  c2 : close ≤ 1000000
  pos : 1 ≤ rows.length
  len : rows.length ≤ 24
  lo : ∀ p ∈ rows, 0 ≤ p.1
  hi : ∀ p ∈ rows, p.1 ≤ close - 1
  up : risesL (rows.map (·.1)) = true
  p1 : ∀ p ∈ rows, 1 ≤ p.2
  p2 : ∀ p ∈ rows, p.2 ≤ 24
theorem within_t {x lo hi : Int} (h : lo ≤ x ∧ x ≤ hi) (β : Bag) : g_is_within [.int x, .int lo, .int hi] β = some (.bool true, β) := by
  rw [is_within_i, decide_eq_true h]
theorem is_book_ok {close : Int} {rows : List (Int × Int)} (h : GoodBk close rows) (β : Bag) : g_is_book [bkD close rows] β = some (.bool true, β) := by
  obtain ⟨c1, c2, h1, h2, h3, h4, h5, h6, h7⟩ := h
  have l1 : (1 : Int) ≤ (rows.length : Int) := by omega
  have l2 : (rows.length : Int) ≤ 24 := by omega
  have W : g_is_book_with [bkD close rows, .int 0] (0, 0, 0) = some (.bool true, (0, 0, 0)) := by
    refine run_rt (δ1 := [.fr (bkD close rows), .fr (.int 0), .fr (.int close), .fr (stD rows), .ow (.list ((rows.map (·.2)).map iD)), .no, .no]) ?_
    show core_is_book_with [.fr (bkD close rows), .fr (.int 0), .no, .no, .no, .no, .no] (0, 0, 0) = _
    unfold core_is_book_with
    rw [sq_nx ((if_f (β1 := (0, 0, 0)) ((tOr_f (tNot_of (b := true) (tob_of (fn_of (x := u_is_pair) (ds := [bkD close rows]) rfl rfl (is_pair_2 (.int close) (stD rows) (0, 0, 0)))))).trans ((tOr_f (tNot_of (b := true) (tob_of (fn_of (x := u_is_within) (ds := [.int close, .int 1, .int 1000000]) rfl rfl (within_t ⟨c1, c2⟩ (0, 0, 0)))))).trans (tNot_of (b := true) (tob_of (b := true) rfl))))).trans rfl)]
    rw [sq_nx (δ1 := [.fr (bkD close rows), .fr (.int 0), .fr (.int close), .fr (stD rows), .no, .no, .no]) (β1 := (0, 0, 0)) rfl]
    rw [sq_nx ((if_f (β1 := (0, 0, 0)) ((tOr_f (tNot_of (b := true) (tob_of (b := true) (β1 := (0, 0, 0)) (by simp [runD, startD, outD, sqS, sRet, sIf, sSet, sAsg, sExpr, sFrz, frz, frz1, sNx, dC, dVar, dBor, dOp, dChain, dAnd, dOr, dNot, dIf, tob, tNotF, tAndF, tOrF, dFn, aCons, aNil, aOk, dTup, dCall, dFrz, dFrzK, gNm, gTp, gsCons, gsNil, sSetO, sSetK, sSetV, sPar2, sPar3, vFr, vL, vK, dIsi, dIsis, isiD, orC, sNone, sSeq, sZip, sEnum, seqD, dSl, oSome, oNo, okLen, plainD, wipeD, kNil, fLt, fLe, fGt, fGe, fAdd, fSub, fI0, fI, orF, fLen, l1, l2])))).trans (tNot_of (b := true) (tob_of (pairs_all rows (0, 0, 0) _ 5 (by simp) (dBor 3) rfl (by omega)))))).trans rfl)]
    have k1 : dCall fAll (aCons (dFrz (lcF (sSeq (dBor 3)) (gNm 5) tTrue (dFn u_is_within (aCons (dOp fIx (dBor 5) (dC (.int 0))) (aCons (dC (.int 0)) (aCons (dOp fSub (dBor 2) (dC (.int 1))) aNil)))) [5])) aNil) [.fr (bkD close rows), .fr (.int 0), .fr (.int close), .fr (stD rows), .no, .no, .no] (0, 0, 0) = some (.bool true, (0, 0, 0)) :=
      all_of prD (fun p => [.fr (bkD close rows), .fr (.int 0), .fr (.int close), .fr (stD rows), .no, .fr (prD p), .no]) rows rfl (by omega) (fun _ _ => rfl) fun p hp => fn_of (x := u_is_within) (ds := [.int p.1, .int 0, .int (close - 1)]) rfl rfl (within_t ⟨h3 p hp, h4 p hp⟩ (0, 0, 0))
    have k2 : lcF (sSeq (dBor 3)) (gNm 5) tTrue (dOp fIx (dBor 5) (dC (.int 0))) [5] [.fr (bkD close rows), .fr (.int 0), .fr (.int close), .fr (stD rows), .no, .no, .no] (0, 0, 0) = some ((rows.filter fun _ => true).map fun p => .int p.1, (0, 0, 0)) :=
      lcF_map prD (fun p => [.fr (bkD close rows), .fr (.int 0), .fr (.int close), .fr (stD rows), .no, .fr (prD p), .no]) (fun _ => true) _ rows rfl (by omega) (fun _ _ => rfl) (fun _ _ => rfl) (fun _ _ _ => ⟨rfl, rfl⟩)
    have k3 : g_rises [.list ((rows.filter fun _ => true).map fun p => PyData.int p.1)] (0, 0, 0) = some (.bool true, (0, 0, 0)) := by
      have := rises_i (rows.map (·.1)) (by rw [List.length_map]; omega) (0, 0, 0)
      rw [h5, List.map_map] at this
      rw [filter_true]
      exact this
    rw [sq_nx ((if_f (β1 := (0, 0, 0)) ((tOr_f (tNot_of (b := true) (tob_of k1))).trans (tNot_of (b := true) (tob_of (fn_of (x := u_rises) (aone_of (frz_of k2)) rfl k3))))).trans rfl)]
    have k4 : lcF (sSeq (dBor 3)) (gNm 5) (tob (dOp fIsN (dOp fIx (dBor 5) (dC (.int 1))) (dC .none))) (dOp fIx (dBor 5) (dC (.int 1))) [5] [.fr (bkD close rows), .fr (.int 0), .fr (.int close), .fr (stD rows), .no, .no, .no] (0, 0, 0) = some ((rows.map (·.2)).map iD, (0, 0, 0)) := by
      have := lcF_map (s := sSeq (dBor 3)) (g := gNm 5) (t := tob (dOp fIsN (dOp fIx (dBor 5) (dC (.int 1))) (dC .none))) (e := dOp fIx (dBor 5) (dC (.int 1))) (vs := [5]) (δ := [.fr (bkD close rows), .fr (.int 0), .fr (.int close), .fr (stD rows), .no, .no, .no]) (β := (0, 0, 0)) prD (fun p => [.fr (bkD close rows), .fr (.int 0), .fr (.int close), .fr (stD rows), .no, .fr (prD p), .no]) (fun _ => true) (fun p => iD p.2) rows rfl (by omega) (fun _ _ => rfl) (fun _ _ => rfl) (fun _ _ _ => ⟨rfl, rfl⟩)
      rw [filter_true] at this
      rw [List.map_map]; exact this
    rw [sq_nx (setO_of k4)]
    have k5 : dCall fAll (aCons (dFrz (lcF (sSeq (dBor 4)) (gNm 6) tTrue (dFn u_is_within (aCons (dVar 6) (aCons (dC (.int 1)) (aCons (dC (.int 24)) aNil)))) [6])) aNil) [.fr (bkD close rows), .fr (.int 0), .fr (.int close), .fr (stD rows), .ow (.list ((rows.map (·.2)).map iD)), .no, .no] (0, 0, 0) = some (.bool true, (0, 0, 0)) :=
      all_of iD (fun p => [.fr (bkD close rows), .fr (.int 0), .fr (.int close), .fr (stD rows), .ow (.list ((rows.map (·.2)).map iD)), .no, .fr (.int p)]) (rows.map (·.2)) rfl (by rw [List.length_map]; omega) (fun _ _ => rfl) fun p hp => by
        obtain ⟨q, hq, rfl⟩ := List.mem_map.mp hp
        exact fn_of (x := u_is_within) (ds := [.int q.2, .int 1, .int 24]) rfl rfl (within_t ⟨h6 q hq, h7 q hq⟩ (0, 0, 0))
    refine sq_rt (ret_of ((and_t (β1 := (0, 0, 0)) ?_).trans k5))
    have e1 : ((rows.map prD).length : Int) - (((rows.map (·.2)).map iD).length : Int) = 0 := by simp
    show dOp fLe (dOp fSub (dCall fLen (aCons (dBor 3) aNil)) (dCall fLen (aCons (dBor 4) aNil))) (dBor 1) _ _ = _
    refine op_of (d := .int (((rows.map prD).length : Int) - (((rows.map (·.2)).map iD).length : Int))) (e := .int 0) rfl rfl ?_
    rw [e1]; rfl
  exact run_rt (δ1 := [.fr (bkD close rows)]) (sq_rt (ret_of (fn_of (x := u_is_book_with) rfl rfl W)))
theorem are_sights_nil (close : Int) (β : Bag) : g_are_sights [.int close, .tuple []] β = some (.bool true, β) := rfl
theorem look_at_ok {close : Int} {rows : List (Int × Int)} (h : GoodBk close rows) (β : Bag) : g_look_at [bkD close rows, .tuple []] β = some (.none, β) := by
  have e : core_look_at [.fr (bkD close rows), .fr (.tuple [])] β = some ([.fr (bkD close rows), .fr (.tuple [])], β, .nx) := by
    unfold core_look_at
    rw [sq_nx ((if_f (β1 := β) (tNot_of (b := true) (tob_of (fn_of (x := u_is_book) (aone_of rfl) rfl (is_book_ok h (0, 0, 0)))))).trans rfl)]
    rw [sq_nx ((if_f (β1 := β) (tNot_of (b := true) (tob_of (fn_of (x := u_are_sights) (ds := [.int close, .tuple []]) rfl rfl (are_sights_nil close (0, 0, 0)))))).trans rfl)]
    rfl
  show (core_look_at [.fr (bkD close rows), .fr (.tuple [])] β).bind outD = _
  rw [e]; rfl
/-- pegs of which each is at most one above all before -/
def Climbs (ps : List Int) : Prop := ∀ pre a q, ps = pre ++ a :: q → 1 ≤ a ∧ (2 ≤ a → a - 1 ∈ pre)
theorem pegs_can_be_ok {ps : List Int} (h : Climbs ps) (β : Bag) : g_pegs_can_be [.list (ps.map iD)] β = some (.bool true, β) := by
  obtain ⟨δ', β', e1, most, x, rfl, hm, h0, rfl⟩ := sFor_pre (s := sSeq (dVar 0)) (g := gNm 2) (B := sqS (sIf (tob (dOp fGt (dBor 2) (dOp fAdd (dBor 1) (dC (.int 1))))) (sqS (sRet (dC (.bool false))) sNx) sNx) (sqS (sSet 1 (dCall fMax (aCons (dBor 1) (aCons (dBor 2) aNil)))) sNx))
    iD (fun pre δ b => ∃ (most : Int) (x : Sl), δ = [.fr (.list (ps.map iD)), .fr (.int most), x] ∧ (∀ p ∈ pre, p ≤ most) ∧ 0 ≤ most ∧ b = β) ps (δ := [.fr (.list (ps.map iD)), .fr (.int 0), .no]) (β := β) (β1 := β) rfl (by
      rintro p a q δ b hl ⟨most, x, rfl, hm, h0, rfl⟩
      obtain ⟨a1, a2⟩ := h p a q hl
      have hle : a ≤ most + 1 := by
        by_cases h2 : 2 ≤ a
        · have := hm _ (a2 h2); omega
        · omega
      refine ⟨[.fr (.list (ps.map iD)), .fr (.int most), .fr (.int a)], [.fr (.list (ps.map iD)), .fr (.int (if a > most then a else most)), .fr (.int a)], b, rfl, ?_, _, _, rfl, fun z hz => ?_, by split <;> omega, rfl⟩
      · rw [sq_nx ((if_f (β1 := b) (tob_of (op_of (d := .int a) (e := .int (most + 1)) rfl rfl (show fGt (.int a) (.int (most + 1)) = some (.bool false) by
          show some (PyData.bool (decide (most + 1 < a))) = _
          rw [decide_eq_false (by omega)])))).trans rfl)]
        rw [sq_nx (set_of (call_of (ds := [.int most, .int a]) rfl (fMax_two _ _)))]
        rfl
      · rcases List.mem_append.mp hz with z1 | z1
        · have := hm z z1; split <;> omega
        · rw [List.mem_singleton.mp z1]; split <;> omega) ⟨0, .no, rfl, by simp, Int.le_refl _, rfl⟩
  refine run_rt (δ1 := [.fr (.list (ps.map iD)), .fr (.int most), x]) ?_
  show core_pegs_can_be [.fr (.list (ps.map iD)), .no, .no] β' = _
  unfold core_pegs_can_be
  rw [sq_nx (set_of (d := .int 0) (β1 := β') rfl)]
  show sqS _ _ [.fr (.list (ps.map iD)), .fr (.int 0), .no] β' = _
  rw [sq_nx e1]
  rfl
theorem can_be_ok {close : Int} {rows : List (Int × Int)} (h : GoodBk close rows) (hc : Climbs (rows.map (·.2))) (β : Bag) : g_can_be [bkD close rows] β = some (.bool true, β) := by
  have hl := h.len
  refine run_rt (δ1 := [.fr (bkD close rows), .no]) ?_
  show core_can_be [.fr (bkD close rows), .no] β = _
  unfold core_can_be
  rw [sq_nx ((if_f (β1 := β) (tNot_of (b := true) (tob_of (fn_of (x := u_is_book) (aone_of rfl) rfl (is_book_ok h (0, 0, 0)))))).trans rfl)]
  have k := lcF_map (s := sSeq (dOp fIx (dBor 0) (dC (.int 1)))) (g := gNm 1) (t := tTrue) (e := dOp fIx (dBor 1) (dC (.int 1))) (vs := [1]) (δ := [.fr (bkD close rows), .no]) (β := β) prD (fun p => [.fr (bkD close rows), .fr (prD p)]) (fun _ => true) (fun p => iD p.2) rows rfl (by omega) (fun _ _ => rfl) (fun _ _ => rfl) (fun _ _ _ => ⟨rfl, rfl⟩)
  rw [filter_true] at k
  refine sq_rt (ret_of (fn_of (x := u_pegs_can_be) (r := (.bool true, (0, 0, 0))) (aone_of (frz_of k)) rfl ?_))
  have := pegs_can_be_ok hc (0, 0, 0)
  rw [List.map_map] at this
  exact this
end
end PD
namespace PD
open PySem PySem.Spec L2
noncomputable section
/-! ### the mathematics of pegs -/
theorem pegs_app (l : List (Int × Int)) : ∀ (q p : List (Int × Int)), ∃ e, pegsOf l (p ++ q) = pegsOf l p ++ e ∧ e.length = q.length
  | [], p => ⟨[], by simp, rfl⟩
  | a :: q, p => by
    obtain ⟨e, h1, h2⟩ := pegs_app l q (p ++ [a])
    rw [pegsOf_snoc] at h1
    exact ⟨mex (heldAt (pegsOf l p) l a.1) :: e, by rw [← List.append_cons] at h1; rw [h1, List.append_assoc]; rfl, by simp [h2]⟩
theorem pegs_split {l : List (Int × Int)} {pre q : List Int} {a : Int} (h : pegsOf l l = pre ++ a :: q) : ∃ c g, l[pre.length]? = some (c, g) ∧ a = mex (heldAt pre l c) ∧ pre = pegsOf l (l.take pre.length) := by
  have hl := congrArg List.length h
  rw [pegsOf_len, List.length_append, List.length_cons] at hl
  have hn : pre.length < l.length := by omega
  have e : l = l.take pre.length ++ l[pre.length] :: l.drop (pre.length + 1) := by
    rw [← List.drop_eq_getElem_cons hn, List.take_append_drop]
  obtain ⟨e1, h1, _⟩ := pegs_app l (l.drop (pre.length + 1)) (l.take pre.length ++ [l[pre.length]])
  rw [← List.append_cons, ← e, pegsOf_snoc, h, List.append_assoc] at h1
  have hlen : (pegsOf l (l.take pre.length)).length = pre.length := by rw [pegsOf_len, List.length_take]; omega
  obtain ⟨h2, h3⟩ := List.append_inj h1 hlen.symm
  have h4 : a = _ := (List.cons.inj h3).1
  refine ⟨(l[pre.length]).1, (l[pre.length]).2, List.getElem?_eq_getElem hn, ?_, h2⟩
  rw [h4, ← h2]
theorem climbs_pegs (l : List (Int × Int)) : Climbs (pegsOf l l) := fun pre a q h => by
  obtain ⟨c, g, h1, h2, _⟩ := pegs_split h
  obtain ⟨m1, m2, m3⟩ := mex_is (heldAt pre l c)
  rw [← h2] at m1 m2 m3
  refine ⟨m1, fun h3 => ?_⟩
  obtain ⟨i, b, hi, _, _⟩ := mem_heldAt.mp (m3 (a - 1) (by omega) (by omega))
  exact List.mem_of_getElem? hi
theorem pegs_le (l : List (Int × Int)) : ∀ x ∈ pegsOf l l, 1 ≤ x ∧ x ≤ l.length := fun x hx => by
  obtain ⟨pre, q, h⟩ := List.append_of_mem hx
  obtain ⟨c, g, h1, h2, _⟩ := pegs_split h
  have h3 := mex_le (heldAt pre l c)
  have h4 := heldAt_len pre l c
  have h5 := (List.getElem?_eq_some_iff.mp h1).1
  have h6 := (climbs_pegs l pre x q h).1
  rw [← h2] at h3
  omega
theorem heldAt_congr {F : List Int} {l l' : List (Int × Int)} (c : Int) (h : l.take F.length = l'.take F.length) : heldAt F l c = heldAt F l' c := by
  have e : ∀ (F : List Int) (m : List (Int × Int)), F.zip m = F.zip (m.take F.length) := by
    intro F
    induction F with
    | nil => intro m; rfl
    | cons a r ih => intro m; cases m with
      | nil => rfl
      | cons b s => simp [ih s]
  unfold heldAt
  rw [e F l, e F l', h]
theorem pegs_congr {l l' : List (Int × Int)} : ∀ (n : Nat) (p : List (Int × Int)), p.length = n → l.take (n - 1) = l'.take (n - 1) → pegsOf l p = pegsOf l' p := by
  intro n
  induction n with
  | zero => intro p hp _; rw [List.length_eq_zero_iff.mp hp]; rfl
  | succ n ih =>
    intro p hp ht
    have hne : p ≠ [] := fun e => by rw [e] at hp; cases hp
    rw [← List.dropLast_concat_getLast hne, pegsOf_snoc, pegsOf_snoc]
    have hd : p.dropLast.length = n := by rw [List.length_dropLast]; omega
    have ht' : l.take n = l'.take n := by simpa using ht
    have e1 := ih p.dropLast hd (by
      have := congrArg (List.take (n - 1)) ht'
      rw [List.take_take, List.take_take] at this
      rw [show min (n - 1) n = n - 1 by omega] at this; exact this)
    rw [e1, heldAt_congr (l := l) (l' := l') _ (by rw [pegsOf_len, hd]; exact ht')]
theorem pegs_longer (init : List (Int × Int)) (c g g' : Int) : pegsOf (init ++ [(c, g')]) (init ++ [(c, g')]) = pegsOf (init ++ [(c, g)]) (init ++ [(c, g)]) := by
  have ht : (init ++ [(c, g')]).take init.length = (init ++ [(c, g)]).take init.length := by simp
  rw [pegsOf_snoc, pegsOf_snoc]
  have e : pegsOf (init ++ [(c, g')]) init = pegsOf (init ++ [(c, g)]) init := pegs_congr init.length init rfl (by
    have := congrArg (List.take (init.length - 1)) ht
    rw [List.take_take, List.take_take, show min (init.length - 1) init.length = init.length - 1 by omega] at this
    exact this)
  rw [e, heldAt_congr (l := init ++ [(c, g')]) (l' := init ++ [(c, g)]) _ (by rw [pegsOf_len]; exact ht)]
theorem nodup_len : ∀ (xs ys : List Int), xs.Nodup → (∀ x ∈ xs, x ∈ ys) → xs.length ≤ ys.length
  | [], ys, _, _ => Nat.zero_le _
  | x :: r, ys, h, hs => by
    have hx := hs x List.mem_cons_self
    obtain ⟨h1, h2⟩ := List.nodup_cons.mp h
    have := nodup_len r (ys.erase x) h2 (fun y hy => (List.mem_erase_of_ne (fun e => h1 (by rw [← e]; exact hy))).mpr (hs y (List.mem_cons_of_mem _ hy)))
    rw [List.length_erase_of_mem hx] at this
    have hp : 0 < ys.length := List.length_pos_of_mem hx
    rw [List.length_cons]; omega
theorem rangeI_nodup (lo : Int) (n : Nat) : (rangeI lo n).Nodup := by
  unfold rangeI
  refine List.pairwise_map.mpr (List.Pairwise.imp ?_ List.nodup_range)
  intro a b h e
  exact h (by omega)
def cnt (l : List (Int × Int)) (h : Int) : Nat := (l.filter fun p => decide (p.1 ≤ h) && decide (h < p.2)).length
structure Up (l : List (Int × Int)) : Prop where
  up : (l.map (·.1)).Pairwise (· < ·)
  hi : ∀ p ∈ l, p.1 < p.2
/-- at the i-th coming there hang those that are held and the newcomer -/
theorem cnt_at {l : List (Int × Int)} (u : Up l) {pre q : List Int} {a : Int} {c g : Int} (h : pegsOf l l = pre ++ a :: q) (hi : l[pre.length]? = some (c, g)) : cnt l c = (heldAt pre l c).length + 1 := by
  have hn := (List.getElem?_eq_some_iff.mp hi).1
  have he := (List.getElem?_eq_some_iff.mp hi).2
  have e : l = l.take pre.length ++ (c, g) :: l.drop (pre.length + 1) := by
    have := List.take_append_drop pre.length l
    rw [List.drop_eq_getElem_cons hn, he] at this; exact this.symm
  have hu := u.up
  rw [e, List.map_append, List.map_cons, List.pairwise_append] at hu
  obtain ⟨_, u2, u3⟩ := hu
  have u4 := (List.pairwise_cons.mp u2).1
  have hc : c < g := u.hi (c, g) (List.mem_of_getElem? hi)
  have f2 : (l.drop (pre.length + 1)).filter (fun p => decide (p.1 ≤ c) && decide (c < p.2)) = [] := by
    rw [List.filter_eq_nil_iff]
    intro p hp
    have := u4 p.1 (List.mem_map_of_mem hp)
    simp; omega
  have f1 : ((l.take pre.length).filter fun p => decide (p.1 ≤ c) && decide (c < p.2)) = (l.take pre.length).filter fun p => decide (c < p.2) := by
    refine List.filter_congr fun p hp => ?_
    have := u3 p.1 (List.mem_map_of_mem hp) c (List.mem_map.mpr ⟨(c, g), List.mem_cons_self, rfl⟩)
    simp; omega
  have f3 : (heldAt pre l c).length = ((l.take pre.length).filter fun p => decide (c < p.2)).length := by
    have z : ∀ (F : List Int) (m : List (Int × Int)), F.length ≤ m.length → ((F.zip m).filter fun x => decide (c < x.2.2)).length = ((m.take F.length).filter fun p => decide (c < p.2)).length := by
      intro F
      induction F with
      | nil => intro m _; rfl
      | cons x r ih => intro m hm; cases m with
        | nil => cases hm
        | cons b s =>
          have := ih s (by simpa using hm)
          simp only [List.zip_cons_cons, List.length_cons, List.take_succ_cons, List.filter_cons]
          split <;> simp [this]
    unfold heldAt
    rw [List.length_map, z pre l (Nat.le_of_lt hn)]
  unfold cnt
  rw [f3, ← f1]
  conv => lhs; rw [e]
  rw [List.filter_append, List.filter_cons_of_pos (by simp; omega), f2, List.length_append]
  rfl
/-- held pegs differ -/
theorem held_nodup {l : List (Int × Int)} (u : Up l) {pre q : List Int} {a : Int} {c g : Int} (h : pegsOf l l = pre ++ a :: q) (hi : l[pre.length]? = some (c, g)) : (heldAt pre l c).Nodup := by
  have hn := (List.getElem?_eq_some_iff.mp hi).1
  have mono : ∀ (i j : Nat) (x y : Int × Int), i < j → l[i]? = some x → l[j]? = some y → x.1 < y.1 := by
    intro i j x y hij hx hy
    have hi' := (List.getElem?_eq_some_iff.mp hx).1
    have hj' := (List.getElem?_eq_some_iff.mp hy).1
    have := (List.pairwise_iff_getElem.mp u.up) i j (by simpa using hi') (by simpa using hj') hij
    rw [List.getElem_map, List.getElem_map, (List.getElem?_eq_some_iff.mp hx).2, (List.getElem?_eq_some_iff.mp hy).2] at this
    exact this
  have key : ∀ (i j : Nat) (p : Int) (x y : Int × Int), i < j → pre[i]? = some p → pre[j]? = some p → l[i]? = some x → l[j]? = some y → c < x.2 → False := by
    intro i j p x y hij hp1 hp2 hx hy hc
    have hj := (List.getElem?_eq_some_iff.mp hp2).1
    have e : pre = pre.take j ++ p :: pre.drop (j + 1) := by
      have := List.take_append_drop j pre
      rw [List.drop_eq_getElem_cons hj, (List.getElem?_eq_some_iff.mp hp2).2] at this; exact this.symm
    have h' : pegsOf l l = pre.take j ++ p :: (pre.drop (j + 1) ++ a :: q) := by
      rw [h]
      conv => lhs; rw [e]
      rw [List.append_assoc]; rfl
    obtain ⟨c', g', h1, h2, _⟩ := pegs_split h'
    have hlj : (pre.take j).length = j := by rw [List.length_take]; omega
    rw [hlj, hy] at h1
    have ey : y = (c', g') := Option.some.inj h1
    have hcy : c' < c := by
      have := mono j pre.length y (c, g) hj hy hi
      rw [ey] at this; exact this
    have hm : p ∈ heldAt (pre.take j) l c' := mem_heldAt.mpr ⟨i, x, by rw [List.getElem?_take_of_lt hij]; exact hp1, hx, by omega⟩
    exact (mex_is (heldAt (pre.take j) l c')).2.1 (h2 ▸ hm)
  unfold heldAt
  refine List.pairwise_map.mpr ?_
  rw [List.pairwise_filter]
  refine List.pairwise_iff_getElem.mpr fun i j hi' hj' hij hx hy => ?_
  rw [List.length_zip] at hi' hj'
  have zi : (pre.zip l)[i]? = some (pre.zip l)[i] := List.getElem?_eq_getElem _
  have zj : (pre.zip l)[j]? = some (pre.zip l)[j] := List.getElem?_eq_getElem _
  obtain ⟨a1, a2⟩ := (List.getElem?_zip_eq_some).mp zi
  obtain ⟨b1, b2⟩ := (List.getElem?_zip_eq_some).mp zj
  intro ee
  rw [ee] at a1
  exact key i j _ _ _ hij a1 b1 a2 b2 (of_decide_eq_true hx)
end
end PD
namespace PD
open PySem PySem.Spec L2
noncomputable section
theorem at_i {l : List (Int × Int)} {p : Int × Int} (hp : p ∈ l) : ∃ pre a q, pegsOf l l = pre ++ a :: q ∧ l[pre.length]? = some p := by
  obtain ⟨i, hi⟩ := List.mem_iff_getElem?.mp hp
  have hn := (List.getElem?_eq_some_iff.mp hi).1
  have hn2 : i < (pegsOf l l).length := by rw [pegsOf_len]; exact hn
  refine ⟨(pegsOf l l).take i, (pegsOf l l)[i], (pegsOf l l).drop (i + 1), ?_, ?_⟩
  · rw [← List.drop_eq_getElem_cons hn2, List.take_append_drop]
  · rw [List.length_take, show min i (pegsOf l l).length = i by omega]; exact hi
theorem cnt_le {l : List (Int × Int)} (u : Up l) {M : Int} (hM : ∀ x ∈ pegsOf l l, x ≤ M) {p : Int × Int} (hp : p ∈ l) : (cnt l p.1 : Int) ≤ M := by
  obtain ⟨pre, a, q, h, hi⟩ := at_i hp
  rw [cnt_at u h (c := p.1) (g := p.2) hi]
  have nd := held_nodup u h (c := p.1) (g := p.2) hi
  obtain ⟨c, g, h1, h2, _⟩ := pegs_split h
  rw [hi] at h1
  have e : p = (c, g) := Option.some.inj h1
  have ec : p.1 = c := by rw [e]
  have hmem : ∀ x ∈ a :: heldAt pre l p.1, x ∈ pegsOf l l := by
    intro x hx
    rcases List.mem_cons.mp hx with e | e
    · rw [e, h]; simp
    · obtain ⟨i, b, hb, _⟩ := mem_heldAt.mp e
      rw [h]; exact List.mem_append_left _ (List.mem_of_getElem? hb)
  have ha := (pegs_le l a (by rw [h]; simp)).1
  have hMa := hM a (by rw [h]; simp)
  have := nodup_len (a :: heldAt pre l p.1) (rangeI 1 M.toNat) (List.nodup_cons.mpr ⟨by rw [ec, h2]; exact (mex_is _).2.1, nd⟩) fun x hx => by
    have h3 := hmem x hx
    have h4 := (pegs_le l x h3).1
    have h5 := hM x h3
    exact mem_rangeI.mpr (by omega)
  rw [show (rangeI 1 M.toNat).length = M.toNat by unfold rangeI; simp, List.length_cons] at this
  omega
theorem cnt_ge {l : List (Int × Int)} (u : Up l) {x : Int} (hx : x ∈ pegsOf l l) : ∃ p ∈ l, x ≤ (cnt l p.1 : Int) := by
  obtain ⟨pre, q, h⟩ := List.append_of_mem hx
  obtain ⟨c, g, h1, h2, _⟩ := pegs_split h
  refine ⟨(c, g), List.mem_of_getElem? h1, ?_⟩
  rw [cnt_at u h h1]
  have hx1 := (pegs_le l x hx).1
  have := nodup_len (rangeI 1 (x - 1).toNat) (heldAt pre l c) (rangeI_nodup _ _) fun y hy => by
    have := mem_rangeI.mp hy
    exact (mex_is (heldAt pre l c)).2.2 y this.1 (by rw [← h2]; omega)
  rw [show (rangeI 1 (x - 1).toNat).length = (x - 1).toNat by unfold rangeI; simp] at this
  omega
def fullGo (l : List (Int × Int)) (f : Int) (a : Int × Int) : Int := if (cnt l a.1 : Int) > f then cnt l a.1 else f
theorem full_ge (l : List (Int × Int)) : ∀ (q : List (Int × Int)) (f : Int), f ≤ q.foldl (fullGo l) f ∧ ∀ p ∈ q, (cnt l p.1 : Int) ≤ q.foldl (fullGo l) f
  | [], f => ⟨Int.le_refl _, fun p h => by cases h⟩
  | a :: r, f => by
    rw [List.foldl_cons]
    obtain ⟨h1, h2⟩ := full_ge l r (fullGo l f a)
    have h3 : f ≤ fullGo l f a ∧ (cnt l a.1 : Int) ≤ fullGo l f a := by unfold fullGo; split <;> omega
    refine ⟨by omega, fun p hp => ?_⟩
    rcases List.mem_cons.mp hp with e | e
    · rw [e]; omega
    · exact h2 p e
theorem full_le (l : List (Int × Int)) (M : Int) : ∀ (q : List (Int × Int)) (f : Int), f ≤ M → (∀ p ∈ q, (cnt l p.1 : Int) ≤ M) → q.foldl (fullGo l) f ≤ M
  | [], f, h, _ => h
  | a :: r, f, h, hq => by
    rw [List.foldl_cons]
    refine full_le l M r _ ?_ fun p hp => hq p (List.mem_cons_of_mem _ hp)
    have := hq a List.mem_cons_self
    unfold fullGo; split <;> omega
theorem full_eq {l : List (Int × Int)} (u : Up l) {n : Int} {ns : List Int} (h : pegsOf l l = n :: ns) : l.foldl (fullGo l) 0 = ns.foldl max n := by
  obtain ⟨m1, m2⟩ := foldl_max_ge ns n
  have hM : ∀ x ∈ pegsOf l l, x ≤ ns.foldl max n := fun x hx => by
    rw [h] at hx
    rcases List.mem_cons.mp hx with e | e
    · rw [e]; exact m1
    · exact m2 x e
  have hmem : ns.foldl max n ∈ pegsOf l l := by
    rw [h]
    rcases foldl_max_mem ns n with e | e
    · rw [e]; exact List.mem_cons_self
    · exact List.mem_cons_of_mem _ e
  have h0 := (pegs_le l _ hmem).1
  obtain ⟨p, hp, h1⟩ := cnt_ge u hmem
  have h2 := (full_ge l l 0).2 p hp
  have h3 := full_le l _ l 0 (by omega) fun p hp => cnt_le u hM hp
  omega
/-! ### books of stays -/
def rowsOf (l : List (Int × Int)) (ps : List Int) : List (Int × Int) := (l.zip ps).map fun x => (x.1.1, x.2)
theorem rows_len {l : List (Int × Int)} {ps : List Int} (h : ps.length = l.length) : (rowsOf l ps).length = l.length := by
  unfold rowsOf; rw [List.length_map, List.length_zip, h]; omega
theorem rows_fst : ∀ {l : List (Int × Int)} {ps : List Int}, ps.length = l.length → (rowsOf l ps).map (·.1) = l.map (·.1)
  | [], _, _ => rfl
  | a :: r, [], h => by cases h
  | a :: r, b :: s, h => by
    have := rows_fst (l := r) (ps := s) (by simpa using h)
    unfold rowsOf at this ⊢
    simpa using this
theorem rows_snd : ∀ {l : List (Int × Int)} {ps : List Int}, ps.length = l.length → (rowsOf l ps).map (·.2) = ps
  | [], [], _ => rfl
  | [], _ :: _, h => by cases h
  | a :: r, [], h => by cases h
  | a :: r, b :: s, h => by
    have := rows_snd (l := r) (ps := s) (by simpa using h)
    unfold rowsOf at this ⊢
    simpa using this
theorem zipD_rows (l : List (Int × Int)) (ps : List Int) : zipD (l.map prD) (ps.map iD) = (l.zip ps).map fun x => .tuple [prD x.1, .int x.2] := by
  induction l generalizing ps with
  | nil => rfl
  | cons x r ih => cases ps with
    | nil => rfl
    | cons y s => simp [zipD, ih]
theorem book_ok {l : List (Int × Int)} (g : GoodSt l) (ht : ∀ p ∈ l, p.2 ≤ 3000) {N : Int} {β : Bag} (hb : Bd N β) (hN : N ≤ 1000000) : ∃ close β', g_L_law_book [stD l] β = some (bkD close (rowsOf l (pegsOf l l)), β') ∧ GoodBk close (rowsOf l (pegsOf l l)) ∧ (∀ p ∈ l, p.2 ≤ close) ∧ Bd (N + 1) β' := by
  have hl := g.len
  have hpl : (pegsOf l l).length = l.length := pegsOf_len l l
  obtain ⟨r, β1, d1, ra, rb, bd⟩ := draw (i := 0) (δ := [.bg, .fr (stD l), .no, .no, .no, .no, .no]) (e := dC (.int 4)) (many := 4) (β := β) (β1 := β) rfl rfl (by decide) (by decide) hb hN
  have k1 := lcF_map (s := sSeq (dBor 1)) (g := gTp (gsCons (gNm 3) (gsCons (gNm 4) gsNil)) 2) (t := tTrue) (e := dVar 4) (vs := [3, 4]) (δ := [.bg, .fr (stD l), .no, .no, .no, .no, .no]) (β := β) prD (fun p => [.bg, .fr (stD l), .no, .fr (.int p.1), .fr (.int p.2), .no, .no]) (fun _ => true) (fun p => iD p.2) l rfl (by omega) (fun _ _ => rfl) (fun _ _ => rfl) (fun _ _ _ => ⟨rfl, rfl⟩)
  rw [filter_true] at k1
  obtain ⟨⟨c0, g0⟩, lr, hlr⟩ : ∃ a lr, l = a :: lr := by
    cases hc : l with
    | nil => have := g.pos; rw [hc] at this; cases this
    | cons a lr => exact ⟨a, lr, rfl⟩
  have em : (l.map fun p => iD p.2) = (g0 :: lr.map (·.2)).map iD := by rw [hlr]; simp
  have hmx := foldl_max_ge (lr.map (·.2)) g0
  have hmm := foldl_max_mem (lr.map (·.2)) g0
  generalize hmv : (lr.map (·.2)).foldl max g0 = mv at hmx hmm
  have hall : ∀ p ∈ l, p.2 ≤ mv := fun p hp => by
    rw [hlr] at hp
    rcases List.mem_cons.mp hp with e | e
    · rw [e]; exact hmx.1
    · exact hmx.2 _ (List.mem_map_of_mem e)
  have hmv3 : mv ≤ 3000 := by
    rcases hmm with e | e
    · rw [e]; exact ht (c0, g0) (by rw [hlr]; exact List.mem_cons_self)
    · obtain ⟨p, hp, e2⟩ := List.mem_map.mp e
      rw [← e2]; exact ht p (by rw [hlr]; exact List.mem_cons_of_mem _ hp)
  have hgood : GoodBk (mv + r) (rowsOf l (pegsOf l l)) := by
    have hm1 : ∀ q ∈ rowsOf l (pegsOf l l), ∃ p ∈ l, p.1 = q.1 := fun q hq => by
      have : q.1 ∈ (rowsOf l (pegsOf l l)).map (·.1) := List.mem_map_of_mem hq
      rw [rows_fst hpl] at this
      obtain ⟨p, hp, e⟩ := List.mem_map.mp this
      exact ⟨p, hp, e⟩
    have hm2 : ∀ q ∈ rowsOf l (pegsOf l l), q.2 ∈ pegsOf l l := fun q hq => by
      have : q.2 ∈ (rowsOf l (pegsOf l l)).map (·.2) := List.mem_map_of_mem hq
      rwa [rows_snd hpl] at this
    have f0 := hall (c0, g0) (by rw [hlr]; exact List.mem_cons_self)
    have f1 := g.lo (c0, g0) (by rw [hlr]; exact List.mem_cons_self)
    have f2 := g.hi (c0, g0) (by rw [hlr]; exact List.mem_cons_self)
    simp only at f0 f1 f2
    refine ⟨by omega, by omega, by rw [rows_len hpl]; exact g.pos, by rw [rows_len hpl]; exact hl, fun q hq => ?_, fun q hq => ?_, by rw [rows_fst hpl]; exact g.up, fun q hq => (pegs_le l _ (hm2 q hq)).1, fun q hq => ?_⟩
    · obtain ⟨p, hp, e⟩ := hm1 q hq
      rw [← e]; exact g.lo p hp
    · obtain ⟨p, hp, e⟩ := hm1 q hq
      have := hall p hp
      have := g.hi p hp
      omega
    · have := (pegs_le l _ (hm2 q hq)).2
      omega
  refine ⟨mv + r, β1, ?_, hgood, fun p hp => by have := hall p hp; omega, bd⟩
  refine run_rt (δ1 := [.bg, .fr (stD l), .fr (.int (mv + r)), .no, .no, .no, .no]) ?_
  show core_L_law_book [.bg, .fr (stD l), .no, .no, .no, .no, .no] β = _
  unfold core_L_law_book
  rw [sq_nx (set_of (d := .int (mv + r)) (β1 := β1) (op_of (d := .int mv) (call_of (aone_of (frz_of k1)) (by rw [em, fMax_ints, hmv])) d1 (fAdd_i _ _)))]
  have hs : sZip (aCons (dBor 1) (aCons (dFn u_L_law_pegs (aCons (dVar 1) aNil)) aNil)) [.bg, .fr (stD l), .fr (.int (mv + r)), .no, .no, .no, .no] β1 = some ((l.zip (pegsOf l l)).map fun x => .tuple [prD x.1, .int x.2], β1) := by
    rw [← zipD_rows]
    unfold sZip
    rw [acons_of (d := stD l) (ds := [.list ((pegsOf l l).map iD)]) (β1 := β1) (β2 := β1) rfl (aone_of (fn_of (x := u_L_law_pegs) (r := (.list ((pegsOf l l).map iD), (0, 0, 0))) (aone_of rfl) rfl (lawpegs_ok l (by omega) (0, 0, 0))))]
    rfl
  have k2 := lcF_map (g := gTp (gsCons (gNm 5) (gsCons (gNm 6) gsNil)) 2) (t := tTrue) (e := dTup (aCons (dOp fIx (dBor 5) (dC (.int 0))) (aCons (dVar 6) aNil))) (vs := [5, 6]) (fun x : (Int × Int) × Int => .tuple [prD x.1, .int x.2]) (fun x => [.bg, .fr (stD l), .fr (.int (mv + r)), .no, .no, .fr (prD x.1), .fr (.int x.2)]) (fun _ => true) (fun x => prD (x.1.1, x.2)) (l.zip (pegsOf l l)) hs (by rw [List.length_zip]; omega) (fun _ _ => rfl) (fun _ _ => rfl) (fun _ _ _ => ⟨rfl, rfl⟩)
  rw [filter_true] at k2
  have e3 : ((l.zip (pegsOf l l)).map fun x => prD (x.1.1, x.2)) = (rowsOf l (pegsOf l l)).map prD := by unfold rowsOf; rw [List.map_map]; rfl
  rw [e3] at k2
  refine sq_rt (ret_of (tup_of (ds := [.int (mv + r), stD (rowsOf l (pegsOf l l))]) (acons_of rfl (aone_of (call_of (aone_of (frz_of k2)) rfl))) rfl))
end
end PD
namespace PD
open PySem PySem.Spec L2
noncomputable section
theorem fNe_int (a b : Int) : fNe (.int a) (.int b) = some (.bool (!decide (a = b))) := by
  unfold fNe okEq
  rw [eqv_int]; rfl
theorem fNe_same (xs : List Int) : fNe (.list (xs.map iD)) (.list (xs.map iD)) = some (.bool false) := by
  unfold fNe okEq
  rw [shaped_ints, SeqAt.eqv_refl _ (show PyData.canLay0 (.list (xs.map iD)) = true from canLay_ints xs)]
  rfl
theorem fNe_sameT (xs : List Int) : fNe (.tuple (xs.map iD)) (.tuple (xs.map iD)) = some (.bool false) := by
  unfold fNe okEq
  rw [shaped_intsT, SeqAt.eqv_refl _ (show PyData.canLay0 (.tuple (xs.map iD)) = true from canLay_ints xs)]
  rfl
theorem zipD_own : ∀ {l : List (Int × Int)} {ps : List Int}, ps.length = l.length → zipD ((l.map (·.2)).map iD) ((rowsOf l ps).map prD) = (l.zip ps).map fun x => .tuple [.int x.1.2, prD (x.1.1, x.2)]
  | [], _, _ => rfl
  | a :: r, [], h => by cases h
  | a :: r, b :: s, h => by
    have := zipD_own (l := r) (ps := s) (by simpa using h)
    unfold rowsOf at this ⊢
    simp only [List.map_cons, List.zip_cons_cons, zipD]
    rw [this]
theorem zipD_own2 : ∀ {l : List (Int × Int)} {ps : List Int}, ps.length = l.length → zipD ((rowsOf l ps).map prD) ((l.map (·.2)).map iD) = (l.zip ps).map fun x => .tuple [prD (x.1.1, x.2), .int x.1.2]
  | [], _, _ => by simp [rowsOf, zipD]
  | a :: r, [], h => by cases h
  | a :: r, b :: s, h => by
    have := zipD_own2 (l := r) (ps := s) (by simpa using h)
    unfold rowsOf at this ⊢
    simp only [List.map_cons, List.zip_cons_cons, zipD]
    rw [this]
theorem zip_l : ∀ {l : List (Int × Int)} {ps : List Int}, ps.length = l.length → ((l.zip ps).map fun x => prD (x.1.1, x.1.2)) = l.map prD
  | [], _, _ => rfl
  | a :: r, [], h => by cases h
  | a :: r, b :: s, h => by
    have := zip_l (l := r) (ps := s) (by simpa using h)
    simp only [List.map_cons, List.zip_cons_cons]
    rw [this]
theorem is_story_ok {l : List (Int × Int)} (g : GoodSt l) {close : Int} (hg : GoodBk close (rowsOf l (pegsOf l l))) (hc : ∀ p ∈ l, p.2 ≤ close) (β : Bag) : g_is_story [bkD close (rowsOf l (pegsOf l l)), .tuple [], .tuple ((l.map (·.2)).map iD)] β = some (.bool true, β) := by
  have hl := g.len
  have hpl : (pegsOf l l).length = l.length := pegsOf_len l l
  generalize hB : bkD close (rowsOf l (pegsOf l l)) = bk
  generalize hO : PyData.tuple ((l.map (·.2)).map iD) = own
  refine run_rt (δ1 := [.fr bk, .fr (.tuple []), .fr own, .fr (.int close), .fr (stD (rowsOf l (pegsOf l l))), .fr (.list (l.map prD)), .no, .no, .no, .no, .no, .no, .no]) ?_
  show core_is_story [.fr bk, .fr (.tuple []), .fr own, .no, .no, .no, .no, .no, .no, .no, .no, .no, .no] β = _
  unfold core_is_story
  have e1 : sExpr (dFn u_look_at (aCons (dVar 0) (aCons (dVar 1) aNil))) [.fr bk, .fr (.tuple []), .fr own, .no, .no, .no, .no, .no, .no, .no, .no, .no, .no] β = some ([.fr bk, .fr (.tuple []), .fr own, .no, .no, .no, .no, .no, .no, .no, .no, .no, .no], β, .nx) := by
    unfold sExpr
    rw [fn_of (x := u_look_at) (ds := [bk, .tuple []]) (r := (.none, (0, 0, 0))) rfl rfl (by rw [← hB]; exact look_at_ok hg (0, 0, 0))]
    rfl
  rw [sq_nx e1]
  rw [sq_nx (δ1 := [.fr bk, .fr (.tuple []), .fr own, .fr (.int close), .fr (stD (rowsOf l (pegsOf l l))), .no, .no, .no, .no, .no, .no, .no, .no]) (β1 := β) (by rw [← hB]; rfl)]
  have i1 : tOrF (tNotF (tob (dIsi .tuple (dBor 2)))) (tob (dOp fNe (dCall fLen (aCons (dBor 2) aNil)) (dCall fLen (aCons (dBor 4) aNil)))) [.fr bk, .fr (.tuple []), .fr own, .fr (.int close), .fr (stD (rowsOf l (pegsOf l l))), .no, .no, .no, .no, .no, .no, .no, .no] β = some (false, β) := by
    rw [← hO]
    refine (tOr_f (tNot_of (b := true) (tob_of rfl))).trans (tob_of (op_of (d := .int (((l.map (·.2)).map iD).length : Int)) (e := .int (((rowsOf l (pegsOf l l)).map prD).length : Int)) rfl rfl ?_))
    rw [fNe_int, List.length_map, List.length_map, List.length_map, rows_len hpl]
    simp
  rw [sq_nx ((if_f i1).trans rfl)]
  have z1 : sZip (aCons (dBor 2) (aCons (dBor 4) aNil)) [.fr bk, .fr (.tuple []), .fr own, .fr (.int close), .fr (stD (rowsOf l (pegsOf l l))), .no, .no, .no, .no, .no, .no, .no, .no] β = some ((l.zip (pegsOf l l)).map fun x => .tuple [.int x.1.2, prD (x.1.1, x.2)], β) := by
    rw [← zipD_own hpl, ← hO]; rfl
  have zl : (l.zip (pegsOf l l)).length ≤ 16777216 := by rw [List.length_zip]; omega
  have a1 := all_of (g := gTp (gsCons (gNm 10) (gsCons (gNm 11) gsNil)) 2) (e := dFn u_is_within (aCons (dVar 10) (aCons (dOp fAdd (dOp fIx (dBor 11) (dC (.int 0))) (dC (.int 1))) (aCons (dVar 3) aNil)))) (vs := [10, 11]) (fun x : (Int × Int) × Int => .tuple [.int x.1.2, prD (x.1.1, x.2)]) (fun x => [.fr bk, .fr (.tuple []), .fr own, .fr (.int close), .fr (stD (rowsOf l (pegsOf l l))), .no, .no, .no, .no, .no, .fr (.int x.1.2), .fr (prD (x.1.1, x.2)), .no]) (l.zip (pegsOf l l)) z1 zl (fun _ _ => rfl) (fun x hx => by
    have hm : x.1 ∈ l := (List.of_mem_zip (a := x.1) (b := x.2) hx).1
    exact fn_of (x := u_is_within) (ds := [.int x.1.2, .int (x.1.1 + 1), .int close]) rfl rfl (within_t ⟨g.hi _ hm, hc _ hm⟩ (0, 0, 0)))
  rw [sq_nx ((if_f (tNot_of (b := true) (tob_of a1))).trans rfl)]
  have z2 : sZip (aCons (dBor 4) (aCons (dBor 2) aNil)) [.fr bk, .fr (.tuple []), .fr own, .fr (.int close), .fr (stD (rowsOf l (pegsOf l l))), .no, .no, .no, .no, .no, .no, .no, .no] β = some ((l.zip (pegsOf l l)).map fun x => .tuple [prD (x.1.1, x.2), .int x.1.2], β) := by
    rw [← zipD_own2 hpl, ← hO]; rfl
  have k1 := lcF_map (g := gTp (gsCons (gNm 11) (gsCons (gNm 10) gsNil)) 2) (t := tTrue) (e := dTup (aCons (dOp fIx (dBor 11) (dC (.int 0))) (aCons (dVar 10) aNil))) (vs := [11, 10]) (fun x : (Int × Int) × Int => .tuple [prD (x.1.1, x.2), .int x.1.2]) (fun x => [.fr bk, .fr (.tuple []), .fr own, .fr (.int close), .fr (stD (rowsOf l (pegsOf l l))), .no, .no, .no, .no, .no, .fr (.int x.1.2), .fr (prD (x.1.1, x.2)), .no]) (fun _ => true) (fun x => prD (x.1.1, x.1.2)) (l.zip (pegsOf l l)) z2 zl (fun _ _ => rfl) (fun _ _ => rfl) (fun _ _ _ => ⟨rfl, rfl⟩)
  rw [filter_true, zip_l hpl] at k1
  rw [sq_nx (setO_of k1)]
  have k2 := lcF_map (s := sSeq (dBor 4)) (g := gNm 11) (t := tTrue) (e := dOp fIx (dBor 11) (dC (.int 1))) (vs := [11]) (δ := [.fr bk, .fr (.tuple []), .fr own, .fr (.int close), .fr (stD (rowsOf l (pegsOf l l))), .fr (.list (l.map prD)), .no, .no, .no, .no, .no, .no, .no]) (β := β) prD (fun p => [.fr bk, .fr (.tuple []), .fr own, .fr (.int close), .fr (stD (rowsOf l (pegsOf l l))), .fr (.list (l.map prD)), .no, .no, .no, .no, .no, .fr (prD p), .no]) (fun _ => true) (fun p => iD p.2) (rowsOf l (pegsOf l l)) rfl (by rw [rows_len hpl]; omega) (fun _ _ => rfl) (fun _ _ => rfl) (fun _ _ _ => ⟨rfl, rfl⟩)
  have e2 : ((rowsOf l (pegsOf l l)).map fun p => iD p.2) = (pegsOf l l).map iD := by
    conv => rhs; rw [← rows_snd hpl]
    rw [List.map_map]; rfl
  rw [filter_true, e2] at k2
  have i2 : sFrz [5] (sIf (tob (dOp fNe (dFn u_pegs_so (aCons (dVar 5) aNil)) (dFrz (lcF (sSeq (dBor 4)) (gNm 11) tTrue (dOp fIx (dBor 11) (dC (.int 1))) [11])))) (sqS (sRet (dC (.bool false))) sNx) sNx) [.fr bk, .fr (.tuple []), .fr own, .fr (.int close), .fr (stD (rowsOf l (pegsOf l l))), .ow (.list (l.map prD)), .no, .no, .no, .no, .no, .no, .no] β = some ([.fr bk, .fr (.tuple []), .fr own, .fr (.int close), .fr (stD (rowsOf l (pegsOf l l))), .fr (.list (l.map prD)), .no, .no, .no, .no, .no, .no, .no], β, .nx) := by
    show sIf _ _ _ [.fr bk, .fr (.tuple []), .fr own, .fr (.int close), .fr (stD (rowsOf l (pegsOf l l))), .fr (.list (l.map prD)), .no, .no, .no, .no, .no, .no, .no] β = _
    refine (if_f (tob_of (op_of (fn_of (x := u_pegs_so) (r := (.list ((pegsOf l l).map iD), (0, 0, 0))) (ds := [.list (l.map prD)]) rfl rfl (pegs_so_ok l _ rfl (by omega) (0, 0, 0))) (frz_of k2) (fNe_same _)))).trans rfl
  refine (sq_nx i2).trans ?_
  rfl
end
end PD
namespace PD
open PySem PySem.Spec L2
noncomputable section
theorem fIx_last (xs : List (Int × Int)) (p : Int × Int) : fIx (stD (xs ++ [p])) (.int (-1)) = some (prD p) := by
  unfold fIx orF
  have : atI ((xs ++ [p]).map prD) (-1) = some (prD p) := by rw [List.map_append]; exact atI_last _ _
  have h1 : fIxS (stD (xs ++ [p])) (.int (-1)) = some (prD p) := by
    show (atI ((xs ++ [p]).map prD) (-1)).bind (fun d => if plainD d = true then some d else none) = _
    rw [this]; rfl
  rw [h1]
theorem cut_init (xs : List D) (d : D) : cut (xs ++ [d]) none (some (-1)) = xs := by
  unfold cut
  have e1 : HT.sIx (xs ++ [d]).length (xs ++ [d]).length (some (-1)) = xs.length := by
    unfold HT.sIx
    simp
    omega
  rw [e1, HT.sIx_none]
  simp
theorem fAdd_tup (a b : List D) (h : a.length + b.length ≤ 16777216) : fAdd (.tuple a) (.tuple b) = some (.tuple (a ++ b)) := by
  unfold fAdd orF fI0 fCatT
  simp [h]
theorem fIsN_tt : fIsN (.bool true) (.bool true) = some (.bool false) := rfl
theorem slice_of {f : FE} {lo hi : FO} {δ : Env} {β β1 β2 β3 : Bag} {d r : D} {a b : Option Int} (h1 : f δ β = some (d, β1)) (h2 : lo δ β1 = some (a, β2)) (h3 : hi δ β2 = some (b, β3)) (h4 : fSl d a b = some r) : dSl f lo hi δ β = some (r, β3) := by
  unfold dSl
  rw [h1]
  show (lo δ β1).bind _ = _
  rw [h2]
  show (hi δ β2).bind _ = _
  rw [h3]
  show (fSl d a b).map _ = _
  rw [h4]; rfl
theorem pr_of (a b : Int) (δ : Env) (β : Bag) : dTup (aCons (dC (.int a)) (aCons (dC (.int b)) aNil)) δ β = some (prD (a, b), β) := tup_of (acons_of rfl (aone_of rfl)) rfl
def lawT : FT := (tOrF (tob (dOp fNe (dFn u_pegs (aCons (dTup (aCons (dTup (aCons (dC (.int 0)) (aCons (dC (.int 9)) aNil))) (aCons (dTup (aCons (dC (.int 1)) (aCons (dC (.int 3)) aNil))) (aCons (dTup (aCons (dC (.int 2)) (aCons (dC (.int 9)) aNil))) (aCons (dTup (aCons (dC (.int 3)) (aCons (dC (.int 5)) aNil))) (aCons (dTup (aCons (dC (.int 4)) (aCons (dC (.int 6)) aNil))) aNil)))))) aNil)) (dTup (aCons (dC (.int 1)) (aCons (dC (.int 2)) (aCons (dC (.int 3)) (aCons (dC (.int 2)) (aCons (dC (.int 4)) aNil)))))))) (tob (dOp fNe (dFn u_pegs (aCons (dTup (aCons (dTup (aCons (dC (.int 0)) (aCons (dC (.int 1)) aNil))) (aCons (dTup (aCons (dC (.int 1)) (aCons (dC (.int 2)) aNil))) aNil))) aNil)) (dTup (aCons (dC (.int 1)) (aCons (dC (.int 1)) aNil))))))
def lawBody : SF := (sqS (sSet 2 (dFnB u_L_law_stays 1 (aCons (dC (.int 24)) (aCons (dOp fIx (dFrz (aOk (aCons (dC (.int 1000)) (aCons (dC (.int 12)) aNil)))) (dFnB u_L_law_take 1 (aCons (dC (.int 2)) aNil))) aNil))))
  (sqS (sSet 3 (dFn u_pegs (aCons (dVar 2) aNil)))
  (sqS (sIf (tNotF (tob (dFn u_L_law_same (aCons (dVar 3) (aCons (dCall fTuple (aCons (dFn u_L_law_pegs (aCons (dVar 2) aNil)) aNil)) aNil)))))
  (sqS (sRet (dC (.bool false)))
  sNx)
  sNx)
  (sqS (sSet 4 (dC (.int 0)))
  (sqS (sFor (sSeq (dVar 2)) (gTp (gsCons (gNm 5) (gsCons (gNm 6) gsNil)) 2)
  (sqS (sSetO 7 (lcF (sSeq (dBor 2)) (gNm 12) (tob (dChain fLe fLt (dOp fIx (dBor 12) (dC (.int 0))) (dBor 5) (dOp fIx (dBor 12) (dC (.int 1))))) (dC (.int 1)) [12]))
  (sqS (sSet 4 (dCall fMax (aCons (dBor 4) (aCons (dCall fLen (aCons (dBor 7) aNil)) aNil))))
  sNx)))
  (sqS (sIf (tob (dOp fNe (dCall fMax (aCons (dBor 3) aNil)) (dBor 4)))
  (sqS (sRet (dC (.bool false)))
  sNx)
  sNx)
  (sqS (sSet 8 (dOp fIx (dBor 2) (dNeg (dC (.int 1)))))
  (sqS (sSet 9 (dOp fAdd (dSl (dBor 2) oNo (oSome (dNeg (dC (.int 1))))) (dTup (aCons (dTup (aCons (dOp fIx (dBor 8) (dC (.int 0))) (aCons (dOp fAdd (dOp fIx (dBor 8) (dC (.int 1))) (dC (.int 5))) aNil))) aNil))))
  (sqS (sIf (tOrF (tob (dOp fNe (dFn u_pegs (aCons (dVar 9) aNil)) (dBor 3))) (tob (dOp fNe (dFn u_pegs (aCons (dSl (dBor 2) oNo (oSome (dC (.int 1)))) aNil)) (dTup (aCons (dC (.int 1)) aNil)))))
  (sqS (sRet (dC (.bool false)))
  sNx)
  sNx)
  (sqS (sSet 10 (dFnB u_L_law_book 1 (aCons (dVar 2) aNil)))
  (sqS (sSet 11 (dCall fTuple (aCons (dFrz (lcF (sSeq (dBor 2)) (gTp (gsCons (gNm 5) (gsCons (gNm 6) gsNil)) 2) tTrue (dVar 6) [5, 6])) aNil)))
  (sqS (sIf (tOrF (tob (dOp fIsN (dFn u_can_be (aCons (dVar 10) aNil)) (dC (.bool true)))) (tob (dOp fIsN (dFn u_is_story (aCons (dVar 10) (aCons (dTup aNil) (aCons (dVar 11) aNil)))) (dC (.bool true)))))
  (sqS (sRet (dC (.bool false)))
  sNx)
  sNx)
  sNx))))))))))))
theorem good_longer {init : List (Int × Int)} {c g : Int} (h : GoodSt (init ++ [(c, g)])) (ht : ∀ p ∈ init ++ [(c, g)], p.2 ≤ 3000) : GoodSt (init ++ [(c, g + 5)]) := by
  obtain ⟨h1, h2, h3, h4, h5, h6⟩ := h
  have hm : (c, g) ∈ init ++ [(c, g)] := by simp
  have b1 := h3 _ hm
  have b2 := h4 _ hm
  have b3 := ht _ hm
  simp only at b1 b2 b3
  refine ⟨by simp, by simpa using h2, fun p hp => ?_, fun p hp => ?_, fun p hp => ?_, by simpa using h6⟩
  · rcases List.mem_append.mp hp with e | e
    · exact h3 p (List.mem_append_left _ e)
    · rw [List.mem_singleton.mp e]; exact b1
  · rcases List.mem_append.mp hp with e | e
    · exact h4 p (List.mem_append_left _ e)
    · rw [List.mem_singleton.mp e]; show c + 1 ≤ g + 5; omega
  · rcases List.mem_append.mp hp with e | e
    · exact h5 p (List.mem_append_left _ e)
    · rw [List.mem_singleton.mp e]; show g + 5 ≤ 1000000; omega
theorem rises_up : ∀ {xs : List Int}, risesL xs = true → xs.Pairwise (· < ·)
  | [], _ => .nil
  | [_], _ => by simp
  | a :: b :: r, h => by
    unfold risesL at h
    simp only [List.drop_succ_cons, List.drop_zero, List.zip_cons_cons, List.all_cons, Bool.and_eq_true, decide_eq_true_eq] at h
    have ih := rises_up (xs := b :: r) (by unfold risesL; simpa using h.2)
    refine List.pairwise_cons.mpr ⟨fun x hx => ?_, ih⟩
    rcases List.mem_cons.mp hx with e | e
    · rw [e]; exact h.1
    · have := (List.pairwise_cons.mp ih).1 x e
      omega
theorem body_ok (x0 x2 x3 x4 x5 x6 x7 x8 x9 x10 x11 x12 : Sl) {N : Int} {β : Bag} (hb : Bd N β) (hN : N ≤ 800000) : ∃ δ' β', lawBody [x0, .bg, x2, x3, x4, x5, x6, x7, x8, x9, x10, x11, x12] β = some (δ', β', .nx) ∧ δ'.length = 13 := by
  obtain ⟨r0, β0, d0, r0a, r0b, bd0⟩ := draw (i := 1) (δ := [x0, .bg, x2, x3, x4, x5, x6, x7, x8, x9, x10, x11, x12]) (e := dC (.int 2)) (many := 2) (β := β) (β1 := β) rfl rfl (by decide) (by decide) hb (by omega)
  obtain ⟨far, y1, y2⟩ := ix2 (a := 1000) (b := 12) r0a r0b
  obtain ⟨l, β1, s1, gd, ht, bd1⟩ := stays_ok y2 bd0 (by omega)
  have hl := gd.len
  have c1 : dFnB u_L_law_stays 1 (aCons (dC (.int 24)) (aCons (dOp fIx (dFrz (aOk (aCons (dC (.int 1000)) (aCons (dC (.int 12)) aNil)))) (dFnB u_L_law_take 1 (aCons (dC (.int 2)) aNil))) aNil)) [x0, .bg, x2, x3, x4, x5, x6, x7, x8, x9, x10, x11, x12] β = some (stD l, β1) :=
    fnB_of (x := u_L_law_stays) rfl (acons_of rfl (aone_of (op_of (frz_of (aok_of (ds := [.int 1000, .int 12]) rfl rfl)) d0 y1))) rfl s1
  have up : Up l := ⟨rises_up gd.up, fun p hp => by have := gd.hi p hp; omega⟩
  obtain ⟨n0, ns, hps⟩ : ∃ n ns, pegsOf l l = n :: ns := by
    cases hc : pegsOf l l with
    | nil =>
      have := pegsOf_len l l
      rw [hc] at this
      have h2 := gd.pos
      simp at this; omega
    | cons n ns => exact ⟨n, ns, rfl⟩
  have hple : (pegsOf l l).length ≤ 1000 := by rw [pegsOf_len]; omega
  -- the most full hour
  obtain ⟨δ5, β5, e5, y5, y6, y7, hδ5, hβ5⟩ := sFor_pre (s := sSeq (dVar 2)) (g := gTp (gsCons (gNm 5) (gsCons (gNm 6) gsNil)) 2) (B := sqS (sSetO 7 (lcF (sSeq (dBor 2)) (gNm 12) (tob (dChain fLe fLt (dOp fIx (dBor 12) (dC (.int 0))) (dBor 5) (dOp fIx (dBor 12) (dC (.int 1))))) (dC (.int 1)) [12])) (sqS (sSet 4 (dCall fMax (aCons (dBor 4) (aCons (dCall fLen (aCons (dBor 7) aNil)) aNil)))) sNx))
    prD (fun pre δ b => ∃ y5 y6 y7, δ = [x0, .bg, .fr (stD l), .fr (.tuple ((pegsOf l l).map iD)), .fr (.int (pre.foldl (fullGo l) 0)), y5, y6, y7, x8, x9, x10, x11, x12] ∧ b = β1) l (δ := [x0, .bg, .fr (stD l), .fr (.tuple ((pegsOf l l).map iD)), .fr (.int 0), x5, x6, x7, x8, x9, x10, x11, x12]) (β := β1) (β1 := β1) rfl (by
      rintro p ⟨h, gn⟩ q δ b hlq ⟨y5, y6, y7, rfl, rfl⟩
      have k := lcF_map (s := sSeq (dBor 2)) (g := gNm 12) (t := tob (dChain fLe fLt (dOp fIx (dBor 12) (dC (.int 0))) (dBor 5) (dOp fIx (dBor 12) (dC (.int 1))))) (e := dC (.int 1)) (vs := [12]) (δ := [x0, .bg, .fr (stD l), .fr (.tuple ((pegsOf l l).map iD)), .fr (.int (p.foldl (fullGo l) 0)), .fr (.int h), .fr (.int gn), y7, x8, x9, x10, x11, x12]) (β := b) prD (fun a => [x0, .bg, .fr (stD l), .fr (.tuple ((pegsOf l l).map iD)), .fr (.int (p.foldl (fullGo l) 0)), .fr (.int h), .fr (.int gn), y7, x8, x9, x10, x11, .fr (prD a)])
        (fun a => decide (a.1 ≤ h) && decide (h < a.2)) (fun _ => .int 1) l rfl (by omega) (fun _ _ => rfl) (fun a _ => by
          by_cases h1 : a.1 ≤ h
          · by_cases h2 : h < a.2 <;> simp [runD, startD, outD, sqS, sRet, sIf, sSet, sAsg, sExpr, sFrz, frz, frz1, sNx, dC, dVar, dBor, dOp, dChain, dAnd, dOr, dNot, dIf, tob, tNotF, tAndF, tOrF, dFn, aCons, aNil, aOk, dTup, dCall, dFrz, dFrzK, gNm, gTp, gsCons, gsNil, sSetO, sSetK, sSetV, sPar2, sPar3, vFr, vL, vK, dIsi, dIsis, isiD, orC, sNone, sSeq, sZip, sEnum, seqD, dSl, oSome, oNo, okLen, plainD, wipeD, kNil, fLt, fLe, fGt, fGe, fAdd, fSub, fI0, fI, orF, h1, h2]
          · simp [runD, startD, outD, sqS, sRet, sIf, sSet, sAsg, sExpr, sFrz, frz, frz1, sNx, dC, dVar, dBor, dOp, dChain, dAnd, dOr, dNot, dIf, tob, tNotF, tAndF, tOrF, dFn, aCons, aNil, aOk, dTup, dCall, dFrz, dFrzK, gNm, gTp, gsCons, gsNil, sSetO, sSetK, sSetV, sPar2, sPar3, vFr, vL, vK, dIsi, dIsis, isiD, orC, sNone, sSeq, sZip, sEnum, seqD, dSl, oSome, oNo, okLen, plainD, wipeD, kNil, fLt, fLe, fGt, fGe, fAdd, fSub, fI0, fI, orF, h1]) (fun _ _ _ => ⟨rfl, rfl⟩)
      refine ⟨[x0, .bg, .fr (stD l), .fr (.tuple ((pegsOf l l).map iD)), .fr (.int (p.foldl (fullGo l) 0)), .fr (.int h), .fr (.int gn), y7, x8, x9, x10, x11, x12], [x0, .bg, .fr (stD l), .fr (.tuple ((pegsOf l l).map iD)), .fr (.int ((p ++ [(h, gn)]).foldl (fullGo l) 0)), .fr (.int h), .fr (.int gn), .ow (.list ((l.filter fun a => decide (a.1 ≤ h) && decide (h < a.2)).map fun _ => .int 1)), x8, x9, x10, x11, x12], b, rfl, ?_, ⟨_, _, _, rfl, rfl⟩⟩
      rw [sq_nx (setO_of k)]
      rw [sq_nx (set_of (d := .int (if (cnt l h : Int) > p.foldl (fullGo l) 0 then (cnt l h : Int) else p.foldl (fullGo l) 0)) (β1 := b) (call_of (ds := [.int (p.foldl (fullGo l) 0), .int (cnt l h : Int)]) (acons_of rfl (aone_of (call_of (aone_of (d := .list ((l.filter fun a => decide (a.1 ≤ h) && decide (h < a.2)).map fun _ => .int 1)) rfl) (by
        show some (PyData.int (((l.filter fun a => decide (a.1 ≤ h) && decide (h < a.2)).map fun _ => PyData.int 1).length : Nat)) = _
        rw [List.length_map]; rfl)))) (fMax_two _ _)))]
      rw [List.foldl_append]
      rfl) ⟨_, _, _, rfl, rfl⟩
  rw [hδ5, hβ5] at e5
  -- the last stay
  obtain ⟨init, ⟨c, g⟩, hlast⟩ : ∃ init p, l = init ++ [p] := by
    have hne : l ≠ [] := fun e => by have := gd.pos; rw [e] at this; cases this
    exact ⟨l.dropLast, l.getLast hne, (List.dropLast_concat_getLast hne).symm⟩
  have gL : GoodSt (init ++ [(c, g + 5)]) := good_longer (hlast ▸ gd) (hlast ▸ ht)
  have eL : pegsOf (init ++ [(c, g + 5)]) (init ++ [(c, g + 5)]) = pegsOf l l := by rw [hlast]; exact pegs_longer init c g (g + 5)
  -- the first stay alone
  obtain ⟨f0, fr, hfirst⟩ : ∃ a r, l = a :: r := by
    cases hc : l with
    | nil => have := gd.pos; rw [hc] at this; cases this
    | cons a r => exact ⟨a, r, rfl⟩
  have hf0 : f0 ∈ l := by rw [hfirst]; exact List.mem_cons_self
  have gF : GoodSt [f0] := ⟨by simp, by simp, fun p hp => by rw [List.mem_singleton.mp hp]; exact gd.lo _ hf0, fun p hp => by rw [List.mem_singleton.mp hp]; exact gd.hi _ hf0, fun p hp => by rw [List.mem_singleton.mp hp]; exact gd.top _ hf0, rfl⟩
  have eF : pegsOf [f0] [f0] = [1] := rfl
  obtain ⟨close, β2, k10, gB, hcl, bd2⟩ := book_ok gd ht bd1 (by omega)
  let δA (x4 x8 x9 x10 x11 : Sl) : Env := [x0, .bg, .fr (stD l), .fr (.tuple ((pegsOf l l).map iD)), x4, y5, y6, y7, x8, x9, x10, x11, x12]
  refine ⟨[x0, .bg, .fr (stD l), .fr (.tuple ((pegsOf l l).map iD)), .fr (.int (l.foldl (fullGo l) 0)), y5, y6, y7, .fr (prD (c, g)), .fr (stD (init ++ [(c, g + 5)])), .fr (bkD close (rowsOf l (pegsOf l l))), .fr (.tuple ((l.map (·.2)).map iD)), x12], β2, ?_, rfl⟩
  unfold lawBody
  refine (sq_nx (set_of c1)).trans ?_
  refine (sq_nx (set_of (d := .tuple ((pegsOf l l).map iD)) (β1 := β1) (fn_of (x := u_pegs) (ds := [stD l]) (r := (.tuple ((pegsOf l l).map iD), (0, 0, 0))) rfl rfl (pegs_ok gd (0, 0, 0))))).trans ?_
  have t3 : tNotF (tob (dFn u_L_law_same (aCons (dVar 3) (aCons (dCall fTuple (aCons (dFn u_L_law_pegs (aCons (dVar 2) aNil)) aNil)) aNil)))) [x0, .bg, .fr (stD l), .fr (.tuple ((pegsOf l l).map iD)), x4, x5, x6, x7, x8, x9, x10, x11, x12] β1 = some (!true, β1) :=
    tNot_of (tob_of (fn_of (x := u_L_law_same) (ds := [.tuple ((pegsOf l l).map iD), .tuple ((pegsOf l l).map iD)]) (r := (.bool true, (0, 0, 0)))
      (acons_of rfl (aone_of (call_of (aone_of (fn_of (x := u_L_law_pegs) (r := (.list ((pegsOf l l).map iD), (0, 0, 0))) (ds := [stD l]) rfl rfl (lawpegs_ok l (by omega) (0, 0, 0)))) rfl))) rfl (same_ints 10 (pegsOf l l) hple (0, 0, 0))))
  refine (sq_nx ((if_f t3).trans rfl)).trans ?_
  refine (sq_nx (set_of (d := .int 0) (β1 := β1) rfl)).trans ?_
  refine (sq_nx e5).trans ?_
  have t6 : tob (dOp fNe (dCall fMax (aCons (dBor 3) aNil)) (dBor 4)) [x0, .bg, .fr (stD l), .fr (.tuple ((pegsOf l l).map iD)), .fr (.int (l.foldl (fullGo l) 0)), y5, y6, y7, x8, x9, x10, x11, x12] β1 = some (false, β1) := by
    refine tob_of (op_of (d := .int (ns.foldl max n0)) (e := .int (l.foldl (fullGo l) 0)) (call_of (aone_of (d := .tuple ((pegsOf l l).map iD)) rfl) (by rw [hps]; exact fMax_intsT n0 ns)) rfl ?_)
    rw [fNe_int, full_eq up hps]
    simp
  refine (sq_nx ((if_f t6).trans rfl)).trans ?_
  refine (sq_nx (set_of (d := prD (c, g)) (β1 := β1) (op_of (d := stD l) (e := .int (-1)) rfl rfl (by rw [hlast]; exact fIx_last init (c, g))))).trans ?_
  refine (sq_nx (set_of (d := stD (init ++ [(c, g + 5)])) (β1 := β1) (op_of (d := .tuple (init.map prD)) (e := .tuple [prD (c, g + 5)]) ?_ rfl ?_))).trans ?_
  · refine slice_of (d := stD l) (a := none) (b := some (-1)) rfl rfl rfl ?_
    show some (PyData.tuple (cut (l.map prD) none (some (-1)))) = _
    rw [hlast, List.map_append]
    exact congrArg (fun z => some (PyData.tuple z)) (cut_init _ _)
  · rw [fAdd_tup _ _ (by
      have h2 := congrArg List.length hlast
      rw [List.length_append] at h2
      rw [List.length_map]
      simp at h2 ⊢; omega)]
    show some (PyData.tuple (init.map prD ++ [prD (c, g + 5)])) = _
    rw [show init.map prD ++ [prD (c, g + 5)] = (init ++ [(c, g + 5)]).map prD by rw [List.map_append]; rfl]
  have t9 : tOrF (tob (dOp fNe (dFn u_pegs (aCons (dVar 9) aNil)) (dBor 3))) (tob (dOp fNe (dFn u_pegs (aCons (dSl (dBor 2) oNo (oSome (dC (.int 1)))) aNil)) (dTup (aCons (dC (.int 1)) aNil)))) [x0, .bg, .fr (stD l), .fr (.tuple ((pegsOf l l).map iD)), .fr (.int (l.foldl (fullGo l) 0)), y5, y6, y7, .fr (prD (c, g)), .fr (stD (init ++ [(c, g + 5)])), x10, x11, x12] β1 = some (false, β1) := by
    refine (tOr_f (tob_of (op_of (d := .tuple ((pegsOf l l).map iD)) (fn_of (x := u_pegs) (ds := [stD (init ++ [(c, g + 5)])]) (r := (.tuple ((pegsOf l l).map iD), (0, 0, 0))) rfl rfl (by rw [← eL]; exact pegs_ok gL (0, 0, 0))) rfl (fNe_sameT _)))).trans ?_
    refine tob_of (op_of (d := .tuple ([1].map iD)) (e := .tuple ([1].map iD)) (fn_of (x := u_pegs) (ds := [stD [f0]]) (r := (.tuple ([1].map iD), (0, 0, 0))) (aone_of ?_) rfl (by rw [← eF]; exact pegs_ok gF (0, 0, 0))) rfl (fNe_sameT [1]))
    refine slice_of (d := stD l) (a := none) (b := some 1) rfl rfl rfl ?_
    show some (PyData.tuple (cut (l.map prD) none (some ((1 : Nat) : Int)))) = _
    rw [cut_takeD, hfirst]; rfl
  refine (sq_nx ((if_f t9).trans rfl)).trans ?_
  refine (sq_nx (set_of (d := bkD close (rowsOf l (pegsOf l l))) (β1 := β2) (fnB_of (x := u_L_law_book) (ds := [stD l]) rfl rfl rfl k10))).trans ?_
  have k11 := lcF_map (s := sSeq (dBor 2)) (g := gTp (gsCons (gNm 5) (gsCons (gNm 6) gsNil)) 2) (t := tTrue) (e := dVar 6) (vs := [5, 6]) (δ := [x0, .bg, .fr (stD l), .fr (.tuple ((pegsOf l l).map iD)), .fr (.int (l.foldl (fullGo l) 0)), y5, y6, y7, .fr (prD (c, g)), .fr (stD (init ++ [(c, g + 5)])), .fr (bkD close (rowsOf l (pegsOf l l))), x11, x12]) (β := β2) prD (fun p => [x0, .bg, .fr (stD l), .fr (.tuple ((pegsOf l l).map iD)), .fr (.int (l.foldl (fullGo l) 0)), .fr (.int p.1), .fr (.int p.2), y7, .fr (prD (c, g)), .fr (stD (init ++ [(c, g + 5)])), .fr (bkD close (rowsOf l (pegsOf l l))), x11, x12]) (fun _ => true) (fun p => iD p.2) l rfl (by omega) (fun _ _ => rfl) (fun _ _ => rfl) (fun _ _ _ => ⟨rfl, rfl⟩)
  rw [filter_true, show (l.map fun p => iD p.2) = (l.map (·.2)).map iD by rw [List.map_map]; rfl] at k11
  refine (sq_nx (set_of (d := .tuple ((l.map (·.2)).map iD)) (β1 := β2) (call_of (aone_of (frz_of k11)) rfl))).trans ?_
  have t12 : tOrF (tob (dOp fIsN (dFn u_can_be (aCons (dVar 10) aNil)) (dC (.bool true)))) (tob (dOp fIsN (dFn u_is_story (aCons (dVar 10) (aCons (dTup aNil) (aCons (dVar 11) aNil)))) (dC (.bool true)))) [x0, .bg, .fr (stD l), .fr (.tuple ((pegsOf l l).map iD)), .fr (.int (l.foldl (fullGo l) 0)), y5, y6, y7, .fr (prD (c, g)), .fr (stD (init ++ [(c, g + 5)])), .fr (bkD close (rowsOf l (pegsOf l l))), .fr (.tuple ((l.map (·.2)).map iD)), x12] β2 = some (false, β2) := by
    refine (tOr_f (tob_of (op_of (fn_of (x := u_can_be) (ds := [bkD close (rowsOf l (pegsOf l l))]) (r := (.bool true, (0, 0, 0))) rfl rfl (can_be_ok gB (by rw [rows_snd (pegsOf_len l l)]; exact climbs_pegs l) (0, 0, 0))) rfl fIsN_tt))).trans ?_
    exact tob_of (op_of (fn_of (x := u_is_story) (ds := [bkD close (rowsOf l (pegsOf l l)), .tuple [], .tuple ((l.map (fun p : Int × Int => p.2)).map iD)]) (r := (.bool true, (0, 0, 0))) rfl rfl (is_story_ok gd gB hcl (0, 0, 0))) rfl fIsN_tt)
  refine (sq_nx ((if_f t12).trans rfl)).trans ?_
  rfl
theorem wells_bd : ∀ (cs : List Int) (k : Nat), k + cs.length ≤ 64 → ∀ γ ∈ wellsFrom k cs, Bd 63000 γ
  | [], _, _, γ, h => by cases h
  | c :: r, k, hk, γ, h => by
    rw [List.length_cons] at hk
    rcases List.mem_cons.mp h with e | e
    · rw [e]
      unfold wellOf
      split
      · exact ⟨by show 0 ≤ 977 * (k : Int); omega, by show 977 * (k : Int) ≤ 63000; omega⟩
      · exact ⟨by show 0 ≤ 977 * (k : Int); omega, by show 977 * (k : Int) ≤ 63000; omega⟩
    · exact wells_bd r (k + 1) (by omega) γ e
theorem list13 {δ : Env} (h : δ.length = 13) : ∃ a b c d e f g i j k l m n, δ = [a, b, c, d, e, f, g, i, j, k, l, m, n] := by
  match δ, h with
  | [a, b, c, d, e, f, g, i, j, k, l, m, n], _ => exact ⟨a, b, c, d, e, f, g, i, j, k, l, m, n, rfl⟩
theorem bags_ok : ∀ (γs : List Bag) (δ : Env), δ.length = 13 → (∀ γ ∈ γs, Bd 63000 γ) → ∃ δ', bagsGo 1 lawBody γs δ = some (δ', .nx) ∧ δ'.length = 13
  | [], δ, h, _ => ⟨δ, rfl, h⟩
  | γ :: r, δ, h, hb => by
    obtain ⟨a, b, c, d, e, f, g, i, j, k, l, m, n, rfl⟩ := list13 h
    obtain ⟨δ1, β1, e1, l1⟩ := body_ok a c d e f g i j k l m n (hb γ List.mem_cons_self) (by omega)
    obtain ⟨δ2, e2, l2⟩ := bags_ok r (calmD δ1) (by unfold calmD; rw [List.length_map]; exact l1) fun γ h => hb γ (List.mem_cons_of_mem _ h)
    refine ⟨δ2, ?_, l2⟩
    show (lawBody [a, .bg, c, d, e, f, g, i, j, k, l, m, n] γ).bind _ = _
    rw [e1]
    exact e2
end
end PD
namespace PD
open PySem PySem.Spec L2
noncomputable section
theorem dC_of (d : D) (δ : Env) (β : Bag) : dC d δ β = some (d, β) := rfl
def law0 (ns : List Int) : Env := [.sc ns, .no, .no, .no, .no, .no, .no, .no, .no, .no, .no, .no, .no]
theorem core_law_eq : core_law = sqS (sIf lawT (sqS (sRet (dC (.bool false))) sNx) sNx) (sqS (sBags 0 10 1 lawBody) (sqS (sRet (dC (.bool true))) sNx)) := rfl
theorem u_pegs_g : u_pegs.g = g_pegs := by
  delta u_pegs
  rfl
theorem u_pegs_a : u_pegs.arity = 1 := by
  delta u_pegs
  rfl
theorem law_true : LawTrue core_law 13 := fun ns hok => by
  have w := bags_ok (wells 10 ns) (calmD [.sc ns, .no, .no, .no, .no, .no, .no, .no, .no, .no, .no, .no, .no]) rfl (by
    unfold wells
    refine wells_bd _ 0 ?_
    rw [List.length_append, List.length_take]; simp; omega)
  obtain ⟨δ', e1, _⟩ := w
  refine ⟨(0, 0, 0), ?_⟩
  have eb : sBags 0 10 1 lawBody (law0 ns) (0, 0, 0) = some (δ', (0, 0, 0), .nx) := by
    show (if okScript ns = true then (bagsGo 1 lawBody (wells 10 ns) (calmD [.sc ns, .no, .no, .no, .no, .no, .no, .no, .no, .no, .no, .no, .no])).map _ else none) = _
    rw [if_pos hok, e1]; rfl
  have ga : GoodSt [(0, 9), (1, 3), (2, 9), (3, 5), (4, 6)] := ⟨by decide, by decide, by decide, by decide, by decide, by decide⟩
  have gb : GoodSt [(0, 1), (1, 2)] := ⟨by decide, by decide, by decide, by decide, by decide, by decide⟩
  have pa := pegs_ok ga (0, 0, 0)
  have pb := pegs_ok gb (0, 0, 0)
  rw [show pegsOf [(0, 9), (1, 3), (2, 9), (3, 5), (4, 6)] [(0, 9), (1, 3), (2, 9), (3, 5), (4, 6)] = [1, 2, 3, 2, 4] by decide] at pa
  rw [show pegsOf [(0, 1), (1, 2)] [(0, 1), (1, 2)] = [1, 1] by decide] at pb
  rw [← u_pegs_g] at pa pb
  have n1 : tob (dOp fNe (dFn u_pegs (aCons (dTup (aCons (dTup (aCons (dC (.int 0)) (aCons (dC (.int 9)) aNil))) (aCons (dTup (aCons (dC (.int 1)) (aCons (dC (.int 3)) aNil))) (aCons (dTup (aCons (dC (.int 2)) (aCons (dC (.int 9)) aNil))) (aCons (dTup (aCons (dC (.int 3)) (aCons (dC (.int 5)) aNil))) (aCons (dTup (aCons (dC (.int 4)) (aCons (dC (.int 6)) aNil))) aNil)))))) aNil)) (dTup (aCons (dC (.int 1)) (aCons (dC (.int 2)) (aCons (dC (.int 3)) (aCons (dC (.int 2)) (aCons (dC (.int 4)) aNil))))))) (law0 ns) (0, 0, 0) = some (false, (0, 0, 0)) := by
    have q1 := aone_of (tup_of (acons_of (pr_of 0 9 (law0 ns) (0, 0, 0)) (acons_of (pr_of 1 3 (law0 ns) (0, 0, 0)) (acons_of (pr_of 2 9 (law0 ns) (0, 0, 0)) (acons_of (pr_of 3 5 (law0 ns) (0, 0, 0)) (aone_of (pr_of 4 6 (law0 ns) (0, 0, 0))))))) rfl)
    have q2 := fn_of (x := u_pegs) q1 (by rw [u_pegs_a]; rfl) pa
    have q3 := tup_of (acons_of (dC_of (.int 1) (law0 ns) (0, 0, 0)) (acons_of (dC_of (.int 2) (law0 ns) (0, 0, 0)) (acons_of (dC_of (.int 3) (law0 ns) (0, 0, 0)) (acons_of (dC_of (.int 2) (law0 ns) (0, 0, 0)) (aone_of (dC_of (.int 4) (law0 ns) (0, 0, 0))))))) rfl
    exact tob_of (op_of q2 q3 (fNe_sameT ([1, 2, 3, 2, 4] : List Int)))
  have n2 : tob (dOp fNe (dFn u_pegs (aCons (dTup (aCons (dTup (aCons (dC (.int 0)) (aCons (dC (.int 1)) aNil))) (aCons (dTup (aCons (dC (.int 1)) (aCons (dC (.int 2)) aNil))) aNil))) aNil)) (dTup (aCons (dC (.int 1)) (aCons (dC (.int 1)) aNil)))) (law0 ns) (0, 0, 0) = some (false, (0, 0, 0)) := by
    have q1 := aone_of (tup_of (acons_of (pr_of 0 1 (law0 ns) (0, 0, 0)) (aone_of (pr_of 1 2 (law0 ns) (0, 0, 0)))) rfl)
    have q2 := fn_of (x := u_pegs) q1 (by rw [u_pegs_a]; rfl) pb
    have q3 := tup_of (acons_of (dC_of (.int 1) (law0 ns) (0, 0, 0)) (aone_of (dC_of (.int 1) (law0 ns) (0, 0, 0)))) rfl
    exact tob_of (op_of q2 q3 (fNe_sameT [1, 1]))
  have hT : lawT (law0 ns) (0, 0, 0) = some (false, (0, 0, 0)) := (tOr_f n1).trans n2
  have h1 : sIf lawT (sqS (sRet (dC (.bool false))) sNx) sNx (law0 ns) (0, 0, 0) = some (law0 ns, (0, 0, 0), .nx) := if_f hT
  have ec : core_law (law0 ns) (0, 0, 0) = some (δ', (0, 0, 0), .rt (.bool true)) := by
    rw [core_law_eq, sq_nx h1, sq_nx eb]
    exact sq_rt (ret_of (dC_of _ _ _))
  show (core_law (law0 ns) (0, 0, 0)).bind outD = _
  rw [ec]; rfl
end
end PD
namespace PD
open PySem PySem.Spec L2
noncomputable section
theorem all_mk {l : PySem.W.OpenLaw} {w : World} {K : PySem.W.Frag} {h : Heap} {mg : Str → Option Value} {fa : Addr} (X : K.In h) (G : h.Ns mainGlobals mg) (hfa : mg "law" = some (.ref fa))
    {f0 : Addr} {oc0 kV0 dc0 pm0 cd0 ct0 : Value} {od0 an0 : Option Addr} {sl0 : Array (Option Value)}
    (a0 : PySem.W.nsIn K mainGlobals "is_whole" = some (some (.ref f0))) (l0 : K.lookup f0 = some ⟨oc0, od0, .func (PySem.W.fnOf "is_whole" "is_whole" (defArgs st_is_whole) (defBody st_is_whole) (defScope st_is_whole) .none kV0 dc0 pm0 an0 cd0 ct0), sl0⟩) (c0 : PySem.W.codeIn K cd0 "is_whole" = true) (k0 : PySem.W.keepIn K (.ref f0) = true)
    {f1 : Addr} {oc1 kV1 dc1 pm1 cd1 ct1 : Value} {od1 an1 : Option Addr} {sl1 : Array (Option Value)}
    (a1 : PySem.W.nsIn K mainGlobals "is_within" = some (some (.ref f1))) (l1 : K.lookup f1 = some ⟨oc1, od1, .func (PySem.W.fnOf "is_within" "is_within" (defArgs st_is_within) (defBody st_is_within) (defScope st_is_within) .none kV1 dc1 pm1 an1 cd1 ct1), sl1⟩) (c1 : PySem.W.codeIn K cd1 "is_within" = true) (k1 : PySem.W.keepIn K (.ref f1) = true)
    {f2 : Addr} {oc2 kV2 dc2 pm2 cd2 ct2 : Value} {od2 an2 : Option Addr} {sl2 : Array (Option Value)}
    (a2 : PySem.W.nsIn K mainGlobals "is_pair" = some (some (.ref f2))) (l2 : K.lookup f2 = some ⟨oc2, od2, .func (PySem.W.fnOf "is_pair" "is_pair" (defArgs st_is_pair) (defBody st_is_pair) (defScope st_is_pair) .none kV2 dc2 pm2 an2 cd2 ct2), sl2⟩) (c2 : PySem.W.codeIn K cd2 "is_pair" = true) (k2 : PySem.W.keepIn K (.ref f2) = true)
    {f3 : Addr} {oc3 kV3 dc3 pm3 cd3 ct3 : Value} {od3 an3 : Option Addr} {sl3 : Array (Option Value)}
    (a3 : PySem.W.nsIn K mainGlobals "rises" = some (some (.ref f3))) (l3 : K.lookup f3 = some ⟨oc3, od3, .func (PySem.W.fnOf "rises" "rises" (defArgs st_rises) (defBody st_rises) (defScope st_rises) .none kV3 dc3 pm3 an3 cd3 ct3), sl3⟩) (c3 : PySem.W.codeIn K cd3 "rises" = true) (k3 : PySem.W.keepIn K (.ref f3) = true)
    {f4 : Addr} {oc4 kV4 dc4 pm4 cd4 ct4 : Value} {od4 an4 : Option Addr} {sl4 : Array (Option Value)}
    (a4 : PySem.W.nsIn K mainGlobals "is_book_with" = some (some (.ref f4))) (l4 : K.lookup f4 = some ⟨oc4, od4, .func (PySem.W.fnOf "is_book_with" "is_book_with" (defArgs st_is_book_with) (defBody st_is_book_with) (defScope st_is_book_with) .none kV4 dc4 pm4 an4 cd4 ct4), sl4⟩) (c4 : PySem.W.codeIn K cd4 "is_book_with" = true) (k4 : PySem.W.keepIn K (.ref f4) = true)
    {f5 : Addr} {oc5 kV5 dc5 pm5 cd5 ct5 : Value} {od5 an5 : Option Addr} {sl5 : Array (Option Value)}
    (a5 : PySem.W.nsIn K mainGlobals "is_book" = some (some (.ref f5))) (l5 : K.lookup f5 = some ⟨oc5, od5, .func (PySem.W.fnOf "is_book" "is_book" (defArgs st_is_book) (defBody st_is_book) (defScope st_is_book) .none kV5 dc5 pm5 an5 cd5 ct5), sl5⟩) (c5 : PySem.W.codeIn K cd5 "is_book" = true) (k5 : PySem.W.keepIn K (.ref f5) = true)
    {f6 : Addr} {oc6 kV6 dc6 pm6 cd6 ct6 : Value} {od6 an6 : Option Addr} {sl6 : Array (Option Value)}
    (a6 : PySem.W.nsIn K mainGlobals "is_sight" = some (some (.ref f6))) (l6 : K.lookup f6 = some ⟨oc6, od6, .func (PySem.W.fnOf "is_sight" "is_sight" (defArgs st_is_sight) (defBody st_is_sight) (defScope st_is_sight) .none kV6 dc6 pm6 an6 cd6 ct6), sl6⟩) (c6 : PySem.W.codeIn K cd6 "is_sight" = true) (k6 : PySem.W.keepIn K (.ref f6) = true)
    {f7 : Addr} {oc7 kV7 dc7 pm7 cd7 ct7 : Value} {od7 an7 : Option Addr} {sl7 : Array (Option Value)}
    (a7 : PySem.W.nsIn K mainGlobals "are_sights" = some (some (.ref f7))) (l7 : K.lookup f7 = some ⟨oc7, od7, .func (PySem.W.fnOf "are_sights" "are_sights" (defArgs st_are_sights) (defBody st_are_sights) (defScope st_are_sights) .none kV7 dc7 pm7 an7 cd7 ct7), sl7⟩) (c7 : PySem.W.codeIn K cd7 "are_sights" = true) (k7 : PySem.W.keepIn K (.ref f7) = true)
    {f8 : Addr} {oc8 kV8 dc8 pm8 cd8 ct8 : Value} {od8 an8 : Option Addr} {sl8 : Array (Option Value)}
    (a8 : PySem.W.nsIn K mainGlobals "look_at" = some (some (.ref f8))) (l8 : K.lookup f8 = some ⟨oc8, od8, .func (PySem.W.fnOf "look_at" "look_at" (defArgs st_look_at) (defBody st_look_at) (defScope st_look_at) .none kV8 dc8 pm8 an8 cd8 ct8), sl8⟩) (c8 : PySem.W.codeIn K cd8 "look_at" = true) (k8 : PySem.W.keepIn K (.ref f8) = true)
    {f9 : Addr} {oc9 kV9 dc9 pm9 cd9 ct9 : Value} {od9 an9 : Option Addr} {sl9 : Array (Option Value)}
    (a9 : PySem.W.nsIn K mainGlobals "pegs_can_be" = some (some (.ref f9))) (l9 : K.lookup f9 = some ⟨oc9, od9, .func (PySem.W.fnOf "pegs_can_be" "pegs_can_be" (defArgs st_pegs_can_be) (defBody st_pegs_can_be) (defScope st_pegs_can_be) .none kV9 dc9 pm9 an9 cd9 ct9), sl9⟩) (c9 : PySem.W.codeIn K cd9 "pegs_can_be" = true) (k9 : PySem.W.keepIn K (.ref f9) = true)
    {f10 : Addr} {oc10 kV10 dc10 pm10 cd10 ct10 : Value} {od10 an10 : Option Addr} {sl10 : Array (Option Value)}
    (a10 : PySem.W.nsIn K mainGlobals "can_be" = some (some (.ref f10))) (l10 : K.lookup f10 = some ⟨oc10, od10, .func (PySem.W.fnOf "can_be" "can_be" (defArgs st_can_be) (defBody st_can_be) (defScope st_can_be) .none kV10 dc10 pm10 an10 cd10 ct10), sl10⟩) (c10 : PySem.W.codeIn K cd10 "can_be" = true) (k10 : PySem.W.keepIn K (.ref f10) = true)
    {f11 : Addr} {oc11 kV11 dc11 pm11 cd11 ct11 : Value} {od11 an11 : Option Addr} {sl11 : Array (Option Value)}
    (a11 : PySem.W.nsIn K mainGlobals "are_stays" = some (some (.ref f11))) (l11 : K.lookup f11 = some ⟨oc11, od11, .func (PySem.W.fnOf "are_stays" "are_stays" (defArgs st_are_stays) (defBody st_are_stays) (defScope st_are_stays) .none kV11 dc11 pm11 an11 cd11 ct11), sl11⟩) (c11 : PySem.W.codeIn K cd11 "are_stays" = true) (k11 : PySem.W.keepIn K (.ref f11) = true)
    {f12 : Addr} {oc12 kV12 dc12 pm12 cd12 ct12 : Value} {od12 an12 : Option Addr} {sl12 : Array (Option Value)}
    (a12 : PySem.W.nsIn K mainGlobals "pegs_so" = some (some (.ref f12))) (l12 : K.lookup f12 = some ⟨oc12, od12, .func (PySem.W.fnOf "pegs_so" "pegs_so" (defArgs st_pegs_so) (defBody st_pegs_so) (defScope st_pegs_so) .none kV12 dc12 pm12 an12 cd12 ct12), sl12⟩) (c12 : PySem.W.codeIn K cd12 "pegs_so" = true) (k12 : PySem.W.keepIn K (.ref f12) = true)
    {f13 : Addr} {oc13 kV13 dc13 pm13 cd13 ct13 : Value} {od13 an13 : Option Addr} {sl13 : Array (Option Value)}
    (a13 : PySem.W.nsIn K mainGlobals "pegs" = some (some (.ref f13))) (l13 : K.lookup f13 = some ⟨oc13, od13, .func (PySem.W.fnOf "pegs" "pegs" (defArgs st_pegs) (defBody st_pegs) (defScope st_pegs) .none kV13 dc13 pm13 an13 cd13 ct13), sl13⟩) (c13 : PySem.W.codeIn K cd13 "pegs" = true) (k13 : PySem.W.keepIn K (.ref f13) = true)
    {f14 : Addr} {oc14 kV14 dc14 pm14 cd14 ct14 : Value} {od14 an14 : Option Addr} {sl14 : Array (Option Value)}
    (a14 : PySem.W.nsIn K mainGlobals "hangs" = some (some (.ref f14))) (l14 : K.lookup f14 = some ⟨oc14, od14, .func (PySem.W.fnOf "hangs" "hangs" (defArgs st_hangs) (defBody st_hangs) (defScope st_hangs) .none kV14 dc14 pm14 an14 cd14 ct14), sl14⟩) (c14 : PySem.W.codeIn K cd14 "hangs" = true) (k14 : PySem.W.keepIn K (.ref f14) = true)
    {f15 : Addr} {oc15 kV15 dc15 pm15 cd15 ct15 : Value} {od15 an15 : Option Addr} {sl15 : Array (Option Value)}
    (a15 : PySem.W.nsIn K mainGlobals "is_story" = some (some (.ref f15))) (l15 : K.lookup f15 = some ⟨oc15, od15, .func (PySem.W.fnOf "is_story" "is_story" (defArgs st_is_story) (defBody st_is_story) (defScope st_is_story) .none kV15 dc15 pm15 an15 cd15 ct15), sl15⟩) (c15 : PySem.W.codeIn K cd15 "is_story" = true) (k15 : PySem.W.keepIn K (.ref f15) = true)
    {f16 : Addr} {oc16 kV16 dc16 pm16 cd16 ct16 : Value} {od16 an16 : Option Addr} {sl16 : Array (Option Value)}
    (a16 : PySem.W.nsIn K mainGlobals "_law_well" = some (some (.ref f16))) (l16 : K.lookup f16 = some ⟨oc16, od16, .func (PySem.W.fnOf "_law_well" "_law_well" (defArgs st_L_law_well) (defBody st_L_law_well) (defScope st_L_law_well) .none kV16 dc16 pm16 an16 cd16 ct16), sl16⟩) (c16 : PySem.W.codeIn K cd16 "_law_well" = true) (k16 : PySem.W.keepIn K (.ref f16) = true)
    {f17 : Addr} {oc17 kV17 dc17 pm17 cd17 ct17 : Value} {od17 an17 : Option Addr} {sl17 : Array (Option Value)}
    (a17 : PySem.W.nsIn K mainGlobals "_law_take" = some (some (.ref f17))) (l17 : K.lookup f17 = some ⟨oc17, od17, .func (PySem.W.fnOf "_law_take" "_law_take" (defArgs st_L_law_take) (defBody st_L_law_take) (defScope st_L_law_take) .none kV17 dc17 pm17 an17 cd17 ct17), sl17⟩) (c17 : PySem.W.codeIn K cd17 "_law_take" = true) (k17 : PySem.W.keepIn K (.ref f17) = true)
    {f18 : Addr} {oc18 kV18 dc18 pm18 cd18 ct18 : Value} {od18 an18 : Option Addr} {sl18 : Array (Option Value)}
    (a18 : PySem.W.nsIn K mainGlobals "_law_bags" = some (some (.ref f18))) (l18 : K.lookup f18 = some ⟨oc18, od18, .func (PySem.W.fnOf "_law_bags" "_law_bags" (defArgs st_L_law_bags) (defBody st_L_law_bags) (defScope st_L_law_bags) .none kV18 dc18 pm18 an18 cd18 ct18), sl18⟩) (c18 : PySem.W.codeIn K cd18 "_law_bags" = true) (k18 : PySem.W.keepIn K (.ref f18) = true)
    {f19 : Addr} {oc19 kV19 dc19 pm19 cd19 ct19 : Value} {od19 an19 : Option Addr} {sl19 : Array (Option Value)}
    (a19 : PySem.W.nsIn K mainGlobals "_law_same" = some (some (.ref f19))) (l19 : K.lookup f19 = some ⟨oc19, od19, .func (PySem.W.fnOf "_law_same" "_law_same" (defArgs st_L_law_same) (defBody st_L_law_same) (defScope st_L_law_same) .none kV19 dc19 pm19 an19 cd19 ct19), sl19⟩) (c19 : PySem.W.codeIn K cd19 "_law_same" = true) (k19 : PySem.W.keepIn K (.ref f19) = true)
    {f20 : Addr} {oc20 kV20 dc20 pm20 cd20 ct20 : Value} {od20 an20 : Option Addr} {sl20 : Array (Option Value)}
    (a20 : PySem.W.nsIn K mainGlobals "_law_stays" = some (some (.ref f20))) (l20 : K.lookup f20 = some ⟨oc20, od20, .func (PySem.W.fnOf "_law_stays" "_law_stays" (defArgs st_L_law_stays) (defBody st_L_law_stays) (defScope st_L_law_stays) .none kV20 dc20 pm20 an20 cd20 ct20), sl20⟩) (c20 : PySem.W.codeIn K cd20 "_law_stays" = true) (k20 : PySem.W.keepIn K (.ref f20) = true)
    {f21 : Addr} {oc21 kV21 dc21 pm21 cd21 ct21 : Value} {od21 an21 : Option Addr} {sl21 : Array (Option Value)}
    (a21 : PySem.W.nsIn K mainGlobals "_law_pegs" = some (some (.ref f21))) (l21 : K.lookup f21 = some ⟨oc21, od21, .func (PySem.W.fnOf "_law_pegs" "_law_pegs" (defArgs st_L_law_pegs) (defBody st_L_law_pegs) (defScope st_L_law_pegs) .none kV21 dc21 pm21 an21 cd21 ct21), sl21⟩) (c21 : PySem.W.codeIn K cd21 "_law_pegs" = true) (k21 : PySem.W.keepIn K (.ref f21) = true)
    {f22 : Addr} {oc22 kV22 dc22 pm22 cd22 ct22 : Value} {od22 an22 : Option Addr} {sl22 : Array (Option Value)}
    (a22 : PySem.W.nsIn K mainGlobals "_law_book" = some (some (.ref f22))) (l22 : K.lookup f22 = some ⟨oc22, od22, .func (PySem.W.fnOf "_law_book" "_law_book" (defArgs st_L_law_book) (defBody st_L_law_book) (defScope st_L_law_book) .none kV22 dc22 pm22 an22 cd22 ct22), sl22⟩) (c22 : PySem.W.codeIn K cd22 "_law_book" = true) (k22 : PySem.W.keepIn K (.ref f22) = true)
    {f23 : Addr} {oc23 kV23 dc23 pm23 cd23 ct23 : Value} {od23 an23 : Option Addr} {sl23 : Array (Option Value)}
    (a23 : PySem.W.nsIn K mainGlobals "law" = some (some (.ref f23))) (l23 : K.lookup f23 = some ⟨oc23, od23, .func (PySem.W.fnOf "law" "law" (defArgs st_law) (defBody st_law) (defScope st_law) .none kV23 dc23 pm23 an23 cd23 ct23), sl23⟩) (c23 : PySem.W.codeIn K cd23 "law" = true) (k23 : PySem.W.keepIn K (.ref f23) = true)
    (z0 : PySem.W.nsIn K mainGlobals "len" = some none)
    (z1 : PySem.W.nsIn K mainGlobals "range" = some none)
    (z2 : PySem.W.nsIn K mainGlobals "zip" = some none)
    (z3 : PySem.W.nsIn K mainGlobals "enumerate" = some none)
    (z4 : PySem.W.nsIn K mainGlobals "isinstance" = some none)
    (z5 : PySem.W.nsIn K mainGlobals "all" = some none)
    (z6 : PySem.W.nsIn K mainGlobals "any" = some none)
    (z7 : PySem.W.nsIn K mainGlobals "min" = some none)
    (z8 : PySem.W.nsIn K mainGlobals "max" = some none)
    (z9 : PySem.W.nsIn K mainGlobals "sum" = some none)
    (z10 : PySem.W.nsIn K mainGlobals "sorted" = some none)
    (z11 : PySem.W.nsIn K mainGlobals "list" = some none)
    (z12 : PySem.W.nsIn K mainGlobals "tuple" = some none)
    (z13 : PySem.W.nsIn K mainGlobals "int" = some none)
    (z14 : PySem.W.nsIn K mainGlobals "abs" = some none)
    (z15 : PySem.W.nsIn K mainGlobals "set" = some none)
    (z16 : PySem.W.nsIn K mainGlobals "dict" = some none)
    (z17 : PySem.W.nsIn K mainGlobals "str" = some none)
    (z18 : PySem.W.nsIn K mainGlobals "bool" = some none)
    (z19 : PySem.W.nsIn K mainGlobals "reversed" = some none)
    {t0 : _} (v0 : PySem.W.nsIn K mainGlobals "MOST_HOUR" = some (some (.int 1000000 t0)))
    {t1 : _} (v1 : PySem.W.nsIn K mainGlobals "MOST_ROWS" = some (some (.int 24 t1)))
    {t2 : _} (v2 : PySem.W.nsIn K mainGlobals "MOST_PEG" = some (some (.int 24 t2)))
    {t3 : _} (v3 : PySem.W.nsIn K mainGlobals "MOST_SIGHTS" = some (some (.int 8 t3)))
    : ∃ fd : FuncData, (∀ (s : Shared) (v : Value), BindsTo s fd ⟨[v], []⟩ [("script", v)]) ∧ ∀ base : Heap, K.In base → base.Ns mainGlobals mg → FnOk l.prog w K mg base CX0 13 fa fd ["script"] (spL K core_law 13) := by
  have e := hfa.symm.trans (PySem.W.mg_of X G a23)
  cases e
  have bl : ∀ x, x ∈ bltNames → mg x = none := by
    intro x hx
    simp only [bltNames, List.mem_cons, List.not_mem_nil, or_false] at hx
    rcases hx with rfl | rfl | rfl | rfl | rfl | rfl | rfl | rfl | rfl | rfl | rfl | rfl | rfl | rfl | rfl | rfl | rfl | rfl | rfl | rfl
    · exact PySem.W.mg_none_of X G z0
    · exact PySem.W.mg_none_of X G z1
    · exact PySem.W.mg_none_of X G z2
    · exact PySem.W.mg_none_of X G z3
    · exact PySem.W.mg_none_of X G z4
    · exact PySem.W.mg_none_of X G z5
    · exact PySem.W.mg_none_of X G z6
    · exact PySem.W.mg_none_of X G z7
    · exact PySem.W.mg_none_of X G z8
    · exact PySem.W.mg_none_of X G z9
    · exact PySem.W.mg_none_of X G z10
    · exact PySem.W.mg_none_of X G z11
    · exact PySem.W.mg_none_of X G z12
    · exact PySem.W.mg_none_of X G z13
    · exact PySem.W.mg_none_of X G z14
    · exact PySem.W.mg_none_of X G z15
    · exact PySem.W.mg_none_of X G z16
    · exact PySem.W.mg_none_of X G z17
    · exact PySem.W.mg_none_of X G z18
    · exact PySem.W.mg_none_of X G z19
  have D0 : Df K mg "is_whole" st_is_whole ["thing"] := df_mk X G a0 l0 c0 k0 fun _ _ _ _ _ _ us hl => match us, hl with | [_], _ => rfl
  have D1 : Df K mg "is_within" st_is_within ["thing", "low", "high"] := df_mk X G a1 l1 c1 k1 fun _ _ _ _ _ _ us hl => match us, hl with | [_, _, _], _ => rfl
  have D2 : Df K mg "is_pair" st_is_pair ["thing"] := df_mk X G a2 l2 c2 k2 fun _ _ _ _ _ _ us hl => match us, hl with | [_], _ => rfl
  have D3 : Df K mg "rises" st_rises ["things"] := df_mk X G a3 l3 c3 k3 fun _ _ _ _ _ _ us hl => match us, hl with | [_], _ => rfl
  have D4 : Df K mg "is_book_with" st_is_book_with ["thing", "unread"] := df_mk X G a4 l4 c4 k4 fun _ _ _ _ _ _ us hl => match us, hl with | [_, _], _ => rfl
  have D5 : Df K mg "is_book" st_is_book ["thing"] := df_mk X G a5 l5 c5 k5 fun _ _ _ _ _ _ us hl => match us, hl with | [_], _ => rfl
  have D6 : Df K mg "is_sight" st_is_sight ["close", "thing"] := df_mk X G a6 l6 c6 k6 fun _ _ _ _ _ _ us hl => match us, hl with | [_, _], _ => rfl
  have D7 : Df K mg "are_sights" st_are_sights ["close", "thing"] := df_mk X G a7 l7 c7 k7 fun _ _ _ _ _ _ us hl => match us, hl with | [_, _], _ => rfl
  have D8 : Df K mg "look_at" st_look_at ["book", "sights"] := df_mk X G a8 l8 c8 k8 fun _ _ _ _ _ _ us hl => match us, hl with | [_, _], _ => rfl
  have D9 : Df K mg "pegs_can_be" st_pegs_can_be ["pegs"] := df_mk X G a9 l9 c9 k9 fun _ _ _ _ _ _ us hl => match us, hl with | [_], _ => rfl
  have D10 : Df K mg "can_be" st_can_be ["book"] := df_mk X G a10 l10 c10 k10 fun _ _ _ _ _ _ us hl => match us, hl with | [_], _ => rfl
  have D11 : Df K mg "are_stays" st_are_stays ["thing"] := df_mk X G a11 l11 c11 k11 fun _ _ _ _ _ _ us hl => match us, hl with | [_], _ => rfl
  have D12 : Df K mg "pegs_so" st_pegs_so ["stays"] := df_mk X G a12 l12 c12 k12 fun _ _ _ _ _ _ us hl => match us, hl with | [_], _ => rfl
  have D13 : Df K mg "pegs" st_pegs ["stays"] := df_mk X G a13 l13 c13 k13 fun _ _ _ _ _ _ us hl => match us, hl with | [_], _ => rfl
  have D14 : Df K mg "hangs" st_hangs ["come", "gone", "hour"] := df_mk X G a14 l14 c14 k14 fun _ _ _ _ _ _ us hl => match us, hl with | [_, _, _], _ => rfl
  have D15 : Df K mg "is_story" st_is_story ["book", "sights", "thing"] := df_mk X G a15 l15 c15 k15 fun _ _ _ _ _ _ us hl => match us, hl with | [_, _, _], _ => rfl
  have D16 : Df K mg "_law_well" st_L_law_well ["cell", "turn"] := df_mk X G a16 l16 c16 k16 fun _ _ _ _ _ _ us hl => match us, hl with | [_, _], _ => rfl
  have D17 : Df K mg "_law_take" st_L_law_take ["bag", "many"] := df_mk X G a17 l17 c17 k17 fun _ _ _ _ _ _ us hl => match us, hl with | [_, _], _ => rfl
  have D18 : Df K mg "_law_bags" st_L_law_bags ["script", "most"] := df_mk X G a18 l18 c18 k18 fun _ _ _ _ _ _ us hl => match us, hl with | [_, _], _ => rfl
  have D19 : Df K mg "_law_same" st_L_law_same ["a", "b"] := df_mk X G a19 l19 c19 k19 fun _ _ _ _ _ _ us hl => match us, hl with | [_, _], _ => rfl
  have D20 : Df K mg "_law_stays" st_L_law_stays ["bag", "most", "far"] := df_mk X G a20 l20 c20 k20 fun _ _ _ _ _ _ us hl => match us, hl with | [_, _, _], _ => rfl
  have D21 : Df K mg "_law_pegs" st_L_law_pegs ["stays"] := df_mk X G a21 l21 c21 k21 fun _ _ _ _ _ _ us hl => match us, hl with | [_], _ => rfl
  have D22 : Df K mg "_law_book" st_L_law_book ["bag", "stays"] := df_mk X G a22 l22 c22 k22 fun _ _ _ _ _ _ us hl => match us, hl with | [_, _], _ => rfl
  have D23 : Df K mg "law" st_law ["script"] := df_mk X G a23 l23 c23 k23 fun _ _ _ _ _ _ us hl => match us, hl with | [_], _ => rfl
  have C0 : CsOk l.prog w K mg "MOST_HOUR" (.int 1000000) := ⟨_, .int 1000000, PySem.W.mg_of X G v0, ⟨_, rfl⟩, fun _ => .int _⟩
  have C1 : CsOk l.prog w K mg "MOST_ROWS" (.int 24) := ⟨_, .int 24, PySem.W.mg_of X G v1, ⟨_, rfl⟩, fun _ => .int _⟩
  have C2 : CsOk l.prog w K mg "MOST_PEG" (.int 24) := ⟨_, .int 24, PySem.W.mg_of X G v2, ⟨_, rfl⟩, fun _ => .int _⟩
  have C3 : CsOk l.prog w K mg "MOST_SIGHTS" (.int 8) := ⟨_, .int 8, PySem.W.mg_of X G v3, ⟨_, rfl⟩, fun _ => .int _⟩
  have F23 := fun_mk (st := st_law) l23 c23 k23
  refine ⟨PySem.W.fnOf "law" "law" (defArgs st_law) (defBody st_law) (defScope st_law) .none kV23 dc23 pm23 an23 cd23 ct23, fun s v => .of_eq rfl, fun base _ _ => ?_⟩
  have U18 : BOk l.prog w K mg base 2 := bok_mk D16 D18 (bl _ (by decide +kernel))
  have U0 : UOk l.prog w K mg base 1 u_is_whole := ok_is_whole (k := 0) D0 bl  
  have U1 : UOk l.prog w K mg base 2 u_is_within := ok_is_within (k := 1) D1 bl (U0.mono (by decide)) 
  have U2 : UOk l.prog w K mg base 1 u_is_pair := ok_is_pair (k := 0) D2 bl  
  have U3 : UOk l.prog w K mg base 1 u_rises := ok_rises (k := 0) D3 bl  
  have U4 : UOk l.prog w K mg base 3 u_is_book_with := ok_is_book_with (k := 2) D4 bl (U2.mono (by decide)) (U1.mono (by decide)) (U3.mono (by decide)) C0 C1 C2
  have U5 : UOk l.prog w K mg base 4 u_is_book := ok_is_book (k := 3) D5 bl (U4.mono (by decide)) 
  have U6 : UOk l.prog w K mg base 3 u_is_sight := ok_is_sight (k := 2) D6 bl (U1.mono (by decide)) C2
  have U7 : UOk l.prog w K mg base 4 u_are_sights := ok_are_sights (k := 3) D7 bl (U6.mono (by decide)) (U3.mono (by decide)) C3
  have U8 : UOk l.prog w K mg base 5 u_look_at := ok_look_at (k := 4) D8 bl (U5.mono (by decide)) (U7.mono (by decide)) 
  have U9 : UOk l.prog w K mg base 1 u_pegs_can_be := ok_pegs_can_be (k := 0) D9 bl  
  have U10 : UOk l.prog w K mg base 5 u_can_be := ok_can_be (k := 4) D10 bl (U5.mono (by decide)) (U9.mono (by decide)) 
  have U11 : UOk l.prog w K mg base 3 u_are_stays := ok_are_stays (k := 2) D11 bl (U2.mono (by decide)) (U1.mono (by decide)) (U3.mono (by decide)) C1 C0
  have U12 : UOk l.prog w K mg base 1 u_pegs_so := ok_pegs_so (k := 0) D12 bl  
  have U13 : UOk l.prog w K mg base 4 u_pegs := ok_pegs (k := 3) D13 bl (U11.mono (by decide)) (U12.mono (by decide)) 
  have U14 : UOk l.prog w K mg base 1 u_hangs := ok_hangs (k := 0) D14 bl  
  have U15 : UOk l.prog w K mg base 6 u_is_story := ok_is_story (k := 5) D15 bl (U8.mono (by decide)) (U1.mono (by decide)) (U12.mono (by decide)) (U14.mono (by decide)) 
  have U17 : UOk l.prog w K mg base 1 u_L_law_take := ok_L_law_take (k := 0) D17 bl  
  have U19 : UOk l.prog w K mg base 12 u_L_law_same := ok_L_law_same (k := 0) D19 bl   12
  have U20 : UOk l.prog w K mg base 2 u_L_law_stays := ok_L_law_stays (k := 1) D20 bl (U17.mono (by decide)) 
  have U21 : UOk l.prog w K mg base 1 u_L_law_pegs := ok_L_law_pegs (k := 0) D21 bl  
  have U22 : UOk l.prog w K mg base 2 u_L_law_book := ok_L_law_book (k := 1) D22 bl (U17.mono (by decide)) (U21.mono (by decide)) 
  exact law_fn (Γ := cx_law) F23 ⟨bl, all_us (by exact ⟨U13.mono (by decide), ⟨U20.mono (by decide), ⟨U17.mono (by decide), ⟨U19.mono (by decide), ⟨U21.mono (by decide), ⟨U22.mono (by decide), ⟨U10.mono (by decide), ⟨U15.mono (by decide), trivial⟩⟩⟩⟩⟩⟩⟩⟩), all_cs (by exact trivial), fun _ => bok_mono U18 (by decide)⟩ sc_law (by decide +kernel) rfl cert_law rfl rfl law_true
end
end PD
open PySem PySem.W PyProof.Rows
set_option maxHeartbeats 0 in
theorem PySem.Challenge.cw_leastpeg_k02_whole_pegs_that_are_got_holds : PySem.Challenge.rw_leastpeg_k02_whole_pegs_that_are_got.Holds := by
  w_on; o_law; k_head; (case hw => w_witness2)
  k_fill
  refine L2.walk_ofB (l := PySem.Challenge.rw_leastpeg_k02_whole_pegs_that_are_got) (n := 63) (k := 13) (x := "script") (CX := fun _ => L2.CX0) (sp := fun w => PD.spL _ PD.core_law 13) rfl (by decide) rfl ⟨rfl, by decide, by decide⟩ (fun w h Y => PySem.W.kIn_of Y) ?F (fun w H a ns hl hb _ hS => ⟨a, ns, rfl, hS, PD.okScript_of hl hb, fun _ => rfl⟩) (fun _ _ _ _ _ h => h)
  case F =>
    intro w mg fa h KX G hmg
    refine' PD.all_mk KX G hmg ?a0 ?l0 ?c0 ?k0 ?a1 ?l1 ?c1 ?k1 ?a2 ?l2 ?c2 ?k2 ?a3 ?l3 ?c3 ?k3 ?a4 ?l4 ?c4 ?k4 ?a5 ?l5 ?c5 ?k5 ?a6 ?l6 ?c6 ?k6 ?a7 ?l7 ?c7 ?k7 ?a8 ?l8 ?c8 ?k8 ?a9 ?l9 ?c9 ?k9 ?a10 ?l10 ?c10 ?k10 ?a11 ?l11 ?c11 ?k11 ?a12 ?l12 ?c12 ?k12 ?a13 ?l13 ?c13 ?k13 ?a14 ?l14 ?c14 ?k14 ?a15 ?l15 ?c15 ?k15 ?a16 ?l16 ?c16 ?k16 ?a17 ?l17 ?c17 ?k17 ?a18 ?l18 ?c18 ?k18 ?a19 ?l19 ?c19 ?k19 ?a20 ?l20 ?c20 ?k20 ?a21 ?l21 ?c21 ?k21 ?a22 ?l22 ?c22 ?k22 ?a23 ?l23 ?c23 ?k23 ?z0 ?z1 ?z2 ?z3 ?z4 ?z5 ?z6 ?z7 ?z8 ?z9 ?z10 ?z11 ?z12 ?z13 ?z14 ?z15 ?z16 ?z17 ?z18 ?z19 ?v0 ?v1 ?v2 ?v3
    (case a0 => k_is); (case l0 => k_is); (case c0 => k_is); (case k0 => k_is); (case a1 => k_is); (case l1 => k_is); (case c1 => k_is); (case k1 => k_is); (case a2 => k_is); (case l2 => k_is); (case c2 => k_is); (case k2 => k_is); (case a3 => k_is); (case l3 => k_is); (case c3 => k_is); (case k3 => k_is); (case a4 => k_is); (case l4 => k_is); (case c4 => k_is); (case k4 => k_is); (case a5 => k_is); (case l5 => k_is); (case c5 => k_is); (case k5 => k_is); (case a6 => k_is); (case l6 => k_is); (case c6 => k_is); (case k6 => k_is); (case a7 => k_is); (case l7 => k_is); (case c7 => k_is); (case k7 => k_is); (case a8 => k_is); (case l8 => k_is); (case c8 => k_is); (case k8 => k_is); (case a9 => k_is); (case l9 => k_is); (case c9 => k_is); (case k9 => k_is); (case a10 => k_is); (case l10 => k_is); (case c10 => k_is); (case k10 => k_is); (case a11 => k_is); (case l11 => k_is); (case c11 => k_is); (case k11 => k_is); (case a12 => k_is); (case l12 => k_is); (case c12 => k_is); (case k12 => k_is); (case a13 => k_is); (case l13 => k_is); (case c13 => k_is); (case k13 => k_is); (case a14 => k_is); (case l14 => k_is); (case c14 => k_is); (case k14 => k_is); (case a15 => k_is); (case l15 => k_is); (case c15 => k_is); (case k15 => k_is); (case a16 => k_is); (case l16 => k_is); (case c16 => k_is); (case k16 => k_is); (case a17 => k_is); (case l17 => k_is); (case c17 => k_is); (case k17 => k_is); (case a18 => k_is); (case l18 => k_is); (case c18 => k_is); (case k18 => k_is); (case a19 => k_is); (case l19 => k_is); (case c19 => k_is); (case k19 => k_is); (case a20 => k_is); (case l20 => k_is); (case c20 => k_is); (case k20 => k_is); (case a21 => k_is); (case l21 => k_is); (case c21 => k_is); (case k21 => k_is); (case a22 => k_is); (case l22 => k_is); (case c22 => k_is); (case k22 => k_is); (case a23 => k_is); (case l23 => k_is); (case c23 => k_is); (case k23 => k_is); (case z0 => k_is); (case z1 => k_is); (case z2 => k_is); (case z3 => k_is); (case z4 => k_is); (case z5 => k_is); (case z6 => k_is); (case z7 => k_is); (case z8 => k_is); (case z9 => k_is); (case z10 => k_is); (case z11 => k_is); (case z12 => k_is); (case z13 => k_is); (case z14 => k_is); (case z15 => k_is); (case z16 => k_is); (case z17 => k_is); (case z18 => k_is); (case z19 => k_is); (case v0 => k_is); (case v1 => k_is); (case v2 => k_is); (case v3 => k_is)
